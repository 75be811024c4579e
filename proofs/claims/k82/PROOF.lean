import PyProof.Rows.All
import Wide.All
import OpenK.AllK
import Wide.FinOn
import HandS.ForMost
import HandS.Codes
import HandS.IsInst
import HandS.Conv
import HandS.DictComp
import HandS.SortInts
import HandS.Defaults
import HandS.OwnEq
import HandS.Star
import HandS.Small
import HandS.List
import HandS.Dict
import HandS.More
import KE.Datum
import KE.KDictZip
import KE.KItemsList
import HandS.ListItems
import HandS.HeadHook1
import HandS.HeadHook2
import HandS.ClsMeth
import HandS.HeadNt
import HandS.CallLocal
import KE.KStateDown
import Lean
import HandS.Base
import HandS.Call
import HandS.Ends
import HandS.Words
import HandS.WordsExc
import HandS.Head0
import HandS.Head1
import HandS.Head2
import HandS.HeadEnd
import PySem.Challenge.RW_seenrows_k82_whole_digits_guessed
section
set_option Elab.async false
set_option linter.all false
set_option maxRecDepth 100000
set_option maxHeartbeats 4000000
/-! A typed program logic over the hand layer: values by what they stand for, the heap in a frozen part and a part of one's own. -/
namespace SR
open PySem PySem.Spec PyProof.Rows L2
abbrev St := L2.St

/-! ### the weakest readings -/
def wpE (X : Cx) (e : Expr) : TE := fun σ H Q => ∀ pins s, Inv X pins σ H s → wpAny (model X.prog X.w) X.A (eval e X.env) (EP X pins σ Q) X.xe s
def wpT (X : Cx) (e : Expr) : TT := fun σ H Q => ∀ pins s, Inv X pins σ H s → wpAny (model X.prog X.w) X.A (isTrue e X.env (eval e X.env)) (TP X pins σ Q) X.xe s
def wpS (X : Cx) (st : Stmt) : TS := fun D σ H => ∀ pins s, Inv X pins σ H s → wpAny (model X.prog X.w) X.A (exec st X.env) (SP X pins D) X.xe s
def wpSs (X : Cx) (st : List Stmt) : TS := fun D σ H => ∀ pins s, Inv X pins σ H s → wpAny (model X.prog X.w) X.A (execs st X.env) (SP X pins D) X.xe s
section
variable {X : Cx}
theorem pe_wp {e : Expr} : PE X e (wpE X e) := ⟨fun pins s σ H Q I h => h pins s I⟩
theorem pt_wp {e : Expr} : PT X e (wpT X e) := ⟨fun pins s σ H Q I h => h pins s I⟩
theorem ps_wp {st : Stmt} : PS X st (wpS X st) := ⟨fun pins s σ H D I h => h pins s I⟩
theorem pss_wp {st : List Stmt} : PSs X st (wpSs X st) := ⟨fun pins s σ H D I h => h pins s I⟩
theorem wp_of {e : Expr} {t : TE} {σ : St} {H : Hp} {Q : VK} (h : PE X e t) (q : t σ H Q) : wpE X e σ H Q := fun pins s I => h.run pins s σ H Q I q
theorem wt_of {e : Expr} {t : TT} {σ : St} {H : Hp} {Q : Bool → Hp → Prop} (h : PT X e t) (q : t σ H Q) : wpT X e σ H Q := fun pins s I => h.run pins s σ H Q I q
theorem ws_of {st : Stmt} {t : TS} {σ : St} {H : Hp} {D : Ends} (h : PS X st t) (q : t D σ H) : wpS X st D σ H := fun pins s I => h.run pins s σ H D I q
theorem wss_of {st : List Stmt} {t : TS} {σ : St} {H : Hp} {D : Ends} (h : PSs X st t) (q : t D σ H) : wpSs X st D σ H := fun pins s I => h.run pins s σ H D I q
end

/-! ### heaps by what they hold -/
/-- a dict while it is walked is that dict -/
def norm : HO → HO
  | .frz _ (.dK kvs) => .dK kvs
  | .frz _ (.dT kvs) => .dT kvs
  | o => o
def HLe (F F' : Hp) : Prop := ∀ a o, F a = some o → ∃ o', F' a = some o' ∧ norm o' = norm o
theorem HLe.refl {F : Hp} : HLe F F := fun a o h => ⟨o, h, rfl⟩
theorem HLe.trans {F G H : Hp} (p : HLe F G) (q : HLe G H) : HLe F H := fun a o h => by
  obtain ⟨o1, h1, e1⟩ := p a o h
  obtain ⟨o2, h2, e2⟩ := q a o1 h1
  exact ⟨o2, h2, e2.trans e1⟩
theorem norm_lst {o : HO} {xs : List V} (h : norm o = .lst xs) : o = .lst xs := by
  cases o with
  | frz ob u => cases u <;> first | exact h | cases h
  | _ => first | exact h | cases h
theorem norm_tup {o : HO} {xs : List V} (h : norm o = .tup xs) : o = .tup xs := by
  cases o with
  | frz ob u => cases u <;> first | exact h | cases h
  | _ => first | exact h | cases h
theorem norm_ins {o : HO} {C dx : Addr} {fs : List (Str × V)} (h : norm o = .ins C dx fs) : o = .ins C dx fs := by
  cases o with
  | frz ob u => cases u <;> first | exact h | cases h
  | _ => first | exact h | cases h
theorem norm_dK {o : HO} {kvs : List (Key × V)} (h : norm o = .dK kvs) : o = .dK kvs ∨ ∃ ob, o = .frz ob (.dK kvs) := by
  cases o with
  | frz ob u =>
    cases u with
    | dK k =>
      have e : HO.dK k = .dK kvs := h
      injection e with e
      subst e
      exact .inr ⟨ob, rfl⟩
    | _ => cases h
  | dK k => exact .inl h
  | _ => cases h
theorem norm_dT {o : HO} {kvs : List (List Key × V)} (h : norm o = .dT kvs) : o = .dT kvs ∨ ∃ ob, o = .frz ob (.dT kvs) := by
  cases o with
  | frz ob u =>
    cases u with
    | dT k =>
      have e : HO.dT k = .dT kvs := h
      injection e with e
      subst e
      exact .inr ⟨ob, rfl⟩
    | _ => cases h
  | dT k => exact .inl h
  | _ => cases h
section
variable {F F' : Hp} {a : Addr} {xs : List V}
theorem HLe.lst (h : HLe F F') (e : F a = some (.lst xs)) : F' a = some (.lst xs) := by
  obtain ⟨o, h1, h2⟩ := h a _ e
  rw [h1, norm_lst h2]
theorem HLe.tup (h : HLe F F') (e : F a = some (.tup xs)) : F' a = some (.tup xs) := by
  obtain ⟨o, h1, h2⟩ := h a _ e
  rw [h1, norm_tup h2]
theorem HLe.ins (h : HLe F F') {C dx : Addr} {fs : List (Str × V)} (e : F a = some (.ins C dx fs)) : F' a = some (.ins C dx fs) := by
  obtain ⟨o, h1, h2⟩ := h a _ e
  rw [h1, norm_ins h2]
theorem HLe.dK (h : HLe F F') {kvs : List (Key × V)} (e : Rd F a (.dK kvs)) : Rd F' a (.dK kvs) := by
  have : ∃ o, F a = some o ∧ norm o = .dK kvs := by
    rcases e with e | ⟨ob, e⟩
    · exact ⟨_, e, rfl⟩
    · exact ⟨_, e, rfl⟩
  obtain ⟨o, e1, e2⟩ := this
  obtain ⟨o', h1, h2⟩ := h a o e1
  rcases norm_dK (h2.trans e2) with z | ⟨ob, z⟩
  · exact .inl (by rw [h1, z])
  · exact .inr ⟨ob, by rw [h1, z]⟩
theorem HLe.dT (h : HLe F F') {kvs : List (List Key × V)} (e : Rd F a (.dT kvs)) : Rd F' a (.dT kvs) := by
  have : ∃ o, F a = some o ∧ norm o = .dT kvs := by
    rcases e with e | ⟨ob, e⟩
    · exact ⟨_, e, rfl⟩
    · exact ⟨_, e, rfl⟩
  obtain ⟨o, e1, e2⟩ := this
  obtain ⟨o', h1, h2⟩ := h a o e1
  rcases norm_dT (h2.trans e2) with z | ⟨ob, z⟩
  · exact .inl (by rw [h1, z])
  · exact .inr ⟨ob, by rw [h1, z]⟩
theorem HLe.some (h : HLe F F') {o : HO} (e : F a = some o) : F' a ≠ none := by
  obtain ⟨o', h1, _⟩ := h a o e
  rw [h1]
  exact fun z => nomatch z
theorem HLe.none_of (h : HLe F F') (e : F' a = none) : F a = none := by
  cases q : F a with
  | none => rfl
  | some o => exact absurd e (h.some q)
theorem HLe.upd_new {o : HO} (h : F a = none) : HLe F (upd F a o) := fun b u e => ⟨u, by rw [upd_ne (ne_of_none e h)]; exact e, rfl⟩
end

/-! ### worlds: what is frozen, all -/
structure Wd where
  F : Hp
  H : Hp
/-- all objects stand as they were, what was frozen is frozen, what was one's own is one's own -/
structure Wd.le (W W' : Wd) : Prop where
  h : ∀ a o, W.H a = some o → W'.H a = some o
  f : HLe W.F W'.F
  own : ∀ a, W.H a ≠ none → W.F a = none → W'.F a = none
theorem Wd.le.refl {W : Wd} : W.le W := ⟨fun _ _ h => h, .refl, fun _ _ h => h⟩
theorem Wd.le.trans {W W1 W2 : Wd} (p : W.le W1) (q : W1.le W2) : W.le W2 :=
  ⟨fun a o h => q.h a o (p.h a o h), p.f.trans q.f, fun a h1 h2 => q.own a (by
    cases z : W.H a with
    | none => exact absurd z h1
    | some o =>
      rw [p.h a o z]
      exact fun z => nomatch z) (p.own a h1 h2)⟩
theorem Wd.le.free {W W' : Wd} (p : W.le W') {a : Addr} (h : W'.H a = none) : W.H a = none := by
  cases z : W.H a with
  | none => rfl
  | some o =>
    rw [p.h a o z] at h
    cases h
/-- a new object, one's own -/
theorem Wd.le.new {W : Wd} {p : Addr} {o : HO} (h : W.H p = none) : W.le ⟨W.F, upd W.H p o⟩ :=
  ⟨fun a u e => by
    show upd W.H p o a = some u
    rw [upd_ne (ne_of_none e h)]
    exact e, .refl, fun _ _ h => h⟩
/-- a new object, frozen -/
theorem Wd.le.newF {W : Wd} {p : Addr} {o : HO} (ok : HLe W.F W.H) (h : W.H p = none) : W.le ⟨upd W.F p o, upd W.H p o⟩ :=
  ⟨fun a u e => by
    show upd W.H p o a = some u
    rw [upd_ne (ne_of_none e h)]
    exact e, HLe.upd_new (ok.none_of h), fun a h1 h2 => by
    show upd W.F p o a = none
    by_cases z : a = p
    · subst z
      exact absurd h h1
    · rw [upd_ne z]
      exact h2⟩
theorem ok_new {W : Wd} {p : Addr} {o : HO} (ok : HLe W.F W.H) (h : W.H p = none) : HLe W.F (upd W.H p o) := ok.trans (HLe.upd_new h)
theorem ok_newF {W : Wd} {p : Addr} {o : HO} (ok : HLe W.F W.H) (h : W.H p = none) : HLe (upd W.F p o) (upd W.H p o) := fun a u e => by
  by_cases z : a = p
  · subst z
    rw [upd_same] at e
    exact ⟨u, by rw [upd_same]; exact e, rfl⟩
  · rw [upd_ne z] at e
    obtain ⟨o', h1, h2⟩ := ok a u e
    exact ⟨o', by rw [upd_ne z]; exact h1, h2⟩

/-! ### what values stand for -/
/-- the addresses of the program's classes -/
structure Cs where
  F : Addr
  S : Addr
  T : Addr
  W : Addr
  A : Addr
  C : Addr
  G : Addr
class Rep (α : Type) where
  is : Cs → Hp → V → α → Prop
  mono : ∀ {Γ : Cs} {F F' : Hp} {v : V} {x : α}, HLe F F' → is Γ F v x → is Γ F' v x
abbrev Is {α : Type} [Rep α] (Γ : Cs) (F : Hp) (v : V) (x : α) : Prop := Rep.is Γ F v x
theorem Paired.imp {α β : Type} {F G : α → β → Prop} {l₁ : List α} {l₂ : List β} (h : Paired F l₁ l₂) (f : ∀ a b, F a b → G a b) : Paired G l₁ l₂ := L2.Paired.mapP h f
instance : Rep Int := ⟨fun _ _ v x => v = .int x, fun _ h => h⟩
instance : Rep Bool := ⟨fun _ _ v x => v = .bl x, fun _ h => h⟩
instance : Rep Unit := ⟨fun _ _ v _ => v = .non, fun _ h => h⟩
instance : Rep Str := ⟨fun _ _ v x => v = .str x, fun _ h => h⟩
abbrev IsAll {α : Type} [Rep α] (Γ : Cs) (F : Hp) (vs : List V) (xs : List α) : Prop := Paired (fun v x => Is Γ F v x) vs xs
theorem IsAll.mono {α : Type} [Rep α] {Γ : Cs} {F F' : Hp} {vs : List V} {xs : List α} (e : HLe F F') (h : IsAll Γ F vs xs) : IsAll Γ F' vs xs := Paired.imp h fun _ _ q => Rep.mono e q
instance {α : Type} [Rep α] : Rep (List α) := ⟨fun Γ F v xs => ∃ a vs, v = .ref a ∧ F a = some (.lst vs) ∧ IsAll Γ F vs xs,
  fun e ⟨a, vs, h1, h2, h3⟩ => ⟨a, vs, h1, e.lst h2, h3.mono e⟩⟩
instance {α β : Type} [Rep α] [Rep β] : Rep (α × β) := ⟨fun Γ F v x => ∃ a v1 v2, v = .ref a ∧ F a = some (.tup [v1, v2]) ∧ Is Γ F v1 x.1 ∧ Is Γ F v2 x.2,
  fun e ⟨a, v1, v2, h1, h2, h3, h4⟩ => ⟨a, v1, v2, h1, e.tup h2, Rep.mono e h3, Rep.mono e h4⟩⟩
/-- a tuple of three -/
structure T3 (α β γ : Type) where
  a : α
  b : β
  c : γ
instance {α β γ : Type} [Rep α] [Rep β] [Rep γ] : Rep (T3 α β γ) := ⟨fun Γ F v x => ∃ a v1 v2 v3, v = .ref a ∧ F a = some (.tup [v1, v2, v3]) ∧ Is Γ F v1 x.a ∧ Is Γ F v2 x.b ∧ Is Γ F v3 x.c,
  fun e ⟨a, v1, v2, v3, h1, h2, h3, h4, h5⟩ => ⟨a, v1, v2, v3, h1, e.tup h2, Rep.mono e h3, Rep.mono e h4, Rep.mono e h5⟩⟩
/-- a tuple of any length -/
structure Tup (α : Type) where
  xs : List α
instance {α : Type} [Rep α] : Rep (Tup α) := ⟨fun Γ F v x => ∃ a vs, v = .ref a ∧ F a = some (.tup vs) ∧ IsAll Γ F vs x.xs,
  fun e ⟨a, vs, h1, h2, h3⟩ => ⟨a, vs, h1, e.tup h2, h3.mono e⟩⟩
/-- a dict with int keys -/
structure Dct (α : Type) where
  kvs : List (Int × α)
abbrev IsKvs {α : Type} [Rep α] (Γ : Cs) (F : Hp) (kvs : List (Key × V)) (xs : List (Int × α)) : Prop := Paired (fun q x => q.1 = Sum.inl x.1 ∧ Is Γ F q.2 x.2) kvs xs
theorem IsKvs.mono {α : Type} [Rep α] {Γ : Cs} {F F' : Hp} {vs : List (Key × V)} {xs : List (Int × α)} (e : HLe F F') (h : IsKvs Γ F vs xs) : IsKvs Γ F' vs xs := Paired.imp h fun _ _ q => ⟨q.1, Rep.mono e q.2⟩
instance {α : Type} [Rep α] : Rep (Dct α) := ⟨fun Γ F v x => ∃ a kvs, v = .ref a ∧ Rd F a (.dK kvs) ∧ IsKvs Γ F kvs x.kvs,
  fun e ⟨a, kvs, h1, h2, h3⟩ => ⟨a, kvs, h1, e.dK h2, h3.mono e⟩⟩
instance {α : Type} [Rep α] : Rep (Option α) := ⟨fun Γ F v x => match x with
  | none => v = .non
  | some y => Is Γ F v y, fun {Γ F F' v x} e h => by
  cases x with
  | none => exact h
  | some y => exact Rep.mono e h⟩

/-! ### slots -/
/-- item by item -/
inductive AllP {α : Type u} {β : Type v} (R : α → β → Prop) : List α → List β → Prop where
  | nil : AllP R [] []
  | cons {a : α} {b : β} {as : List α} {bs : List β} (h : R a b) (t : AllP R as bs) : AllP R (a :: as) (b :: bs)
theorem AllP.imp {α : Type u} {β : Type v} {R S : α → β → Prop} {as : List α} {bs : List β} (h : AllP R as bs) (f : ∀ a b, R a b → S a b) : AllP S as bs := by
  induction h with
  | nil => exact .nil
  | cons h t ih => exact .cons (f _ _ h) ih
structure Dat where
  {α : Type}
  [inst : Rep α]
  x : α
def Dat.is (d : Dat) (Γ : Cs) (F : Hp) (v : V) : Prop := d.inst.is Γ F v d.x
theorem Dat.mono {d : Dat} {Γ : Cs} {F F' : Hp} {v : V} (e : HLe F F') (h : d.is Γ F v) : d.is Γ F' v := d.inst.mono e h
inductive Slot where
  /-- anything, or nothing -/
  | un
  /-- a value, all of it frozen -/
  | fz (d : Dat)
  /-- a list of one's own, its items frozen -/
  | owL {α : Type} [Rep α] (xs : List α)
  /-- a dict of one's own -/
  | owD {α : Type} [Rep α] (kvs : List (Int × α))
  /-- the instance of C, at p, that is made: the names of its attributes so far, what they stand for -/
  | slf (p C : Addr) (ks : List Str) (ds : List Dat)
  /-- a list that stood when the def was entered: it is read only -/
  | rd {α : Type} [Rep α] (xs : List α)
  /-- a frozen dict that is walked just now -/
  | lk {α : Type} [Rep α] (kvs : List (Int × α))
abbrev fz {α : Type} [Rep α] (x : α) : Slot := .fz ⟨x⟩
def Slot.own : Slot → Bool
  | .un => false
  | .fz _ => false
  | @Slot.lk _ _ _ => false
  | @Slot.rd _ _ _ => false
  | _ => true
def SlotOk (Γ : Cs) (W0 W : Wd) : Slot → Option V → Prop
  | .un, _ => True
  | .fz d, o => ∃ v, o = some v ∧ d.is Γ W.F v
  | @Slot.owL _ _ xs, o => ∃ a vs, o = some (.ref a) ∧ W0.H a = none ∧ W.F a = none ∧ W.H a = some (.lst vs) ∧ IsAll Γ W.F vs xs
  | @Slot.owD _ _ xs, o => ∃ a kvs, o = some (.ref a) ∧ W0.H a = none ∧ W.F a = none ∧ W.H a = some (.dK kvs) ∧ IsKvs Γ W.F kvs xs
  | .slf p C ks ds, o => ∃ a dx vs, o = some (.ref a) ∧ W0.H a = none ∧ W.F a = none ∧ W.H a = some (.ins C dx vs) ∧ vs.map (·.1) = ks ∧ a = p ∧ AllP (fun (q : Str × V) (d : Dat) => d.is Γ W.F q.2) vs ds
  | @Slot.rd _ _ xs, o => ∃ a vs, o = some (.ref a) ∧ W0.H a = some (.lst vs) ∧ IsAll Γ W.F vs xs
  | @Slot.lk _ _ xs, o => ∃ a ob kvs, o = some (.ref a) ∧ W.F a ≠ none ∧ W.H a = some (.frz ob (.dK kvs)) ∧ IsKvs Γ W.F kvs xs
theorem HLe.stays {F F' : Hp} (h : HLe F F') {a : Addr} (e : F a ≠ none) : F' a ≠ none := by
  cases q : F a with
  | none => exact absurd q e
  | some o => exact h.some q
theorem SlotOk.mono {Γ : Cs} {W0 W W' : Wd} {s : Slot} {o : Option V} (e : W.le W') (h : SlotOk Γ W0 W s o) : SlotOk Γ W0 W' s o := by
  cases s with
  | un => trivial
  | fz d =>
    obtain ⟨v, h1, h2⟩ := h
    exact ⟨v, h1, Dat.mono e.f h2⟩
  | owL xs =>
    obtain ⟨a, vs, h1, h2, h3, h4, h5⟩ := h
    exact ⟨a, vs, h1, h2, e.own a (by rw [h4]; exact fun z => nomatch z) h3, e.h a _ h4, h5.mono e.f⟩
  | owD xs =>
    obtain ⟨a, vs, h1, h2, h3, h4, h5⟩ := h
    exact ⟨a, vs, h1, h2, e.own a (by rw [h4]; exact fun z => nomatch z) h3, e.h a _ h4, h5.mono e.f⟩
  | slf p C ks ds =>
    obtain ⟨a, dx, vs, h1, h2, h3, h4, h6, h7, h5⟩ := h
    exact ⟨a, dx, vs, h1, h2, e.own a (by rw [h4]; exact fun z => nomatch z) h3, e.h a _ h4, h6, h7, h5.imp fun _ _ q => Dat.mono e.f q⟩
  | rd xs =>
    obtain ⟨a, vs, h1, h2, h3⟩ := h
    exact ⟨a, vs, h1, h2, h3.mono e.f⟩
  | lk xs =>
    obtain ⟨a, ob, vs, h1, h2, h3, h4⟩ := h
    exact ⟨a, ob, vs, h1, e.f.stays h2, e.h a _ h3, h4.mono e.f⟩
structure EnvOk (Γ : Cs) (W0 W : Wd) (ρ : List Slot) (σ : St) : Prop where
  ok : HLe W.F W.H
  le : W0.le W
  len : σ.length = ρ.length
  at_ : ∀ (i : Nat) (s : Slot) (o : Option V), ρ[i]? = some s → σ[i]? = some o → SlotOk Γ W0 W s o
  dis : ∀ (i j : Nat) (s t : Slot) (a : Addr), ρ[i]? = some s → ρ[j]? = some t → s.own = true → t.own = true → σ[i]? = some (some (.ref a)) → σ[j]? = some (some (.ref a)) → i = j
section
variable {Γ : Cs} {W0 W W' : Wd} {ρ : List Slot} {σ : St}
theorem EnvOk.mono (E : EnvOk Γ W0 W ρ σ) (e : W.le W') (ok : HLe W'.F W'.H) : EnvOk Γ W0 W' ρ σ :=
  ⟨ok, E.le.trans e, E.len, fun i s o h1 h2 => (E.at_ i s o h1 h2).mono e, E.dis⟩
theorem EnvOk.slot (E : EnvOk Γ W0 W ρ σ) {i : Nat} {s : Slot} (h : ρ[i]? = some s) : ∃ o, σ[i]? = some o ∧ SlotOk Γ W0 W s o := by
  have hi : i < ρ.length := (List.getElem?_eq_some_iff.mp h).1
  have hi2 : i < σ.length := by rw [E.len]; exact hi
  exact ⟨σ[i], List.getElem?_eq_getElem hi2, E.at_ i s _ h (List.getElem?_eq_getElem hi2)⟩
theorem EnvOk.get (E : EnvOk Γ W0 W ρ σ) {α : Type} [Rep α] {i : Nat} {x : α} (h : ρ[i]? = some (fz x)) : ∃ v, σ[i]? = some (some v) ∧ Is Γ W.F v x := by
  obtain ⟨o, h1, v, h2, h3⟩ := E.slot h
  exact ⟨v, by rw [h1, h2], h3⟩
/-- a name is given a frozen value -/
theorem EnvOk.set (E : EnvOk Γ W0 W ρ σ) {α : Type} [Rep α] (i : Nat) {v : V} {x : α} (h : Is Γ W.F v x) : EnvOk Γ W0 W (ρ.set i (fz x)) (σ.set i (some v)) := by
  refine ⟨E.ok, E.le, by rw [List.length_set, List.length_set, E.len], fun j s o h1 h2 => ?_, fun j k s t a h1 h2 h3 h4 h5 h6 => ?_⟩
  · by_cases z : i = j
    · subst z
      have hi : i < ρ.length := by
        have := (List.getElem?_eq_some_iff.mp h1).1
        rw [List.length_set] at this
        exact this
      rw [List.getElem?_set_self hi] at h1
      rw [List.getElem?_set_self (by rw [E.len]; exact hi)] at h2
      rw [← Option.some.inj h1, ← Option.some.inj h2]
      exact ⟨v, rfl, h⟩
    · rw [List.getElem?_set_ne z] at h1 h2
      exact E.at_ j s o h1 h2
  · have key : ∀ {j : Nat} {s : Slot}, (ρ.set i (fz x))[j]? = some s → s.own = true → i ≠ j := fun {j s} h1 h3 z => by
      subst z
      have hi : i < ρ.length := by
        have := (List.getElem?_eq_some_iff.mp h1).1
        rw [List.length_set] at this
        exact this
      rw [List.getElem?_set_self hi] at h1
      rw [← Option.some.inj h1] at h3
      cases h3
    have hj := key h1 h3
    have hk := key h2 h4
    rw [List.getElem?_set_ne hj] at h1 h5
    rw [List.getElem?_set_ne hk] at h2 h6
    exact E.dis j k s t a h1 h2 h3 h4 h5 h6
/-- a name is forgotten -/
theorem EnvOk.drop (E : EnvOk Γ W0 W ρ σ) (i : Nat) (o : Option V) : EnvOk Γ W0 W (ρ.set i .un) (σ.set i o) := by
  refine ⟨E.ok, E.le, by rw [List.length_set, List.length_set, E.len], fun j s o h1 h2 => ?_, fun j k s t a h1 h2 h3 h4 h5 h6 => ?_⟩
  · by_cases z : i = j
    · subst z
      have hi : i < ρ.length := by
        have := (List.getElem?_eq_some_iff.mp h1).1
        rw [List.length_set] at this
        exact this
      rw [List.getElem?_set_self hi] at h1
      rw [← Option.some.inj h1]
      trivial
    · rw [List.getElem?_set_ne z] at h1 h2
      exact E.at_ j s o h1 h2
  · have key : ∀ {j : Nat} {s : Slot}, (ρ.set i .un)[j]? = some s → s.own = true → i ≠ j := fun {j s} h1 h3 z => by
      subst z
      have hi : i < ρ.length := by
        have := (List.getElem?_eq_some_iff.mp h1).1
        rw [List.length_set] at this
        exact this
      rw [List.getElem?_set_self hi] at h1
      rw [← Option.some.inj h1] at h3
      cases h3
    have hj := key h1 h3
    have hk := key h2 h4
    rw [List.getElem?_set_ne hj] at h1 h5
    rw [List.getElem?_set_ne hk] at h2 h6
    exact E.dis j k s t a h1 h2 h3 h4 h5 h6
end
end SR
end
section
set_option Elab.async false
set_option linter.all false
set_option maxRecDepth 100000
set_option maxHeartbeats 4000000
namespace SR
open PySem PySem.Spec PyProof.Rows L2

/-! ### judgements: e evaluates, where the names are as ρ says, to what m tells -/
section
variable (X : Cx) (Γ : Cs) (W0 : Wd)
/-- a value, all frozen -/
structure EX (e : Expr) (ρ : List Slot) {α : Type} [Rep α] (m : Option α) : Prop where
  run : ∀ x, m = some x → ∀ W σ, EnvOk Γ W0 W ρ σ → ∀ Q : VK, (∀ v W2, W.le W2 → HLe W2.F W2.H → Is Γ W2.F v x → Q v W2.H) → wpE X e σ W.H Q
/-- a list that can be read -/
structure LX (e : Expr) (ρ : List Slot) {α : Type} [Rep α] (m : Option (List α)) : Prop where
  run : ∀ xs, m = some xs → ∀ W σ, EnvOk Γ W0 W ρ σ → ∀ Q : VK, (∀ a vs W2, W.le W2 → HLe W2.F W2.H → W2.H a = some (.lst vs) → IsAll Γ W2.F vs xs → Q (.ref a) W2.H) → wpE X e σ W.H Q
/-- a new list -/
structure OX (e : Expr) (ρ : List Slot) {α : Type} [Rep α] (m : Option (List α)) : Prop where
  run : ∀ xs, m = some xs → ∀ W σ, EnvOk Γ W0 W ρ σ → ∀ Q : VK, (∀ p vs W2, W.le W2 → HLe W2.F W2.H → W.H p = none → W2.F p = none → W2.H p = some (.lst vs) → IsAll Γ W2.F vs xs → Q (.ref p) W2.H) → wpE X e σ W.H Q
/-- a dict that can be read -/
structure DX (e : Expr) (ρ : List Slot) {α : Type} [Rep α] (m : Option (List (Int × α))) : Prop where
  run : ∀ xs, m = some xs → ∀ W σ, EnvOk Γ W0 W ρ σ → ∀ Q : VK, (∀ a kvs W2, W.le W2 → HLe W2.F W2.H → Rd W2.H a (.dK kvs) → IsKvs Γ W2.F kvs xs → Q (.ref a) W2.H) → wpE X e σ W.H Q
/-- a new dict -/
structure OD (e : Expr) (ρ : List Slot) {α : Type} [Rep α] (m : Option (List (Int × α))) : Prop where
  run : ∀ xs, m = some xs → ∀ W σ, EnvOk Γ W0 W ρ σ → ∀ Q : VK, (∀ p kvs W2, W.le W2 → HLe W2.F W2.H → W.H p = none → W2.F p = none → W2.H p = some (.dK kvs) → IsKvs Γ W2.F kvs xs → Q (.ref p) W2.H) → wpE X e σ W.H Q
/-- a test -/
structure TX (e : Expr) (ρ : List Slot) (m : Option Bool) : Prop where
  run : ∀ b, m = some b → ∀ W σ, EnvOk Γ W0 W ρ σ → ∀ Q : Bool → Hp → Prop, (∀ W2, W.le W2 → HLe W2.F W2.H → Q b W2.H) → wpT X e σ W.H Q
end

/-! ### words of the mirror -/
abbrev M1 {α β : Type} (f : α → Option β) (a : Option α) : Option β := a.bind f
abbrev M2 {α β γ : Type} (f : α → β → Option γ) (a : Option α) (b : Option β) : Option γ := a.bind fun x => b.bind fun y => f x y
abbrev M3 {α β γ δ : Type} (f : α → β → γ → Option δ) (a : Option α) (b : Option β) (c : Option γ) : Option δ := a.bind fun x => b.bind fun y => c.bind fun z => f x y z
abbrev M4 {α β γ δ ε : Type} (f : α → β → γ → δ → Option ε) (a : Option α) (b : Option β) (c : Option γ) (d : Option δ) : Option ε := a.bind fun x => b.bind fun y => c.bind fun z => d.bind fun w => f x y z w
abbrev andM (a b : Option Bool) : Option Bool := a.bind fun x => if x = true then b else some false
abbrev orM (a b : Option Bool) : Option Bool := a.bind fun x => if x = true then some true else b
abbrev notM (a : Option Bool) : Option Bool := a.bind fun x => some (!x)
abbrev iteM {α : Type} (c : Option Bool) (a b : Option α) : Option α := c.bind fun x => if x = true then a else b
def inRange (i : Int) : Bool := decide (-18446744073709551616 < i ∧ i < 18446744073709551616)
def addI (i j : Int) : Option Int := some (i + j)
def subI (i j : Int) : Option Int := some (i - j)
def mulI (i j : Int) : Option Int := if inRange i = true then some (i * j) else none
def modI (i j : Int) : Option Int := if 0 < j then some (i % j) else none
def divI (i j : Int) : Option Int := if 0 < j ∧ j < 1073741824 then some (i / j) else none
def powI (i j : Int) : Option Int := if 0 ≤ j ∧ j ≤ 1000000 ∧ i.natAbs < 2 ^ 64 then some (i ^ j.toNat) else none
def ltI (i j : Int) : Option Bool := some (decide (i < j))
def leI (i j : Int) : Option Bool := some (decide (i ≤ j))
def gtI (i j : Int) : Option Bool := some (decide (j < i))
def geI (i j : Int) : Option Bool := some (decide (j ≤ i))
def eqI (i j : Int) : Option Bool := some (decide (i = j))
def neI (i j : Int) : Option Bool := some (!decide (i = j))
def eqB (i j : Bool) : Option Bool := some (decide (i = j))
def neB (i j : Bool) : Option Bool := some (!decide (i = j))
def eqT (i j : Str) : Option Bool := some (decide (i = j))
def neT (i j : Str) : Option Bool := some (!decide (i = j))

section
variable {X : Cx} {Γ : Cs} {W0 : Wd} {ρ : List Slot}
theorem wpE_mono {e : Expr} {σ : St} {H : Hp} {Q Q' : VK} (h : wpE X e σ H Q) (k : ∀ v H', Q v H' → Q' v H') : wpE X e σ H Q' := fun pins s I =>
  wpAny_mono (h pins s I) (fun _ _ ⟨v, H', I', r, q⟩ => ⟨v, H', I', r, k v H' q⟩) fun _ _ z => z
theorem wpT_mono {e : Expr} {σ : St} {H : Hp} {Q Q' : Bool → Hp → Prop} (h : wpT X e σ H Q) (k : ∀ v H', Q v H' → Q' v H') : wpT X e σ H Q' := fun pins s I =>
  wpAny_mono (h pins s I) (fun _ _ ⟨H', I', q⟩ => ⟨H', I', k _ H' q⟩) fun _ _ z => z

/-! ### from one kind to another -/
section
variable {α : Type} [Rep α] {e : Expr}
theorem EX.lx {m : Option (List α)} (h : EX X Γ W0 e ρ m) : LX X Γ W0 e ρ m := ⟨fun xs hm W σ E Q k => h.run xs hm W σ E Q fun v W2 le ok ⟨a, vs, e1, e2, e3⟩ => by
  subst e1
  exact k a vs W2 le ok (ok.lst e2) e3⟩
theorem OX.lx {m : Option (List α)} (h : OX X Γ W0 e ρ m) : LX X Γ W0 e ρ m := ⟨fun xs hm W σ E Q k => h.run xs hm W σ E Q fun p vs W2 le ok _ _ e3 e4 => k p vs W2 le ok e3 e4⟩
theorem freeze_le {W W2 : Wd} {p : Addr} {o : HO} (le : W.le W2) (h1 : W.H p = none) (h2 : W2.F p = none) : W.le ⟨upd W2.F p o, W2.H⟩ :=
  ⟨le.h, le.f.trans (HLe.upd_new h2), fun a h3 h4 => by
    show upd W2.F p o a = none
    rw [upd_ne (fun z => h3 (by rw [z]; exact h1))]
    exact le.own a h3 h4⟩
theorem freeze_ok {W2 : Wd} {p : Addr} {o : HO} (ok : HLe W2.F W2.H) (h3 : W2.H p = some o) : HLe (upd W2.F p o) W2.H := fun a u e => by
  by_cases z : a = p
  · subst z
    rw [upd_same] at e
    exact ⟨u, by rw [h3, Option.some.inj e], rfl⟩
  · rw [upd_ne z] at e
    exact ok a u e
theorem OX.ex {m : Option (List α)} (h : OX X Γ W0 e ρ m) : EX X Γ W0 e ρ m := ⟨fun xs hm W σ E Q k => h.run xs hm W σ E Q fun p vs W2 le ok h1 h2 h3 h4 =>
  k (.ref p) ⟨upd W2.F p (.lst vs), W2.H⟩ (freeze_le le h1 h2) (freeze_ok ok h3) ⟨p, vs, rfl, upd_same, h4.mono (HLe.upd_new h2)⟩⟩
theorem EX.dx {m : Option (Dct α)} (h : EX X Γ W0 e ρ m) : DX X Γ W0 e ρ (m.bind fun d => some d.kvs) := ⟨fun xs hm W σ E Q k => by
  cases m with
  | none => cases hm
  | some d =>
    have e1 : d.kvs = xs := Option.some.inj hm
    subst e1
    exact h.run d rfl W σ E Q fun v W2 le ok ⟨a, vs, e1, e2, e3⟩ => by
      subst e1
      exact k a vs W2 le ok (ok.dK e2) e3⟩
theorem OD.dx {m : Option (List (Int × α))} (h : OD X Γ W0 e ρ m) : DX X Γ W0 e ρ m := ⟨fun xs hm W σ E Q k => h.run xs hm W σ E Q fun p vs W2 le ok _ _ e3 e4 => k p vs W2 le ok (.inl e3) e4⟩
theorem OD.ex {m : Option (List (Int × α))} (h : OD X Γ W0 e ρ m) : EX X Γ W0 e ρ (m.bind fun kvs => some (Dct.mk kvs)) := ⟨fun x hm W σ E Q k => by
  cases m with
  | none => cases hm
  | some kvs =>
    have e1 : Dct.mk kvs = x := Option.some.inj hm
    subst e1
    exact h.run kvs rfl W σ E Q fun p vs W2 le ok h1 h2 h3 h4 =>
      k (.ref p) ⟨upd W2.F p (.dK vs), W2.H⟩ (freeze_le le h1 h2) (freeze_ok ok h3) ⟨p, vs, rfl, .inl upd_same, h4.mono (HLe.upd_new h2)⟩⟩
theorem EX.to {m m' : Option α} (h : EX X Γ W0 e ρ m) (q : m = m') : EX X Γ W0 e ρ m' := q ▸ h
/-- what is known to be something may be None as well -/
theorem EX.opt {m : Option α} (h : EX X Γ W0 e ρ m) : EX X Γ W0 e ρ (m.bind fun x => some (some x)) := ⟨fun x hm W σ E Q k => by
  cases m with
  | none => cases hm
  | some y =>
    have e1 : some y = x := Option.some.inj hm
    subst e1
    exact h.run y rfl W σ E Q k⟩
/-- .. and what is not None is something -/
theorem EX.unopt {m : Option (Option α)} (h : EX X Γ W0 e ρ m) : EX X Γ W0 e ρ (m.bind fun x => x) := ⟨fun x hm W σ E Q k => by
  cases m with
  | none => cases hm
  | some y =>
    have e1 : y = some x := hm
    subst e1
    exact h.run (some x) rfl W σ E Q k⟩
end

/-! ### names, constants -/
theorem x_var {α : Type} [Rep α] {x : α} (i : Nat) {n : Str} {pos : Pos} (h : ρ[i]? = some (fz x) := by rfl) (hN : X.N[i]? = some n := by rfl)
    (hv : Vis X.env.scope n := by first | exact Or.inl rfl | exact Or.inr (Or.inl rfl) | exact Or.inr (Or.inr rfl)) (hd : (n == ("__debug__" : Str)) = false := by decide)
    (hcd : (n == ("__classdict__" : Str)) = false := by decide) : EX X Γ W0 (.Name n pos) ρ (some x) := ⟨fun y hm W σ E Q k => by
  cases hm
  obtain ⟨v, h1, h2⟩ := E.get h
  exact wp_of (pv i hN hv hd hcd) ⟨v, h1, k v W .refl E.ok h2⟩⟩
theorem x_own {α : Type} [Rep α] {xs : List α} (i : Nat) {n : Str} {pos : Pos} (h : ρ[i]? = some (.owL xs) := by rfl) (hN : X.N[i]? = some n := by rfl)
    (hv : Vis X.env.scope n := by first | exact Or.inl rfl | exact Or.inr (Or.inl rfl) | exact Or.inr (Or.inr rfl)) (hd : (n == ("__debug__" : Str)) = false := by decide)
    (hcd : (n == ("__classdict__" : Str)) = false := by decide) : LX X Γ W0 (.Name n pos) ρ (some xs) := ⟨fun y hm W σ E Q k => by
  cases hm
  obtain ⟨o, h1, a, vs, h2, h3, h4, h5, h6⟩ := E.slot h
  subst h2
  exact wp_of (pv i hN hv hd hcd) ⟨_, h1, k a vs W .refl E.ok h5 h6⟩⟩
theorem x_ownD {α : Type} [Rep α] {xs : List (Int × α)} (i : Nat) {n : Str} {pos : Pos} (h : ρ[i]? = some (.owD xs) := by rfl) (hN : X.N[i]? = some n := by rfl)
    (hv : Vis X.env.scope n := by first | exact Or.inl rfl | exact Or.inr (Or.inl rfl) | exact Or.inr (Or.inr rfl)) (hd : (n == ("__debug__" : Str)) = false := by decide)
    (hcd : (n == ("__classdict__" : Str)) = false := by decide) : DX X Γ W0 (.Name n pos) ρ (some xs) := ⟨fun y hm W σ E Q k => by
  cases hm
  obtain ⟨o, h1, a, vs, h2, h3, h4, h5, h6⟩ := E.slot h
  subst h2
  exact wp_of (pv i hN hv hd hcd) ⟨_, h1, k a vs W .refl E.ok (.inl h5) h6⟩⟩
theorem x_int {i : Int} {j : Nat} {pos : Pos} : EX X Γ W0 (.Constant (.int i) j pos) ρ (some i) := ⟨fun y hm W σ E Q k => by
  cases hm
  exact wp_of pe_int (k _ W .refl E.ok rfl)⟩
theorem x_bl {b : Bool} {j : Nat} {pos : Pos} : EX X Γ W0 (.Constant (.bool b) j pos) ρ (some b) := ⟨fun y hm W σ E Q k => by
  cases hm
  exact wp_of pe_bl (k _ W .refl E.ok rfl)⟩
theorem x_str {b : Str} {j : Nat} {pos : Pos} : EX X Γ W0 (.Constant (.str b) j pos) ρ (some b) := ⟨fun y hm W σ E Q k => by
  cases hm
  exact wp_of pe_str (k _ W .refl E.ok rfl)⟩
/-- None, as what may be something else -/
theorem x_non {α : Type} [Rep α] {j : Nat} {pos : Pos} : EX X Γ W0 (.Constant .none j pos) ρ (some (none : Option α)) := ⟨fun y hm W σ E Q k => by
  cases hm
  exact wp_of pe_non (k _ W .refl E.ok rfl)⟩
theorem x_unit {j : Nat} {pos : Pos} : EX X Γ W0 (.Constant .none j pos) ρ (some ()) := ⟨fun y hm W σ E Q k => by
  cases hm
  exact wp_of pe_non (k _ W .refl E.ok rfl)⟩
/-- a module's whole number -/
theorem x_gint {n : Str} {i : Int} {pos : Pos} (hm : ∃ t, X.mg n = some (.int i t)) (hg : Gl X n := by rfl) (hd : (n == ("__debug__" : Str)) = false := by decide) : EX X Γ W0 (.Name n pos) ρ (some i) := ⟨fun y hy W σ E Q k => by
  cases hy
  obtain ⟨t, hm⟩ := hm
  exact wp_of (pe_glob (v := .int i) hg hm ⟨t, rfl⟩ hd) (k _ W .refl E.ok rfl)⟩

/-! ### operators -/
/-- an operator's reading does what f tells -/
def OpS (Γ : Cs) (r : R2) {α β γ : Type} [Rep α] [Rep β] [Rep γ] (f : α → β → Option γ) : Prop :=
  ∀ (W : Wd) (v u : V) (x : α) (y : β) (z : γ), HLe W.F W.H → Is Γ W.F v x → Is Γ W.F u y → f x y = some z → ∀ Q : VK, (∀ w W2, W.le W2 → HLe W2.F W2.H → Is Γ W2.F w z → Q w W2.H) → r v u W.H Q
section
variable {α β γ δ : Type} [Rep α] [Rep β] [Rep γ] [Rep δ] {a b c : Expr} {ma : Option α} {mb : Option β} {mc : Option δ} {pos : Pos} {r r' : R2} {f : α → β → Option γ}
theorem bindo {α β : Type} {m : Option α} {k : α → Option β} {y : β} (h : m.bind k = some y) : ∃ x, m = some x ∧ k x = some y := by
  cases m with
  | none => cases h
  | some x => exact ⟨x, rfl, h⟩
theorem x_op {op : Operator} (ho : OpR X (binaryOp op) r) (hs : OpS Γ r f) (ha : EX X Γ W0 a ρ ma) (hb : EX X Γ W0 b ρ mb) : EX X Γ W0 (.BinOp a op b pos) ρ (M2 f ma mb) := ⟨fun z hm W σ E Q k => by
  obtain ⟨x, h1, hm⟩ := bindo hm
  obtain ⟨y, h2, hm⟩ := bindo hm
  refine wp_of (pe_op ho pe_wp pe_wp) ?_
  refine ha.run x h1 W σ E _ fun v W2 le ok i1 => ?_
  refine hb.run y h2 W2 σ (E.mono le ok) _ fun u W3 le2 ok2 i2 => ?_
  exact hs W3 v u x y z ok2 (Rep.mono le2.f i1) i2 hm Q fun w W4 le3 ok3 i3 => k w W4 ((le.trans le2).trans le3) ok3 i3⟩
theorem x_cmp {op : CmpOp} (ho : OpR X (compareOp op) r) (hs : OpS Γ r f) (ha : EX X Γ W0 a ρ ma) (hb : EX X Γ W0 b ρ mb) (hm : behindInMarks op b = false := by first | exact nomark _ | rfl) : EX X Γ W0 (.Compare a [op] [b] pos) ρ (M2 f ma mb) := ⟨fun z hm W σ E Q k => by
  obtain ⟨x, h1, hm⟩ := bindo hm
  obtain ⟨y, h2, hm⟩ := bindo hm
  refine wp_of (pe_cmpR ho pe_wp pe_wp (by assumption)) ?_
  refine ha.run x h1 W σ E _ fun v W2 le ok i1 => ?_
  refine hb.run y h2 W2 σ (E.mono le ok) _ fun u W3 le2 ok2 i2 => ?_
  exact hs W3 v u x y z ok2 (Rep.mono le2.f i1) i2 hm Q fun w W4 le3 ok3 i3 => k w W4 ((le.trans le2).trans le3) ok3 i3⟩
theorem t_cmp {f : α → β → Option Bool} {op : CmpOp} (ho : OpR X (compareOp op) r) (hs : OpS Γ r f) (ha : EX X Γ W0 a ρ ma) (hb : EX X Γ W0 b ρ mb) (hm : behindInMarks op b = false := by first | exact nomark _ | rfl) : TX X Γ W0 (.Compare a [op] [b] pos) ρ (M2 f ma mb) := ⟨fun z hm W σ E Q k => by
  obtain ⟨x, h1, hm⟩ := bindo hm
  obtain ⟨y, h2, hm⟩ := bindo hm
  refine wt_of (pt_cmpR ho pe_wp pe_wp (by assumption)) ?_
  refine ha.run x h1 W σ E _ fun v W2 le ok i1 => ?_
  refine hb.run y h2 W2 σ (E.mono le ok) _ fun u W3 le2 ok2 i2 => ?_
  exact hs W3 v u x y z ok2 (Rep.mono le2.f i1) i2 hm _ fun w W4 le3 ok3 i3 => ⟨z, i3, k W4 ((le.trans le2).trans le3) ok3⟩⟩
/-- a < b < c -/
abbrev chM {α β δ : Type} (f : α → β → Option Bool) (g : β → δ → Option Bool) (ma : Option α) (mb : Option β) (mc : Option δ) : Option Bool :=
  ma.bind fun x => mb.bind fun y => (f x y).bind fun k => if k = true then mc.bind fun z => g y z else some false
theorem x_chain {f : α → β → Option Bool} {g : β → δ → Option Bool} {op op' : CmpOp} (ho : OpR X (compareOp op) r) (hs : OpS Γ r f) (ho' : OpR X (compareOp op') r') (hs' : OpS Γ r' g) (ha : EX X Γ W0 a ρ ma) (hb : EX X Γ W0 b ρ mb) (hc : EX X Γ W0 c ρ mc)
    (hp : OpR X (compareOp op) r → OpR X (compareOp op') r' → PE X (.Compare a [op, op'] [b, c] pos) (tChain r r' (wpE X a) (wpE X b) (wpE X c)) := by intro h1 h2; exact pe_chain h1 h2 pe_wp pe_wp pe_wp) : EX X Γ W0 (.Compare a [op, op'] [b, c] pos) ρ (chM f g ma mb mc) := ⟨fun z hm W σ E Q k => by
  obtain ⟨x, h1, hm⟩ := bindo hm
  obtain ⟨y, h2, hm⟩ := bindo hm
  obtain ⟨b1, h3, hm⟩ := bindo hm
  refine wp_of (hp ho ho') ?_
  refine ha.run x h1 W σ E _ fun v W2 le ok i1 => ?_
  refine hb.run y h2 W2 σ (E.mono le ok) _ fun u W3 le2 ok2 i2 => ?_
  refine hs W3 v u x y b1 ok2 (Rep.mono le2.f i1) i2 h3 _ fun w W4 le3 ok3 i3 => ⟨b1, i3, ?_⟩
  cases b1 with
  | false =>
    have e : false = z := Option.some.inj hm
    subst e
    exact k _ W4 ((le.trans le2).trans le3) ok3 rfl
  | true =>
    obtain ⟨z1, h4, hm⟩ := bindo (show mc.bind (fun z => g y z) = some z from hm)
    refine hc.run z1 h4 W4 σ (E.mono ((le.trans le2).trans le3) ok3) _ fun w2 W5 le4 ok4 i4 => ?_
    exact hs' W5 u w2 y z1 z ok4 (Rep.mono (le3.trans le4).f i2) i4 hm _ fun w3 W6 le5 ok5 i5 => k w3 W6 ((((le.trans le2).trans le3).trans le4).trans le5) ok5 i5⟩
end
section
variable {W : Wd}
theorem os_int0 {g : Int → Int → Int} {f : Int → Int → Option Int} (h : ∀ i j, f i j = some (g i j)) : OpS Γ (rI0 fun i j => .int (g i j)) f := fun W v u x y z ok i1 i2 hf Q k => by
  have e1 : v = .int x := i1
  have e2 : u = .int y := i2
  subst e1 e2
  rw [h] at hf
  cases hf
  exact ⟨x, y, rfl, rfl, k _ W .refl ok rfl⟩
theorem os_cmp0 {g : Int → Int → Bool} {f : Int → Int → Option Bool} (h : ∀ i j, f i j = some (g i j)) : OpS Γ (rI0 fun i j => .bl (g i j)) f := fun W v u x y z ok i1 i2 hf Q k => by
  have e1 : v = .int x := i1
  have e2 : u = .int y := i2
  subst e1 e2
  rw [h] at hf
  cases hf
  exact ⟨x, y, rfl, rfl, k _ W .refl ok rfl⟩
theorem os_add : OpS Γ (rI0 fun i j => .int (i + j)) addI := os_int0 fun _ _ => rfl
theorem os_sub : OpS Γ (rI0 fun i j => .int (i - j)) subI := os_int0 fun _ _ => rfl
theorem os_lt : OpS Γ (rI0 fun i j => .bl (decide (i < j))) ltI := os_cmp0 fun _ _ => rfl
theorem os_le : OpS Γ (rI0 fun i j => .bl (decide (i ≤ j))) leI := os_cmp0 fun _ _ => rfl
theorem os_gt : OpS Γ (rI0 fun i j => .bl (decide (j < i))) gtI := os_cmp0 fun _ _ => rfl
theorem os_ge : OpS Γ (rI0 fun i j => .bl (decide (j ≤ i))) geI := os_cmp0 fun _ _ => rfl
theorem os_mul : OpS Γ (rI CMul fun i j => .int (i * j)) mulI := fun W v u x y z ok i1 i2 hf Q k => by
  have e1 : v = .int x := i1
  have e2 : u = .int y := i2
  subst e1 e2
  unfold mulI inRange at hf
  split at hf
  · rename_i h
    cases hf
    exact ⟨x, y, rfl, rfl, .inl (of_decide_eq_true h), k _ W .refl ok rfl⟩
  · cases hf
theorem os_mod : OpS Γ (rI (fun _ j => 0 < j) fun i j => .int (i % j)) modI := fun W v u x y z ok i1 i2 hf Q k => by
  have e1 : v = .int x := i1
  have e2 : u = .int y := i2
  subst e1 e2
  unfold modI at hf
  split at hf
  · rename_i h
    cases hf
    exact ⟨x, y, rfl, rfl, h, k _ W .refl ok rfl⟩
  · cases hf
theorem os_div : OpS Γ (rI CDiv fun i j => .int (i / j)) divI := fun W v u x y z ok i1 i2 hf Q k => by
  have e1 : v = .int x := i1
  have e2 : u = .int y := i2
  subst e1 e2
  unfold divI at hf
  split at hf
  · rename_i h
    cases hf
    exact ⟨x, y, rfl, rfl, h, k _ W .refl ok rfl⟩
  · cases hf
theorem os_pow : OpS Γ (rI CPow fun i j => .int (i ^ j.toNat)) powI := fun W v u x y z ok i1 i2 hf Q k => by
  have e1 : v = .int x := i1
  have e2 : u = .int y := i2
  subst e1 e2
  unfold powI at hf
  split at hf
  · rename_i h
    cases hf
    exact ⟨x, y, rfl, rfl, h, k _ W .refl ok rfl⟩
  · cases hf
theorem os_eqI : OpS Γ rEq eqI := fun W v u x y z ok i1 i2 hf Q k => by
  have e1 : v = .int x := i1
  have e2 : u = .int y := i2
  subst e1 e2
  cases hf
  refine ⟨rfl, ?_⟩
  have e : decide (V.int x = V.int y) = decide (x = y) := decide_eq_decide.mpr ⟨fun q => by injection q, fun q => by rw [q]⟩
  rw [e]
  exact k _ W .refl ok rfl
theorem os_neI : OpS Γ rNe neI := fun W v u x y z ok i1 i2 hf Q k => by
  have e1 : v = .int x := i1
  have e2 : u = .int y := i2
  subst e1 e2
  cases hf
  refine ⟨rfl, ?_⟩
  have e : decide (V.int x = V.int y) = decide (x = y) := decide_eq_decide.mpr ⟨fun q => by injection q, fun q => by rw [q]⟩
  rw [e]
  exact k _ W .refl ok rfl
theorem os_eqB : OpS Γ rEq eqB := fun W v u x y z ok i1 i2 hf Q k => by
  have e1 : v = .bl x := i1
  have e2 : u = .bl y := i2
  subst e1 e2
  cases hf
  refine ⟨rfl, ?_⟩
  have e : decide (V.bl x = V.bl y) = decide (x = y) := decide_eq_decide.mpr ⟨fun q => by injection q, fun q => by rw [q]⟩
  rw [e]
  exact k _ W .refl ok rfl
theorem os_neB : OpS Γ rNe neB := fun W v u x y z ok i1 i2 hf Q k => by
  have e1 : v = .bl x := i1
  have e2 : u = .bl y := i2
  subst e1 e2
  cases hf
  refine ⟨rfl, ?_⟩
  have e : decide (V.bl x = V.bl y) = decide (x = y) := decide_eq_decide.mpr ⟨fun q => by injection q, fun q => by rw [q]⟩
  rw [e]
  exact k _ W .refl ok rfl
theorem os_eqT : OpS Γ rEq eqT := fun W v u x y z ok i1 i2 hf Q k => by
  have e1 : v = .str x := i1
  have e2 : u = .str y := i2
  subst e1 e2
  cases hf
  refine ⟨rfl, ?_⟩
  have e : decide (V.str x = V.str y) = decide (x = y) := decide_eq_decide.mpr ⟨fun q => by injection q, fun q => by rw [q]⟩
  rw [e]
  exact k _ W .refl ok rfl
theorem os_neT : OpS Γ rNe neT := fun W v u x y z ok i1 i2 hf Q k => by
  have e1 : v = .str x := i1
  have e2 : u = .str y := i2
  subst e1 e2
  cases hf
  refine ⟨rfl, ?_⟩
  have e : decide (V.str x = V.str y) = decide (x = y) := decide_eq_decide.mpr ⟨fun q => by injection q, fun q => by rw [q]⟩
  rw [e]
  exact k _ W .refl ok rfl
/-- x is None, x is not None -/
def isN {α : Type} (x : Option α) (_ : Unit) : Option Bool := some x.isNone
def notN {α : Type} (x : Option α) (_ : Unit) : Option Bool := some x.isSome
/-- a value that is never None -/
class NotNone (α : Type) [Rep α] : Prop where
  nn : ∀ {Γ : Cs} {F : Hp} {v : V} {x : α}, Is Γ F v x → v ≠ .non
theorem os_isN {α : Type} [Rep α] [NotNone α] : OpS Γ (fun x y H Q => y = .non ∧ Q (.bl (decide (x = .non))) H) (isN (α := α)) := fun W v u x y z ok i1 i2 hf Q k => by
  have e2 : u = .non := i2
  subst e2
  cases hf
  refine ⟨rfl, ?_⟩
  have e : decide (v = .non) = x.isNone := by
    cases x with
    | none =>
      have e1 : v = .non := i1
      subst e1
      rfl
    | some y => exact decide_eq_false (NotNone.nn (show Is Γ W.F v y from i1))
  rw [e]
  exact k _ W .refl ok rfl
theorem os_notN {α : Type} [Rep α] [NotNone α] : OpS Γ (fun x y H Q => y = .non ∧ Q (.bl (!decide (x = .non))) H) (notN (α := α)) := fun W v u x y z ok i1 i2 hf Q k => by
  have e2 : u = .non := i2
  subst e2
  cases hf
  refine ⟨rfl, ?_⟩
  have e : (!decide (v = .non)) = x.isSome := by
    cases x with
    | none =>
      have e1 : v = .non := i1
      subst e1
      rfl
    | some y =>
      rw [decide_eq_false (NotNone.nn (show Is Γ W.F v y from i1))]
      rfl
  rw [e]
  exact k _ W .refl ok rfl
instance : NotNone Int := ⟨fun h q => by rw [show _ = _ from h] at q; cases q⟩
instance : NotNone Bool := ⟨fun h q => by rw [show _ = _ from h] at q; cases q⟩
instance : NotNone Str := ⟨fun h q => by rw [show _ = _ from h] at q; cases q⟩
instance {α : Type} [Rep α] : NotNone (List α) := ⟨fun ⟨_, _, h, _⟩ q => by rw [h] at q; cases q⟩
end

/-! ### and, or, not, if -/
section
variable {α : Type} [Rep α] {a b c : Expr} {pos : Pos} {mc m1 m2 : Option Bool} {ma mb : Option α}
theorem x_and (ha : EX X Γ W0 a ρ m1) (hb : EX X Γ W0 b ρ m2) : EX X Γ W0 (.BoolOp .And [a, b] pos) ρ (andM m1 m2) := ⟨fun z hm W σ E Q k => by
  obtain ⟨x, h1, hm⟩ := bindo hm
  refine wp_of (pe_and pe_wp (pe_one pe_wp)) ?_
  refine ha.run x h1 W σ E _ fun v W2 le ok i1 => ?_
  have e1 : v = .bl x := i1
  subst e1
  refine ⟨x, rfl, ?_⟩
  cases x with
  | false =>
    have e : false = z := Option.some.inj hm
    subst e
    exact k _ W2 le ok rfl
  | true => exact hb.run z hm W2 σ (E.mono le ok) Q fun v W3 le2 ok2 i2 => k v W3 (le.trans le2) ok2 i2⟩
theorem x_or (ha : EX X Γ W0 a ρ m1) (hb : EX X Γ W0 b ρ m2) : EX X Γ W0 (.BoolOp .Or [a, b] pos) ρ (orM m1 m2) := ⟨fun z hm W σ E Q k => by
  obtain ⟨x, h1, hm⟩ := bindo hm
  refine wp_of (pe_or pe_wp (pe_one pe_wp)) ?_
  refine ha.run x h1 W σ E _ fun v W2 le ok i1 => ?_
  have e1 : v = .bl x := i1
  subst e1
  refine ⟨x, rfl, ?_⟩
  cases x with
  | true =>
    have e : true = z := Option.some.inj hm
    subst e
    exact k _ W2 le ok rfl
  | false => exact hb.run z hm W2 σ (E.mono le ok) Q fun v W3 le2 ok2 i2 => k v W3 (le.trans le2) ok2 i2⟩
theorem x_and3 {d : Expr} {m3 : Option Bool} (ha : EX X Γ W0 a ρ m1) (hb : EX X Γ W0 b ρ m2) (hd : EX X Γ W0 d ρ m3) : EX X Γ W0 (.BoolOp .And [a, b, d] pos) ρ (andM m1 (andM m2 m3)) := ⟨fun z hm W σ E Q k => by
  obtain ⟨x, h1, hm⟩ := bindo hm
  refine wp_of (pe_and pe_wp (pe_and pe_wp (pe_one pe_wp))) ?_
  refine ha.run x h1 W σ E _ fun v W2 le ok i1 => ?_
  have e1 : v = .bl x := i1
  subst e1
  refine ⟨x, rfl, ?_⟩
  cases x with
  | false =>
    have e : false = z := Option.some.inj hm
    subst e
    exact k _ W2 le ok rfl
  | true =>
    obtain ⟨y, h2, hm⟩ := bindo (show andM m2 m3 = some z from hm)
    refine hb.run y h2 W2 σ (E.mono le ok) _ fun v W3 le2 ok2 i2 => ?_
    have e2 : v = .bl y := i2
    subst e2
    refine ⟨y, rfl, ?_⟩
    cases y with
    | false =>
      have e : false = z := Option.some.inj hm
      subst e
      exact k _ W3 (le.trans le2) ok2 rfl
    | true => exact hd.run z hm W3 σ (E.mono (le.trans le2) ok2) Q fun v W4 le3 ok3 i3 => k v W4 ((le.trans le2).trans le3) ok3 i3⟩
/-- not of a truth value -/
theorem x_not (ha : EX X Γ W0 a ρ m1) : EX X Γ W0 (.UnaryOp .Not a pos) ρ (notM m1) := ⟨fun z hm W σ E Q k => by
  obtain ⟨x, h1, hm⟩ := bindo hm
  cases hm
  refine wp_of (pe_not pe_wp) ?_
  refine ha.run x h1 W σ E _ fun v W2 le ok i1 => ?_
  have e1 : v = .bl x := i1
  subst e1
  exact ⟨x, rfl, k _ W2 le ok rfl⟩⟩
theorem x_if (hc : TX X Γ W0 c ρ mc) (ha : EX X Γ W0 a ρ ma) (hb : EX X Γ W0 b ρ mb) : EX X Γ W0 (.IfExp c a b pos) ρ (iteM mc ma mb) := ⟨fun z hm W σ E Q k => by
  obtain ⟨x, h1, hm⟩ := bindo hm
  refine wp_of (pe_ifExp pt_wp pe_wp pe_wp) ?_
  refine hc.run x h1 W σ E _ fun W2 le ok => ?_
  cases x with
  | true => exact iteT (ha.run z hm W2 σ (E.mono le ok) Q fun v W3 le2 ok2 i2 => k v W3 (le.trans le2) ok2 i2)
  | false => exact iteF (hb.run z hm W2 σ (E.mono le ok) Q fun v W3 le2 ok2 i2 => k v W3 (le.trans le2) ok2 i2)⟩
theorem t_val (ha : EX X Γ W0 a ρ m1) (he : ∀ whole, isTrue a X.env whole = (do let v ← whole; standAt a.pos; holding [v] (truthy v)) := by intro _; rfl) : TX X Γ W0 a ρ m1 := ⟨fun z hm W σ E Q k => by
  refine wt_of (pt_val pe_wp he) ?_
  refine ha.run z hm W σ E _ fun v W2 le ok i1 => ?_
  exact ⟨z, i1, k W2 le ok⟩⟩
theorem pw_of_wt (h : TX X Γ W0 a ρ m1) : TX X Γ W0 a ρ m1 := h
theorem t_and (ha : TX X Γ W0 a ρ m1) (hb : TX X Γ W0 b ρ m2) : TX X Γ W0 (.BoolOp .And [a, b] pos) ρ (andM m1 m2) := ⟨fun z hm W σ E Q k => by
  obtain ⟨x, h1, hm⟩ := bindo hm
  refine wt_of (PW.pt (pw_and pt_wp (pw_and1 pt_wp))) ?_
  refine ha.run x h1 W σ E _ fun W2 le ok => ?_
  cases x with
  | false =>
    have e : false = z := Option.some.inj hm
    subst e
    exact iteF (k W2 le ok)
  | true => exact iteT (hb.run z hm W2 σ (E.mono le ok) Q fun W3 le2 ok2 => k W3 (le.trans le2) ok2)⟩
theorem t_or (ha : TX X Γ W0 a ρ m1) (hb : TX X Γ W0 b ρ m2) : TX X Γ W0 (.BoolOp .Or [a, b] pos) ρ (orM m1 m2) := ⟨fun z hm W σ E Q k => by
  obtain ⟨x, h1, hm⟩ := bindo hm
  refine wt_of (PW.pt (pw_or pt_wp (pw_or1 pt_wp))) ?_
  refine ha.run x h1 W σ E _ fun W2 le ok => ?_
  cases x with
  | true =>
    have e : true = z := Option.some.inj hm
    subst e
    exact iteT (k W2 le ok)
  | false => exact iteF (hb.run z hm W2 σ (E.mono le ok) Q fun W3 le2 ok2 => k W3 (le.trans le2) ok2)⟩
theorem t_or3 {d : Expr} {m3 : Option Bool} (ha : TX X Γ W0 a ρ m1) (hb : TX X Γ W0 b ρ m2) (hd : TX X Γ W0 d ρ m3) : TX X Γ W0 (.BoolOp .Or [a, b, d] pos) ρ (orM m1 (orM m2 m3)) := ⟨fun z hm W σ E Q k => by
  obtain ⟨x, h1, hm⟩ := bindo hm
  refine wt_of (PW.pt (pw_or pt_wp (pw_or pt_wp (pw_or1 pt_wp)))) ?_
  refine ha.run x h1 W σ E _ fun W2 le ok => ?_
  cases x with
  | true =>
    have e : true = z := Option.some.inj hm
    subst e
    exact iteT (k W2 le ok)
  | false =>
    refine iteF ?_
    obtain ⟨y, h2, hm⟩ := bindo (show orM m2 m3 = some z from hm)
    refine hb.run y h2 W2 σ (E.mono le ok) _ fun W3 le2 ok2 => ?_
    cases y with
    | true =>
      have e : true = z := Option.some.inj hm
      subst e
      exact iteT (k W3 (le.trans le2) ok2)
    | false => exact iteF (hd.run z hm W3 σ (E.mono (le.trans le2) ok2) Q fun W4 le3 ok3 => k W4 ((le.trans le2).trans le3) ok3)⟩
theorem t_not (ha : TX X Γ W0 a ρ m1) : TX X Γ W0 (.UnaryOp .Not a pos) ρ (notM m1) := ⟨fun z hm W σ E Q k => by
  obtain ⟨x, h1, hm⟩ := bindo hm
  cases hm
  refine wt_of (pt_not pt_wp) ?_
  exact ha.run x h1 W σ E _ fun W2 le ok => k W2 le ok⟩
end
end
end SR
end
section
set_option Elab.async false
set_option linter.all false
set_option maxRecDepth 100000
set_option maxHeartbeats 4000000
namespace SR
open PySem PySem.Spec PyProof.Rows L2

/-! ### the environment changes -/
/-- some slots are forgotten -/
inductive Weak : List Slot → List Slot → Prop where
  | nil : Weak [] []
  | keep {s : Slot} {a b : List Slot} (h : Weak a b) : Weak (s :: a) (s :: b)
  | drop {s : Slot} {a b : List Slot} (h : Weak a b) : Weak (s :: a) (.un :: b)
theorem Weak.len {a b : List Slot} (h : Weak a b) : a.length = b.length := by
  induction h with
  | nil => rfl
  | keep _ ih => rw [List.length_cons, List.length_cons, ih]
  | drop _ ih => rw [List.length_cons, List.length_cons, ih]
theorem Weak.get {a b : List Slot} (h : Weak a b) : ∀ {i : Nat} {s : Slot}, b[i]? = some s → s = .un ∨ a[i]? = some s := by
  induction h with
  | nil => intro i s e; simp at e
  | keep _ ih =>
    intro i s e
    cases i with
    | zero => exact .inr e
    | succ i => exact ih (by simpa using e)
  | drop _ ih =>
    intro i s e
    cases i with
    | zero =>
      have : Slot.un = s := Option.some.inj (by simpa using e)
      exact .inl this.symm
    | succ i => exact ih (by simpa using e)
def NotOwned (ρ : List Slot) (σ : St) (D : Addr) : Prop := ∀ (i : Nat) (s : Slot), ρ[i]? = some s → s.own = true → σ[i]? ≠ some (some (.ref D))
section
variable {Γ : Cs} {W0 W W' : Wd} {ρ ρ' : List Slot} {σ : St}
theorem EnvOk.weak (E : EnvOk Γ W0 W ρ σ) (h : Weak ρ ρ') : EnvOk Γ W0 W ρ' σ := by
  refine ⟨E.ok, E.le, by rw [E.len, h.len], fun i s o h1 h2 => ?_, fun i j s t a h1 h2 h3 h4 h5 h6 => ?_⟩
  · rcases h.get h1 with e | e
    · subst e
      trivial
    · exact E.at_ i s o e h2
  · rcases h.get h1 with e | e
    · subst e
      cases h3
    · rcases h.get h2 with e' | e'
      · subst e'
        cases h4
      · exact E.dis i j s t a e e' h3 h4 h5 h6
/-- what is owned stands in the heap, not frozen -/
theorem EnvOk.ownH (E : EnvOk Γ W0 W ρ σ) {i : Nat} {s : Slot} {a : Addr} (h1 : ρ[i]? = some s) (h2 : s.own = true) (h3 : σ[i]? = some (some (.ref a))) : W.H a ≠ none ∧ W.F a = none ∧ W0.H a = none := by
  have q := E.at_ i s _ h1 h3
  cases s with
  | un => cases h2
  | fz d => cases h2
  | owL xs =>
    obtain ⟨b, vs, e1, e2, e3, e4, _⟩ := q
    have e : a = b := by
      have := Option.some.inj e1
      injection this
    subst e
    exact ⟨(by rw [e4]; exact fun z => nomatch z), e3, e2⟩
  | owD xs =>
    obtain ⟨b, vs, e1, e2, e3, e4, _⟩ := q
    have e : a = b := by
      have := Option.some.inj e1
      injection this
    subst e
    exact ⟨(by rw [e4]; exact fun z => nomatch z), e3, e2⟩
  | lk xs => cases h2
  | rd xs => cases h2
  | slf p C ks ds =>
    obtain ⟨b, dx, vs, e1, e2, e3, e4, _⟩ := q
    have e : a = b := by
      have := Option.some.inj e1
      injection this
    subst e
    exact ⟨(by rw [e4]; exact fun z => nomatch z), e3, e2⟩
theorem EnvOk.notOwned (E : EnvOk Γ W0 W ρ σ) {D : Addr} (h : W.H D = none) : NotOwned ρ σ D := fun i s h1 h2 h3 => (E.ownH h1 h2 h3).1 h
theorem EnvOk.notOwnedF (E : EnvOk Γ W0 W ρ σ) {D : Addr} (h : W.F D ≠ none) : NotOwned ρ σ D := fun i s h1 h2 h3 => h (E.ownH h1 h2 h3).2.1
/-- an object of nobody's changes -/
theorem EnvOk.poke (E : EnvOk Γ W0 W ρ σ) {D : Addr} {o : HO} (h0 : W0.H D = none) (hF : W.F D = none) (hn : NotOwned ρ σ D) : EnvOk Γ W0 ⟨W.F, upd W.H D o⟩ ρ σ := by
  refine ⟨fun a u e => ?_, ⟨fun a u e => ?_, E.le.f, E.le.own⟩, E.len, fun i s q h1 h2 => ?_, E.dis⟩
  · have z : a ≠ D := ne_of_none e hF
    show ∃ o', upd W.H D o a = some o' ∧ _
    rw [upd_ne z]
    exact E.ok a u e
  · show upd W.H D o a = some u
    rw [upd_ne (ne_of_none e h0)]
    exact E.le.h a u e
  · have q' := E.at_ i s q h1 h2
    have hn' := hn i s h1
    cases s with
    | un => trivial
    | fz d => exact q'
    | owL xs =>
      obtain ⟨a, vs, e1, e2, e3, e4, e5⟩ := q'
      refine ⟨a, vs, e1, e2, e3, ?_, e5⟩
      show upd W.H D o a = _
      rw [upd_ne (fun z => hn' rfl (by rw [h2, e1, z]))]
      exact e4
    | owD xs =>
      obtain ⟨a, vs, e1, e2, e3, e4, e5⟩ := q'
      refine ⟨a, vs, e1, e2, e3, ?_, e5⟩
      show upd W.H D o a = _
      rw [upd_ne (fun z => hn' rfl (by rw [h2, e1, z]))]
      exact e4
    | rd xs => exact q'
    | lk xs =>
      obtain ⟨a, ob, vs, e1, e2, e3, e4⟩ := q'
      refine ⟨a, ob, vs, e1, e2, ?_, e4⟩
      show upd W.H D o a = _
      rw [upd_ne (fun z => e2 (by rw [z]; exact hF))]
      exact e3
    | slf p C ks ds =>
      obtain ⟨a, dx, vs, e1, e2, e3, e4, e5⟩ := q'
      refine ⟨a, dx, vs, e1, e2, e3, ?_, e5⟩
      show upd W.H D o a = _
      rw [upd_ne (fun z => hn' rfl (by rw [h2, e1, z]))]
      exact e4
/-- an object of one's own changes: the slot i, whose address is a, is now s' -/
theorem EnvOk.change (E : EnvOk Γ W0 W ρ σ) {i : Nat} {s s' : Slot} {a : Addr} {o : HO} (h1 : ρ[i]? = some s) (h2 : s.own = true) (h3 : σ[i]? = some (some (.ref a))) (ho : s'.own = true)
    (new : SlotOk Γ W0 ⟨W.F, upd W.H a o⟩ s' (some (.ref a))) : EnvOk Γ W0 ⟨W.F, upd W.H a o⟩ (ρ.set i s') σ := by
  obtain ⟨k1, k2, k3⟩ := E.ownH h1 h2 h3
  have hi : i < ρ.length := (List.getElem?_eq_some_iff.mp h1).1
  -- the others
  have E1 : EnvOk Γ W0 ⟨W.F, upd W.H a o⟩ (ρ.set i .un) σ := by
    have e0 : EnvOk Γ W0 W (ρ.set i .un) σ := by
      have := E.drop i (some (.ref a))
      rw [show σ.set i (some (.ref a)) = σ from List.ext_getElem? fun j => by
        by_cases z : i = j
        · subst z
          rw [List.getElem?_set_self (by rw [E.len]; exact hi), h3]
        · rw [List.getElem?_set_ne z]] at this
      exact this
    refine e0.poke k3 k2 fun j t e1 e2 e3 => ?_
    by_cases z : i = j
    · subst z
      rw [List.getElem?_set_self hi] at e1
      rw [← Option.some.inj e1] at e2
      cases e2
    · rw [List.getElem?_set_ne z] at e1
      exact z (E.dis i j s t a h1 e1 h2 e2 h3 e3)
  refine ⟨E1.ok, E1.le, by rw [List.length_set, E.len], fun j t q e1 e2 => ?_, fun j k t u b e1 e2 e3 e4 e5 e6 => ?_⟩
  · by_cases z : i = j
    · subst z
      rw [List.getElem?_set_self hi] at e1
      rw [h3] at e2
      rw [← Option.some.inj e1, ← Option.some.inj e2]
      exact new
    · rw [List.getElem?_set_ne z] at e1
      exact E1.at_ j t q (by rw [List.getElem?_set_ne z]; exact e1) e2
  · have old : ∀ {j : Nat} {t : Slot}, (ρ.set i s')[j]? = some t → t.own = true → ∃ t', ρ[j]? = some t' ∧ t'.own = true := fun {j t} e e' => by
      by_cases z : i = j
      · subst z
        exact ⟨s, h1, h2⟩
      · rw [List.getElem?_set_ne z] at e
        exact ⟨t, e, e'⟩
    obtain ⟨t', e1', e3'⟩ := old e1 e3
    obtain ⟨u', e2', e4'⟩ := old e2 e4
    exact E.dis j k t' u' b e1' e2' e3' e4' e5 e6
/-- a name is given a new object -/
theorem EnvOk.setOwn (E : EnvOk Γ W0 W ρ σ) (i : Nat) {s : Slot} {p : Addr} (hn : NotOwned ρ σ p) (ho : s.own = true) (new : SlotOk Γ W0 W s (some (.ref p))) : EnvOk Γ W0 W (ρ.set i s) (σ.set i (some (.ref p))) := by
  refine ⟨E.ok, E.le, by rw [List.length_set, List.length_set, E.len], fun j t o h1 h2 => ?_, fun j k t u a h1 h2 h3 h4 h5 h6 => ?_⟩
  · by_cases z : i = j
    · subst z
      have hi : i < ρ.length := by
        have := (List.getElem?_eq_some_iff.mp h1).1
        rw [List.length_set] at this
        exact this
      rw [List.getElem?_set_self hi] at h1
      rw [List.getElem?_set_self (by rw [E.len]; exact hi)] at h2
      rw [← Option.some.inj h1, ← Option.some.inj h2]
      exact new
    · rw [List.getElem?_set_ne z] at h1 h2
      exact E.at_ j t o h1 h2
  · by_cases zj : i = j
    · by_cases zk : i = k
      · rw [← zj, ← zk]
      · exfalso
        subst zj
        have hi : i < σ.length := by
          have := (List.getElem?_eq_some_iff.mp h5).1
          rw [List.length_set] at this
          exact this
        rw [List.getElem?_set_self hi] at h5
        have e : p = a := by
          have := Option.some.inj (Option.some.inj h5)
          injection this
        rw [List.getElem?_set_ne zk] at h2 h6
        rw [← e] at h6
        exact hn k u h2 h4 h6
    · by_cases zk : i = k
      · exfalso
        subst zk
        have hi : i < σ.length := by
          have := (List.getElem?_eq_some_iff.mp h6).1
          rw [List.length_set] at this
          exact this
        rw [List.getElem?_set_self hi] at h6
        have e : p = a := by
          have := Option.some.inj (Option.some.inj h6)
          injection this
        rw [List.getElem?_set_ne zj] at h1 h5
        rw [← e] at h5
        exact hn j t h1 h3 h5
      · rw [List.getElem?_set_ne zj] at h1 h5
        rw [List.getElem?_set_ne zk] at h2 h6
        exact E.dis j k t u a h1 h2 h3 h4 h5 h6
/-- what is one's own is frozen -/
theorem EnvOk.freeze (E : EnvOk Γ W0 W ρ σ) {i : Nat} {s : Slot} {d : Dat} {a : Addr} {o : HO} (h1 : ρ[i]? = some s) (h2 : s.own = true) (h3 : σ[i]? = some (some (.ref a))) (h4 : W.H a = some o) (new : d.is Γ (upd W.F a o) (.ref a)) :
    HLe W.F (upd W.F a o) ∧ EnvOk Γ W0 ⟨upd W.F a o, W.H⟩ (ρ.set i (.fz d)) σ := by
  obtain ⟨k1, k2, k3⟩ := E.ownH h1 h2 h3
  have hi : i < ρ.length := (List.getElem?_eq_some_iff.mp h1).1
  refine ⟨HLe.upd_new k2, freeze_ok E.ok h4, ⟨E.le.h, E.le.f.trans (HLe.upd_new k2), fun b e1 e2 => ?_⟩, by rw [List.length_set, E.len], fun j t q e1 e2 => ?_, fun j k t u b e1 e2 e3 e4 e5 e6 => ?_⟩
  · show upd W.F a o b = none
    rw [upd_ne (fun z => e1 (by rw [z]; exact k3))]
    exact E.le.own b e1 e2
  · by_cases z : i = j
    · subst z
      rw [List.getElem?_set_self hi] at e1
      rw [h3] at e2
      rw [← Option.some.inj e1, ← Option.some.inj e2]
      exact ⟨_, rfl, new⟩
    · rw [List.getElem?_set_ne z] at e1
      have q' := E.at_ j t q e1 e2
      have hd := E.dis i j s t a h1 e1 h2
      cases t with
      | un => trivial
      | fz d' =>
        obtain ⟨v, g1, g2⟩ := q'
        exact ⟨v, g1, Dat.mono (HLe.upd_new k2) g2⟩
      | owL xs =>
        obtain ⟨b, vs, g1, g2, g3, g4, g5⟩ := q'
        have ne : b ≠ a := fun y => z (hd rfl h3 (by rw [e2, g1, y]))
        exact ⟨b, vs, g1, g2, by show upd W.F a o b = none; rw [upd_ne ne]; exact g3, g4, g5.mono (HLe.upd_new k2)⟩
      | owD xs =>
        obtain ⟨b, vs, g1, g2, g3, g4, g5⟩ := q'
        have ne : b ≠ a := fun y => z (hd rfl h3 (by rw [e2, g1, y]))
        exact ⟨b, vs, g1, g2, by show upd W.F a o b = none; rw [upd_ne ne]; exact g3, g4, g5.mono (HLe.upd_new k2)⟩
      | rd xs =>
        obtain ⟨b, vs, g1, g2, g3⟩ := q'
        exact ⟨b, vs, g1, g2, g3.mono (HLe.upd_new k2)⟩
      | lk xs =>
        obtain ⟨b, ob, vs, g1, g2, g3, g4⟩ := q'
        exact ⟨b, ob, vs, g1, (HLe.upd_new k2).stays g2, g3, g4.mono (HLe.upd_new k2)⟩
      | slf p C ks ds =>
        obtain ⟨b, dx, vs, g1, g2, g3, g4, g6, g7, g5⟩ := q'
        have ne : b ≠ a := fun y => z (hd rfl h3 (by rw [e2, g1, y]))
        exact ⟨b, dx, vs, g1, g2, by show upd W.F a o b = none; rw [upd_ne ne]; exact g3, g4, g6, g7, g5.imp fun _ _ q => Dat.mono (HLe.upd_new k2) q⟩
  · have old : ∀ {j : Nat} {t : Slot}, (ρ.set i (.fz d))[j]? = some t → t.own = true → i ≠ j ∧ ρ[j]? = some t := fun {j t} e e' => by
      by_cases z : i = j
      · subst z
        rw [List.getElem?_set_self hi] at e
        rw [← Option.some.inj e] at e'
        cases e'
      · rw [List.getElem?_set_ne z] at e
        exact ⟨z, e⟩
    exact E.dis j k t u b (old e1 e3).2 (old e2 e4).2 e3 e4 e5 e6
end

/-! ### statements: judgements -/
section
variable (X : Cx) (Γ : Cs) (W0 : Wd)
/-- a statement that goes on -/
structure SX (st : Stmt) (ρ : List Slot) {β : Type} (m : Option β) (ρ' : β → List Slot) : Prop where
  run : ∀ b, m = some b → ∀ W σ, EnvOk Γ W0 W ρ σ → ∀ D : Ends, (∀ W2 σ2, HLe W.F W2.F → EnvOk Γ W0 W2 (ρ' b) σ2 → D.nx σ2 W2.H) → wpS X st D σ W.H
/-- a block that goes on -/
structure BX (sts : List Stmt) (ρ : List Slot) {β : Type} (m : Option β) (ρ' : β → List Slot) : Prop where
  run : ∀ b, m = some b → ∀ W σ, EnvOk Γ W0 W ρ σ → ∀ D : Ends, (∀ W2 σ2, HLe W.F W2.F → EnvOk Γ W0 W2 (ρ' b) σ2 → D.nx σ2 W2.H) → wpSs X sts D σ W.H
/-- how a def hands its value back -/
abbrev RK (R : Type) : Type := V → Wd → R → Prop
/-- a block that returns -/
structure RX {R : Type} (K : RK R) (sts : List Stmt) (ρ : List Slot) (m : Option R) : Prop where
  run : ∀ r, m = some r → ∀ W σ, EnvOk Γ W0 W ρ σ → ∀ D : Ends, (∀ v W2, W0.le W2 → HLe W.F W2.F → HLe W2.F W2.H → K v W2 r → D.rt v W2.H) → wpSs X sts D σ W.H
end
/-- goes on, returns, breaks -/
inductive Out (S R : Type) where
  | nx (s : S)
  | rt (r : R)
  | bk (s : S)
def OutQ {R S : Type} (Γ : Cs) (W0 : Wd) (K : RK R) (ρ' : S → List Slot) (D : Ends) (F : Hp) : Out S R → Prop
  | .nx s => ∀ W2 σ2, HLe F W2.F → EnvOk Γ W0 W2 (ρ' s) σ2 → D.nx σ2 W2.H ∧ D.ct σ2 W2.H
  | .rt r => ∀ v W2, W0.le W2 → HLe F W2.F → HLe W2.F W2.H → K v W2 r → D.rt v W2.H
  | .bk s => ∀ W2 σ2, HLe F W2.F → EnvOk Γ W0 W2 (ρ' s) σ2 → D.bk σ2 W2.H
theorem OutQ.mono {R S : Type} {Γ : Cs} {W0 : Wd} {K : RK R} {ρ' : S → List Slot} {D : Ends} {F F' : Hp} {o : Out S R} (h : OutQ Γ W0 K ρ' D F o) (le : HLe F F') : OutQ Γ W0 K ρ' D F' o := by
  cases o with
  | nx s => exact fun W3 σ3 le2 E3 => h W3 σ3 (le.trans le2) E3
  | rt r => exact fun v W3 le0 le2 ok i => h v W3 le0 (le.trans le2) ok i
  | bk s => exact fun W3 σ3 le2 E3 => h W3 σ3 (le.trans le2) E3
section
variable (X : Cx) (Γ : Cs) (W0 : Wd)
/-- a block that may do each -/
structure GX {R S : Type} (K : RK R) (sts : List Stmt) (ρ : List Slot) (m : Option (Out S R)) (ρ' : S → List Slot) : Prop where
  run : ∀ o, m = some o → ∀ W σ, EnvOk Γ W0 W ρ σ → ∀ D : Ends, OutQ Γ W0 K ρ' D W.F o → wpSs X sts D σ W.H
end
/-- a frozen value -/
def kF (Γ : Cs) {R : Type} [Rep R] : RK R := fun v W r => Is Γ W.F v r
/-- a new list -/
def kO (Γ : Cs) (W0 : Wd) {α : Type} [Rep α] : RK (List α) := fun v W xs => ∃ p vs, v = .ref p ∧ W0.H p = none ∧ W.F p = none ∧ W.H p = some (.lst vs) ∧ IsAll Γ W.F vs xs
abbrev bindM {α β : Type} (a : Option α) (k : α → Option β) : Option β := a.bind k
section
variable {X : Cx} {Γ : Cs} {W0 : Wd} {ρ : List Slot} {R : Type} {K : RK R}
/-! ### blocks -/
theorem b_nil {β : Type} {b : β} {ρ' : β → List Slot} (h : Weak ρ (ρ' b) := by repeat (first | exact Weak.nil | refine Weak.keep ?_ | refine Weak.drop ?_)) : BX X Γ W0 [] ρ (some b) ρ' := ⟨fun c hm W σ E D k => by
  cases hm
  exact wss_of pss_nil (k W σ .refl (E.weak h))⟩
theorem b_cons {β γ : Type} {st : Stmt} {rest : List Stmt} {m : Option β} {k : β → Option γ} {ρ1 : β → List Slot} {ρ2 : γ → List Slot} (h1 : SX X Γ W0 st ρ m ρ1) (h2 : ∀ b, BX X Γ W0 rest (ρ1 b) (k b) ρ2) : BX X Γ W0 (st :: rest) ρ (bindM m k) ρ2 := ⟨fun c hm W σ E D q => by
  obtain ⟨b, e1, hm⟩ := bindo hm
  refine wss_of (pss_cons ps_wp pss_wp) ?_
  exact h1.run b e1 W σ E _ fun W2 σ2 le E2 => (h2 b).run c hm W2 σ2 E2 D fun W3 σ3 le2 E3 => q W3 σ3 (le.trans le2) E3⟩
theorem r_cons {β : Type} {st : Stmt} {rest : List Stmt} {m : Option β} {k : β → Option R} {ρ1 : β → List Slot} (h1 : SX X Γ W0 st ρ m ρ1) (h2 : ∀ b, RX X Γ W0 K rest (ρ1 b) (k b)) : RX X Γ W0 K (st :: rest) ρ (bindM m k) := ⟨fun c hm W σ E D q => by
  obtain ⟨b, e1, hm⟩ := bindo hm
  refine wss_of (pss_cons ps_wp pss_wp) ?_
  exact h1.run b e1 W σ E _ fun W2 σ2 le E2 => (h2 b).run c hm W2 σ2 E2 D fun v W3 le0 le2 ok i => q v W3 le0 (le.trans le2) ok i⟩
theorem g_cons {β S : Type} {st : Stmt} {rest : List Stmt} {m : Option β} {k : β → Option (Out S R)} {ρ1 : β → List Slot} {ρ2 : S → List Slot} (h1 : SX X Γ W0 st ρ m ρ1) (h2 : ∀ b, GX X Γ W0 K rest (ρ1 b) (k b) ρ2) : GX X Γ W0 K (st :: rest) ρ (bindM m k) ρ2 := ⟨fun o hm W σ E D q => by
  obtain ⟨b, e1, hm⟩ := bindo hm
  refine wss_of (pss_cons ps_wp pss_wp) ?_
  exact h1.run b e1 W σ E _ fun W2 σ2 le E2 => (h2 b).run o hm W2 σ2 E2 D (q.mono le)⟩
theorem g_nil {S : Type} {b : S} {ρ' : S → List Slot} (h : Weak ρ (ρ' b) := by repeat (first | exact Weak.nil | refine Weak.keep ?_ | refine Weak.drop ?_)) : GX X Γ W0 K [] ρ (some (.nx b)) ρ' := ⟨fun c hm W σ E D k => by
  cases hm
  exact wss_of pss_nil (k W σ .refl (E.weak h)).1⟩
theorem g_break {S : Type} {b : S} {ρ' : S → List Slot} {pos : Pos} (h : Weak ρ (ρ' b) := by repeat (first | exact Weak.nil | refine Weak.keep ?_ | refine Weak.drop ?_)) : GX X Γ W0 K [.Break pos] ρ (some (.bk b)) ρ' := ⟨fun c hm W σ E D k => by
  cases hm
  exact wss_of (pss_one ps_break) (k W σ .refl (E.weak h))⟩
theorem g_continue {S : Type} {b : S} {ρ' : S → List Slot} {pos : Pos} (h : Weak ρ (ρ' b) := by repeat (first | exact Weak.nil | refine Weak.keep ?_ | refine Weak.drop ?_)) : GX X Γ W0 K [.Continue pos] ρ (some (.nx b)) ρ' := ⟨fun c hm W σ E D k => by
  cases hm
  exact wss_of (pss_one ps_continue) (k W σ .refl (E.weak h)).2⟩
theorem r_ret {α : Type} [Rep α] {e : Expr} {pos : Pos} {m : Option α} (h : EX X Γ W0 e ρ m) : RX X Γ W0 (kF Γ) [.Return (some e) pos] ρ m := ⟨fun r hm W σ E D q => by
  refine wss_of (pss_one (ps_ret pe_wp)) ?_
  exact h.run r hm W σ E _ fun v W2 le ok i => q v W2 (E.le.trans le) le.f ok i⟩
theorem r_retO {α : Type} [Rep α] {e : Expr} {pos : Pos} {m : Option (List α)} (h : OX X Γ W0 e ρ m) : RX X Γ W0 (kO Γ W0) [.Return (some e) pos] ρ m := ⟨fun r hm W σ E D q => by
  refine wss_of (pss_one (ps_ret pe_wp)) ?_
  exact h.run r hm W σ E _ fun p vs W2 le ok h1 h2 h3 h4 => q _ W2 (E.le.trans le) le.f ok ⟨p, vs, rfl, E.le.free h1, h2, h3, h4⟩⟩
/-- an own list is handed back -/
theorem r_retV {α : Type} [Rep α] {n : Str} {pos pos' : Pos} {xs : List α} (i : Nat) (h : ρ[i]? = some (.owL xs) := by rfl) (hN : X.N[i]? = some n := by rfl)
    (hv : Vis X.env.scope n := by first | exact Or.inl rfl | exact Or.inr (Or.inl rfl) | exact Or.inr (Or.inr rfl)) (hd : (n == ("__debug__" : Str)) = false := by decide)
    (hcd : (n == ("__classdict__" : Str)) = false := by decide) : RX X Γ W0 (kO Γ W0) [.Return (some (.Name n pos')) pos] ρ (some xs) := ⟨fun r hm W σ E D q => by
  cases hm
  obtain ⟨o, h1, a, vs, h2, h3, h4, h5, h6⟩ := E.slot h
  subst h2
  exact wss_of (pss_one (ps_ret (pv i hN hv hd hcd))) ⟨_, h1, q _ W E.le .refl E.ok ⟨a, vs, rfl, h3, h4, h5, h6⟩⟩⟩
/-- what cannot be come to -/
theorem r_never {sts : List Stmt} : RX X Γ W0 K sts ρ none := ⟨fun r hm => nomatch hm⟩
theorem b_never {β : Type} {sts : List Stmt} {ρ' : β → List Slot} : BX X Γ W0 sts ρ none ρ' := ⟨fun r hm => nomatch hm⟩
theorem r_if {c : Expr} {A B : List Stmt} {pos : Pos} {mc : Option Bool} {mA mB : Option R} (hc : TX X Γ W0 c ρ mc) (hA : RX X Γ W0 K A ρ mA) (hB : RX X Γ W0 K B ρ mB) : RX X Γ W0 K [.If c A B pos] ρ (iteM mc mA mB) := ⟨fun r hm W σ E D q => by
  obtain ⟨b, h1, hm⟩ := bindo hm
  refine wss_of (pss_one (ps_if pt_wp pss_wp pss_wp)) ?_
  refine hc.run b h1 W σ E _ fun W2 le ok => ?_
  cases b with
  | true => exact iteT (hA.run r hm W2 σ (E.mono le ok) D fun v W3 le0 le2 ok i => q v W3 le0 (le.f.trans le2) ok i)
  | false => exact iteF (hB.run r hm W2 σ (E.mono le ok) D fun v W3 le0 le2 ok i => q v W3 le0 (le.f.trans le2) ok i)⟩
/-- if c: .. return; and on -/
theorem r_ifr {c : Expr} {A rest : List Stmt} {pos : Pos} {mc : Option Bool} {mA mB : Option R} (hc : TX X Γ W0 c ρ mc) (hA : RX X Γ W0 K A ρ mA) (hB : RX X Γ W0 K rest ρ mB) : RX X Γ W0 K (.If c A [] pos :: rest) ρ (iteM mc mA mB) := ⟨fun r hm W σ E D q => by
  obtain ⟨b, h1, hm⟩ := bindo hm
  refine wss_of (pss_cons (ps_if pt_wp pss_wp pss_nil) pss_wp) ?_
  refine hc.run b h1 W σ E _ fun W2 le ok => ?_
  cases b with
  | true => exact iteT (hA.run r hm W2 σ (E.mono le ok) _ fun v W3 le0 le2 ok i => q v W3 le0 (le.f.trans le2) ok i)
  | false => exact iteF (hB.run r hm W2 σ (E.mono le ok) D fun v W3 le0 le2 ok i => q v W3 le0 (le.f.trans le2) ok i)⟩
theorem g_ifr {S : Type} {c : Expr} {A rest : List Stmt} {pos : Pos} {mc : Option Bool} {mA : Option R} {mB : Option (Out S R)} {ρ' : S → List Slot} (hc : TX X Γ W0 c ρ mc) (hA : RX X Γ W0 K A ρ mA) (hB : GX X Γ W0 K rest ρ mB ρ') :
    GX X Γ W0 K (.If c A [] pos :: rest) ρ (iteM mc (mA.bind fun r => some (.rt r)) mB) ρ' := ⟨fun o hm W σ E D q => by
  obtain ⟨b, h1, hm⟩ := bindo hm
  refine wss_of (pss_cons (ps_if pt_wp pss_wp pss_nil) pss_wp) ?_
  refine hc.run b h1 W σ E _ fun W2 le ok => ?_
  cases b with
  | true =>
    obtain ⟨r, h2, hm⟩ := bindo (show (mA.bind fun r => some (.rt r)) = some o from hm)
    cases hm
    exact iteT (hA.run r h2 W2 σ (E.mono le ok) _ fun v W3 le0 le2 ok i => q v W3 le0 (le.f.trans le2) ok i)
  | false => exact iteF (hB.run o hm W2 σ (E.mono le ok) D (q.mono le.f))⟩
theorem g_if {S : Type} {c : Expr} {A B : List Stmt} {pos : Pos} {mc : Option Bool} {mA mB : Option (Out S R)} {ρ' : S → List Slot} (hc : TX X Γ W0 c ρ mc) (hA : GX X Γ W0 K A ρ mA ρ') (hB : GX X Γ W0 K B ρ mB ρ') : GX X Γ W0 K [.If c A B pos] ρ (iteM mc mA mB) ρ' := ⟨fun o hm W σ E D q => by
  obtain ⟨b, h1, hm⟩ := bindo hm
  refine wss_of (pss_one (ps_if pt_wp pss_wp pss_wp)) ?_
  refine hc.run b h1 W σ E _ fun W2 le ok => ?_
  cases b with
  | true => exact iteT (hA.run o hm W2 σ (E.mono le ok) D (q.mono le.f))
  | false => exact iteF (hB.run o hm W2 σ (E.mono le ok) D (q.mono le.f))⟩
/-- an own list is frozen on the way -/
theorem r_freeze {α : Type} [Rep α] {sts : List Stmt} {xs : List α} {m : Option R} (i : Nat) (h : RX X Γ W0 K sts (ρ.set i (fz xs)) m) (h1 : ρ[i]? = some (.owL xs) := by rfl) : RX X Γ W0 K sts ρ m := ⟨fun r hm W σ E D q => by
  obtain ⟨o, g1, a, vs, g2, g3, g4, g5, g6⟩ := E.slot h1
  subst g2
  obtain ⟨le, E2⟩ := E.freeze (d := ⟨xs⟩) h1 rfl g1 g5 ⟨a, vs, rfl, upd_same, g6.mono (HLe.upd_new g4)⟩
  exact h.run r hm _ σ E2 D fun v W3 le0 le2 ok i => q v W3 le0 (le.trans le2) ok i⟩
theorem b_freeze {α β : Type} [Rep α] {sts : List Stmt} {xs : List α} {m : Option β} {ρ' : β → List Slot} (i : Nat) (h : BX X Γ W0 sts (ρ.set i (fz xs)) m ρ') (h1 : ρ[i]? = some (.owL xs) := by rfl) : BX X Γ W0 sts ρ m ρ' := ⟨fun r hm W σ E D q => by
  obtain ⟨o, g1, a, vs, g2, g3, g4, g5, g6⟩ := E.slot h1
  subst g2
  obtain ⟨le, E2⟩ := E.freeze (d := ⟨xs⟩) h1 rfl g1 g5 ⟨a, vs, rfl, upd_same, g6.mono (HLe.upd_new g4)⟩
  exact h.run r hm _ σ E2 D fun W3 σ3 le2 E3 => q W3 σ3 (le.trans le2) E3⟩
theorem g_freeze {α S : Type} [Rep α] {sts : List Stmt} {xs : List α} {m : Option (Out S R)} {ρ' : S → List Slot} (i : Nat) (h : GX X Γ W0 K sts (ρ.set i (fz xs)) m ρ') (h1 : ρ[i]? = some (.owL xs) := by rfl) : GX X Γ W0 K sts ρ m ρ' := ⟨fun o hm W σ E D q => by
  obtain ⟨o, g1, a, vs, g2, g3, g4, g5, g6⟩ := E.slot h1
  subst g2
  obtain ⟨le, E2⟩ := E.freeze (d := ⟨xs⟩) h1 rfl g1 g5 ⟨a, vs, rfl, upd_same, g6.mono (HLe.upd_new g4)⟩
  exact h.run _ hm _ σ E2 D (q.mono le)⟩
theorem r_freezeD {α : Type} [Rep α] {sts : List Stmt} {xs : List (Int × α)} {m : Option R} (i : Nat) (h : RX X Γ W0 K sts (ρ.set i (fz (Dct.mk xs))) m) (h1 : ρ[i]? = some (.owD xs) := by rfl) : RX X Γ W0 K sts ρ m := ⟨fun r hm W σ E D q => by
  obtain ⟨o, g1, a, vs, g2, g3, g4, g5, g6⟩ := E.slot h1
  subst g2
  obtain ⟨le, E2⟩ := E.freeze (d := ⟨Dct.mk xs⟩) h1 rfl g1 g5 ⟨a, vs, rfl, .inl upd_same, g6.mono (HLe.upd_new g4)⟩
  exact h.run r hm _ σ E2 D fun v W3 le0 le2 ok i => q v W3 le0 (le.trans le2) ok i⟩

/-! ### statements -/
theorem s_set {α : Type} [Rep α] {e : Expr} {n : Str} {pos pos' : Pos} {m : Option α} (i : Nat) (h : EX X Γ W0 e ρ m) (nd : X.N.Nodup) (hN : X.N[i]? = some n := by rfl) (hx : Loc X.env.scope n := by first | exact Or.inl rfl | exact Or.inr rfl)
    (hs : swapsWithSole [.Name n pos'] e pos.line X.env = pure false := by rfl) (hw : swappedStores [.Name n pos'] e X.env = pure none := by rfl) (hf : X.fn n = true ∨ X.env.scope.names.lookup n = some .local := by first | exact .inl rfl | exact .inr rfl) : SX X Γ W0 (.Assign [.Name n pos'] e pos) ρ m (fun x => ρ.set i (fz x)) := ⟨fun x hm W σ E D q => by
  refine ws_of (ps_asg pe_wp (pg_name (i := i) nd hN hx hf) hs hw rfl) ?_
  exact h.run x hm W σ E _ fun v W2 le ok i1 => q W2 _ le.f ((E.mono le ok).set i i1)⟩
theorem s_setO {α : Type} [Rep α] {e : Expr} {n : Str} {pos pos' : Pos} {m : Option (List α)} (i : Nat) (h : OX X Γ W0 e ρ m) (nd : X.N.Nodup) (hN : X.N[i]? = some n := by rfl) (hx : Loc X.env.scope n := by first | exact Or.inl rfl | exact Or.inr rfl)
    (hs : swapsWithSole [.Name n pos'] e pos.line X.env = pure false := by rfl) (hw : swappedStores [.Name n pos'] e X.env = pure none := by rfl) (hf : X.fn n = true ∨ X.env.scope.names.lookup n = some .local := by first | exact .inl rfl | exact .inr rfl) : SX X Γ W0 (.Assign [.Name n pos'] e pos) ρ m (fun x => ρ.set i (.owL x)) := ⟨fun x hm W σ E D q => by
  refine ws_of (ps_asg pe_wp (pg_name (i := i) nd hN hx hf) hs hw rfl) ?_
  exact h.run x hm W σ E _ fun p vs W2 le ok h1 h2 h3 h4 => q W2 _ le.f ((E.mono le ok).setOwn i (fun j s e1 e2 => E.notOwned h1 j s e1 e2) rfl ⟨p, vs, rfl, E.le.free h1, h2, h3, h4⟩)⟩
theorem s_setD {α : Type} [Rep α] {e : Expr} {n : Str} {pos pos' : Pos} {m : Option (List (Int × α))} (i : Nat) (h : OD X Γ W0 e ρ m) (nd : X.N.Nodup) (hN : X.N[i]? = some n := by rfl) (hx : Loc X.env.scope n := by first | exact Or.inl rfl | exact Or.inr rfl)
    (hs : swapsWithSole [.Name n pos'] e pos.line X.env = pure false := by rfl) (hw : swappedStores [.Name n pos'] e X.env = pure none := by rfl) (hf : X.fn n = true ∨ X.env.scope.names.lookup n = some .local := by first | exact .inl rfl | exact .inr rfl) : SX X Γ W0 (.Assign [.Name n pos'] e pos) ρ m (fun x => ρ.set i (.owD x)) := ⟨fun x hm W σ E D q => by
  refine ws_of (ps_asg pe_wp (pg_name (i := i) nd hN hx hf) hs hw rfl) ?_
  exact h.run x hm W σ E _ fun p vs W2 le ok h1 h2 h3 h4 => q W2 _ le.f ((E.mono le ok).setOwn i (fun j s e1 e2 => E.notOwned h1 j s e1 e2) rfl ⟨p, vs, rfl, E.le.free h1, h2, h3, h4⟩)⟩
theorem s_if {β : Type} {c : Expr} {A B : List Stmt} {pos : Pos} {mc : Option Bool} {mA mB : Option β} {ρ' : β → List Slot} (hc : TX X Γ W0 c ρ mc) (hA : BX X Γ W0 A ρ mA ρ') (hB : BX X Γ W0 B ρ mB ρ') : SX X Γ W0 (.If c A B pos) ρ (iteM mc mA mB) ρ' := ⟨fun r hm W σ E D q => by
  obtain ⟨b, h1, hm⟩ := bindo hm
  refine ws_of (ps_if pt_wp pss_wp pss_wp) ?_
  refine hc.run b h1 W σ E _ fun W2 le ok => ?_
  cases b with
  | true => exact iteT (hA.run r hm W2 σ (E.mono le ok) D fun W3 σ3 le2 E3 => q W3 σ3 (le.f.trans le2) E3)
  | false => exact iteF (hB.run r hm W2 σ (E.mono le ok) D fun W3 σ3 le2 E3 => q W3 σ3 (le.f.trans le2) E3)⟩
/-- an expression alone -/
theorem s_expr {α : Type} [Rep α] {e : Expr} {pos : Pos} {m : Option α} (h : EX X Γ W0 e ρ m) (hs : swapsWith e none pos.line X.env = pure false := by rfl) : SX X Γ W0 (.Expr e pos) ρ m (fun _ => ρ) := ⟨fun x hm W σ E D q => by
  refine ws_of (ps_expr pe_wp hs) ?_
  exact h.run x hm W σ E _ fun v W2 le ok i1 => q W2 _ le.f (E.mono le ok)⟩
/-- x = x + e and the like -/
def augM (f : Int → Int → Int) (x : Int) (m : Option Int) : Option Int := m.bind fun y => some (f x y)
theorem s_aug {op : Operator} {g : Int → Int → Int} {e : Expr} {n : Str} {pos pos' : Pos} {m : Option Int} {x : Int} (i : Nat) (ho : PIp X op (ipI g)) (h : EX X Γ W0 e ρ m) (nd : X.N.Nodup) (h1 : ρ[i]? = some (fz x) := by rfl) (hN : X.N[i]? = some n := by rfl) (hx : Loc X.env.scope n := by first | exact Or.inl rfl | exact Or.inr rfl)
    (hp : X.N.Nodup → X.N[i]? = some n → Loc X.env.scope n → PIp X op (ipI g) → PS X (.AugAssign (.Name n pos') op e pos) (tAug i (wpE X e) (ipI g)) := by intro a b c d; exact ps_aug a b c pe_wp d) : SX X Γ W0 (.AugAssign (.Name n pos') op e pos) ρ (augM g x m) (fun y => ρ.set i (fz y)) := ⟨fun z hm W σ E D q => by
  obtain ⟨y, e1, hm⟩ := bindo hm
  cases hm
  obtain ⟨v, g1, g2⟩ := E.get h1
  have e2 : v = .int x := g2
  subst e2
  refine ws_of (hp nd hN hx ho) ⟨_, g1, ?_⟩
  refine h.run y e1 W σ E _ fun u W2 le ok i1 => ?_
  have e3 : u = .int y := i1
  subst e3
  exact ⟨x, y, rfl, rfl, q W2 _ le.f ((E.mono le ok).set i (show Is Γ W2.F (V.int (g x y)) (g x y) from rfl))⟩⟩
end
end SR
end
section
set_option Elab.async false
set_option linter.all false
set_option maxRecDepth 100000
set_option maxHeartbeats 4000000
namespace SR
open PySem PySem.Spec PyProof.Rows L2

/-! ### what is walked -/
def wpI (X : Cx) (tg iter : Expr) : TI := fun σ H R => ∀ pins s, Inv X pins σ H s → wpAny (model X.prog X.w) X.A (eval iter X.env) (fun v s1 => wpAny (model X.prog X.w) X.A (pyIter v) (PIE X pins σ tg R) X.xe s1) X.xe s
theorem pi_wp {X : Cx} {tg iter : Expr} : PI X tg iter (wpI X tg iter) := ⟨fun pins s σ H R I h => h pins s I⟩
theorem wi_of {X : Cx} {tg iter : Expr} {wi : TI} {σ : St} {H : Hp} {R : It → Hp → Prop} (h : PI X tg iter wi) (q : wi σ H R) : wpI X tg iter σ H R := fun pins s I => h.run pins s σ H R I q
/-- J walks xs, wherever what was frozen stands -/
def Walks (Γ : Cs) (W0 : Wd) {α : Type} [Rep α] (J : It) (F : Hp) (xs : List α) : Prop :=
  ∀ W : Wd, W0.le W → HLe F W.F → HLe W.F W.H → ∀ i : Nat, (xs.length ≤ i → J.stop i W.H) ∧ ∀ x, xs[i]? = some x → J.go i W.H ∧ ∀ v H', J.yld i W.H v H' → ∃ W' : Wd, W'.H = H' ∧ W.le W' ∧ HLe W'.F W'.H ∧ Is Γ W'.F v x
structure IX (X : Cx) (Γ : Cs) (W0 : Wd) (tg iter : Expr) (ρ : List Slot) {α : Type} [Rep α] (m : Option (List α)) : Prop where
  run : ∀ xs, m = some xs → ∀ W σ, EnvOk Γ W0 W ρ σ → ∀ R : It → Hp → Prop, (∀ J W2, W.le W2 → HLe W2.F W2.H → Walks Γ W0 J W2.F xs → R J W2.H) → wpI X tg iter σ W.H R
/-- .. while all that stands stays (what a comprehension asks) -/
def WalksC (Γ : Cs) {α : Type} [Rep α] (J : It) (W0 : Wd) (xs : List α) : Prop :=
  ∀ W : Wd, W0.le W → HLe W.F W.H → ∀ i : Nat, (xs.length ≤ i → J.stop i W.H) ∧ ∀ x, xs[i]? = some x → J.go i W.H ∧ ∀ v H', J.yld i W.H v H' → ∃ W' : Wd, W'.H = H' ∧ W.le W' ∧ HLe W'.F W'.H ∧ Is Γ W'.F v x
structure IXc (X : Cx) (Γ : Cs) (W0 : Wd) (tg iter : Expr) (ρ : List Slot) {α : Type} [Rep α] (m : Option (List α)) : Prop where
  run : ∀ xs, m = some xs → ∀ W σ, EnvOk Γ W0 W ρ σ → ∀ R : It → Hp → Prop, (∀ J W2, W.le W2 → HLe W2.F W2.H → WalksC Γ J W2 xs → R J W2.H) → wpI X tg iter σ W.H R
section
variable {X : Cx} {Γ : Cs} {W0 : Wd} {ρ : List Slot} {tg : Expr}
theorem IX.c {α : Type} [Rep α] {iter : Expr} {m : Option (List α)} (h : IX X Γ W0 tg iter ρ m) : IXc X Γ W0 tg iter ρ m := ⟨fun xs hm W σ E R k => h.run xs hm W σ E R fun J W2 le ok w => k J W2 le ok fun W' le' ok' => w W' ((E.le.trans le).trans le') le'.f ok'⟩
theorem iw_list {α : Type} [Rep α] {e : Expr} {m : Option (List α)} (h : EX X Γ W0 e ρ m) : IX X Γ W0 tg e ρ m := ⟨fun xs hm W σ E R k => by
  refine wi_of (pi_list pe_wp) ?_
  refine h.run xs hm W σ E _ fun v W2 le ok ⟨a, vs, e1, e2, e3⟩ => ?_
  refine ⟨a, e1, ⟨vs, SqL.of (ok.lst e2)⟩, k _ W2 le ok fun W3 _ hF ok3 i => ?_⟩
  have q := ok3.lst (hF.lst e2)
  have hl := Paired.length e3
  refine ⟨fun hi => ⟨vs, SqL.of q, by omega⟩, fun x hx => ?_⟩
  have hi : i < xs.length := (List.getElem?_eq_some_iff.mp hx).1
  have hv : vs[i]? = some (vs[i]'(by omega)) := List.getElem?_eq_getElem (by omega)
  have hr : Is Γ W2.F (vs[i]'(by omega)) x := by
    have : ∀ {l1 : List V} {l2 : List α}, IsAll Γ W2.F l1 l2 → ∀ (i : Nat) v x, l1[i]? = some v → l2[i]? = some x → Is Γ W2.F v x := by
      intro l1 l2 h
      induction h with
      | nil => intro i v x h1; simp at h1
      | cons r t ih =>
        intro i v x h1 h2
        cases i with
        | zero =>
          have e1 := Option.some.inj (by simpa using h1)
          have e2 := Option.some.inj (by simpa using h2)
          subst e1 e2
          exact r
        | succ i => exact ih i v x (by simpa using h1) (by simpa using h2)
    exact this e3 i _ x hv hx
  refine ⟨⟨vs, _, SqL.of q, hv⟩, fun v H' ⟨g1, g2⟩ => ⟨W3, g1.symm, .refl, ok3, ?_⟩⟩
  have e4 := g2 vs (SqL.of q)
  rw [hv] at e4
  rw [← Option.some.inj e4]
  exact Rep.mono hF hr⟩
theorem IsAll.at {Γ : Cs} {F : Hp} {α : Type} [Rep α] {l1 : List V} {l2 : List α} (h : IsAll Γ F l1 l2) : ∀ {i : Nat} {v : V} {x : α}, l1[i]? = some v → l2[i]? = some x → Is Γ F v x := by
  induction h with
  | nil => intro i v x h1; simp at h1
  | cons r t ih =>
    intro i v x h1 h2
    cases i with
    | zero =>
      have e1 := Option.some.inj (by simpa using h1)
      have e2 := Option.some.inj (by simpa using h2)
      subst e1 e2
      exact r
    | succ i => exact ih (by simpa using h1) (by simpa using h2)
theorem IsAll.len {Γ : Cs} {F : Hp} {α : Type} [Rep α] {l1 : List V} {l2 : List α} (h : IsAll Γ F l1 l2) : l1.length = l2.length := Paired.length h
/-! ranges -/
def rangeL (lo : Int) : Nat → List Int
  | 0 => []
  | n + 1 => lo :: rangeL (lo + 1) n
theorem rangeL_len (n : Nat) : ∀ lo, (rangeL lo n).length = n := by
  induction n with
  | zero => intro lo; rfl
  | succ n ih => intro lo; rw [rangeL, List.length_cons, ih]
theorem rangeL_get (n : Nat) : ∀ lo (i : Nat), i < n → (rangeL lo n)[i]? = some (lo + i) := by
  induction n with
  | zero => intro lo i h; omega
  | succ n ih =>
    intro lo i h
    cases i with
    | zero => simp [rangeL]
    | succ i =>
      rw [rangeL, List.getElem?_cons_succ, ih (lo + 1) i (by omega)]
      congr 1
      omega
def cap : Int := 1000000
/-- range(lo, hi) -/
def rangeM (lo hi : Int) : Option (List Int) := if -cap < lo ∧ lo < cap ∧ -cap < hi ∧ hi < cap then some (rangeL lo (hi - lo).toNat) else none
theorem walks_range {J : It} {F : Hp} {lo : Int} {n : Nat} (h : J = Itr lo n) : Walks Γ W0 J F (rangeL lo n) := by
  subst h
  intro W _ hF ok i
  refine ⟨fun hi => by rw [rangeL_len] at hi; exact hi, fun x hx => ?_⟩
  have hi : i < n := by
    have := (List.getElem?_eq_some_iff.mp hx).1
    rw [rangeL_len] at this
    exact this
  rw [rangeL_get n lo i hi] at hx
  have e := Option.some.inj hx
  exact ⟨hi, fun v H' ⟨g1, g2⟩ => ⟨W, g1.symm, .refl, ok, by rw [g2, e]; exact rfl⟩⟩
/-- a list that is only read, walked -/
theorem iw_rd {α : Type} [Rep α] {xs : List α} (i : Nat) {n : Str} {pos : Pos} (h : ρ[i]? = some (.rd xs) := by rfl) (hN : X.N[i]? = some n := by rfl)
    (hv : Vis X.env.scope n := by first | exact Or.inl rfl | exact Or.inr (Or.inl rfl) | exact Or.inr (Or.inr rfl)) (hd : (n == ("__debug__" : Str)) = false := by decide)
    (hcd : (n == ("__classdict__" : Str)) = false := by decide) : IX X Γ W0 tg (.Name n pos) ρ (some xs) := ⟨fun ys hm W σ E R k => by
  cases hm
  obtain ⟨o, h1, a, vs, h2, h3, h4⟩ := E.slot h
  subst h2
  refine wi_of (pi_list (pv i hN hv hd hcd)) ⟨_, h1, a, rfl, ⟨vs, SqL.of (E.le.h _ _ h3)⟩, k _ W .refl E.ok fun W3 le0 hF ok3 i => ?_⟩
  have q := le0.h _ _ h3
  have hl := Paired.length h4
  refine ⟨fun hi => ⟨vs, SqL.of q, by omega⟩, fun x hx => ?_⟩
  have hi : i < xs.length := (List.getElem?_eq_some_iff.mp hx).1
  have hv : vs[i]? = some (vs[i]'(by omega)) := List.getElem?_eq_getElem (by omega)
  refine ⟨⟨vs, _, SqL.of q, hv⟩, fun v H' ⟨g1, g2⟩ => ⟨W3, g1.symm, .refl, ok3, ?_⟩⟩
  have e4 := g2 vs (SqL.of q)
  rw [hv] at e4
  rw [← Option.some.inj e4]
  exact Rep.mono hF (h4.at hv hx)⟩
theorem x_rd {α : Type} [Rep α] {xs : List α} (i : Nat) {n : Str} {pos : Pos} (h : ρ[i]? = some (.rd xs) := by rfl) (hN : X.N[i]? = some n := by rfl)
    (hv : Vis X.env.scope n := by first | exact Or.inl rfl | exact Or.inr (Or.inl rfl) | exact Or.inr (Or.inr rfl)) (hd : (n == ("__debug__" : Str)) = false := by decide)
    (hcd : (n == ("__classdict__" : Str)) = false := by decide) : LX X Γ W0 (.Name n pos) ρ (some xs) := ⟨fun y hm W σ E Q k => by
  cases hm
  obtain ⟨o, h1, a, vs, h2, h3, h4⟩ := E.slot h
  subst h2
  exact wp_of (pv i hN hv hd hcd) ⟨_, h1, k a vs W .refl E.ok (E.le.h _ _ h3) h4⟩⟩
theorem iw_range1 {a : Expr} {ma : Option Int} {p pos : Pos} (hm : X.mg "range" = none) (ha : EX X Γ W0 a ρ ma) (hg : Gl X "range" := by rfl) (hs : starEach [a] X.env = [(false, eval a X.env)] := by rfl) : IX X Γ W0 tg (.Call (.Name "range" p) [a] [] pos) ρ (M1 (rangeM 0) ma) := ⟨fun xs h W σ E R k => by
  obtain ⟨x, h1, h⟩ := bindo h
  unfold rangeM at h
  split at h
  · rename_i hb
    cases h
    obtain ⟨b1, b2, b3, b4⟩ := hb
    unfold cap at b3 b4
    refine wi_of (pi_range1 hg hm (pa_cons pe_wp pa_nil hs) hs) ?_
    refine ha.run x h1 W σ E _ fun v W2 le ok i1 => ?_
    have e : v = .int x := i1
    subst e
    refine ⟨x, rfl, by omega, by omega, k _ W2 le ok ?_⟩
    have := walks_range (Γ := Γ) (W0 := W0) (F := W2.F) (J := Itr 0 x.toNat) (lo := 0) (n := x.toNat) rfl
    rw [show (x - 0).toNat = x.toNat by omega]
    exact this
  · cases h⟩
theorem iw_range2 {a b : Expr} {ma mb : Option Int} {p pos : Pos} (hm : X.mg "range" = none) (ha : EX X Γ W0 a ρ ma) (hb : EX X Γ W0 b ρ mb) (hg : Gl X "range" := by rfl) (hs : starEach [a, b] X.env = [(false, eval a X.env), (false, eval b X.env)] := by rfl) (hs2 : starEach [b] X.env = [(false, eval b X.env)] := by rfl) :
    IX X Γ W0 tg (.Call (.Name "range" p) [a, b] [] pos) ρ (M2 rangeM ma mb) := ⟨fun xs h W σ E R k => by
  obtain ⟨x, h1, h⟩ := bindo h
  obtain ⟨y, h2, h⟩ := bindo h
  unfold rangeM at h
  split at h
  · rename_i hb'
    cases h
    obtain ⟨b1, b2, b3, b4⟩ := hb'
    unfold cap at b1 b2 b3 b4
    refine wi_of (pi_range2 hg hm (pa_cons pe_wp (pa_cons pe_wp pa_nil hs2) (by rw [hs, hs2])) hs hs2) ?_
    refine ha.run x h1 W σ E _ fun v W2 le ok i1 => ?_
    have e : v = .int x := i1
    subst e
    refine hb.run y h2 W2 σ (E.mono le ok) _ fun u W3 le2 ok2 i2 => ?_
    have e : u = .int y := i2
    subst e
    exact ⟨x, y, rfl, ⟨by omega, by omega, by omega, by omega⟩, k _ W3 (le.trans le2) ok2 (walks_range rfl)⟩
  · cases h⟩
/-- range(hi, lo, -1) -/
def downL (hi : Int) : Nat → List Int
  | 0 => []
  | n + 1 => hi :: downL (hi - 1) n
theorem downL_len (n : Nat) : ∀ lo, (downL lo n).length = n := by
  induction n with
  | zero => intro lo; rfl
  | succ n ih => intro lo; rw [downL, List.length_cons, ih]
theorem downL_get (n : Nat) : ∀ hi (i : Nat), i < n → (downL hi n)[i]? = some (hi - i) := by
  induction n with
  | zero => intro lo i h; omega
  | succ n ih =>
    intro hi i h
    cases i with
    | zero => simp [downL]
    | succ i =>
      rw [downL, List.getElem?_cons_succ, ih (hi - 1) i (by omega)]
      congr 1
      omega
def downM (hi lo : Int) : Option (List Int) := if -cap < lo ∧ lo < cap ∧ -cap < hi ∧ hi < cap then some (downL hi (hi - lo).toNat) else none
theorem iw_down {a b : Expr} {ma mb : Option Int} {p pos p1 p2 : Pos} {j : Nat} (hm : X.mg "range" = none) (ha : EX X Γ W0 a ρ ma) (hb : EX X Γ W0 b ρ mb) (hg : Gl X "range" := by rfl)
    (hp : Gl X "range" → X.mg "range" = none → PI X tg (.Call (.Name "range" p) [a, b, .UnaryOp .USub (.Constant (.int 1) j p1) p2] [] pos) (iRng3 (tCons (wpE X a) (tCons (wpE X b) (tCons (tUn (rU fun i => .int (-i)) (tC (.int 1))) tNil)))) := by intro hg hM; exact pi_range3 hg hM (pa_cons pe_wp (pa_cons pe_wp (pa_cons (pe_un un_neg pe_int) pa_nil)))) :
    IX X Γ W0 tg (.Call (.Name "range" p) [a, b, .UnaryOp .USub (.Constant (.int 1) j p1) p2] [] pos) ρ (M2 downM ma mb) := ⟨fun xs h W σ E R k => by
  obtain ⟨x, h1, h⟩ := bindo h
  obtain ⟨y, h2, h⟩ := bindo h
  unfold downM at h
  split at h
  · rename_i hb'
    cases h
    obtain ⟨b1, b2, b3, b4⟩ := hb'
    unfold cap at b1 b2 b3 b4
    refine wi_of (hp hg hm) ?_
    refine ha.run x h1 W σ E _ fun v W2 le ok i1 => ?_
    have e : v = .int x := i1
    subst e
    refine hb.run y h2 W2 σ (E.mono le ok) _ fun u W3 le2 ok2 i2 => ?_
    have e : u = .int y := i2
    subst e
    refine ⟨1, rfl, ?_⟩
    refine ⟨x, y, -1, (x - y).toNat, rfl, RgC.neg (by omega) (by omega) (by omega) (by omega), k _ W3 (le.trans le2) ok2 fun W4 _ hF ok4 i => ⟨fun hi => by rw [downL_len] at hi; exact hi, fun z hx => ?_⟩⟩
    have hi : i < (x - y).toNat := by
      have := (List.getElem?_eq_some_iff.mp hx).1
      rw [downL_len] at this
      exact this
    rw [downL_get _ x i hi] at hx
    have e := Option.some.inj hx
    refine ⟨hi, fun v H' ⟨g1, g2⟩ => ⟨W4, g1.symm, .refl, ok4, ?_⟩⟩
    rw [g2, ← e]
    show V.int _ = V.int _
    congr 1
    omega
  · cases h⟩
/-! enumerate, zip -/
def enumL {α : Type} (i : Int) : List α → List (Int × α)
  | [] => []
  | x :: xs => (i, x) :: enumL (i + 1) xs
theorem enumL_len {α : Type} : ∀ (xs : List α) (i : Int), (enumL i xs).length = xs.length
  | [], _ => rfl
  | x :: xs, i => by rw [enumL, List.length_cons, List.length_cons, enumL_len xs]
theorem enumL_get {α : Type} : ∀ (xs : List α) (k : Int) (i : Nat), (enumL k xs)[i]? = xs[i]?.map fun x => (k + i, x)
  | [], _, _ => by simp [enumL]
  | x :: xs, k, 0 => by simp [enumL]
  | x :: xs, k, i + 1 => by
    rw [enumL, List.getElem?_cons_succ, List.getElem?_cons_succ, enumL_get xs (k + 1) i]
    have e : k + 1 + (i : Int) = k + ((i + 1 : Nat) : Int) := by omega
    rw [e]
def enumM {α : Type} (xs : List α) : Option (List (Int × α)) := some (enumL 0 xs)
/-- a new frozen pair -/
theorem pair_new {α β : Type} [Rep α] [Rep β] {W : Wd} {T : Addr} {v u : V} {x : α} {y : β} (ok : HLe W.F W.H) (hT : W.H T = none) (h1 : Is Γ W.F v x) (h2 : Is Γ W.F u y) :
    ∃ W' : Wd, W'.H = upd W.H T (.tup [v, u]) ∧ W.le W' ∧ HLe W'.F W'.H ∧ Is Γ W'.F (.ref T) (x, y) :=
  ⟨⟨upd W.F T (.tup [v, u]), upd W.H T (.tup [v, u])⟩, rfl, Wd.le.newF ok hT, ok_newF ok hT, T, v, u, rfl, upd_same, Rep.mono (HLe.upd_new (ok.none_of hT)) h1, Rep.mono (HLe.upd_new (ok.none_of hT)) h2⟩
theorem iw_enum {α : Type} [Rep α] {e : Expr} {m : Option (List α)} {p pos tpos : Pos} {elts : List Expr} {kk : Nat} (hm : X.mg "enumerate" = none) (h : EX X Γ W0 e ρ m) (hg : Gl X "enumerate" := by rfl) (hs : starEach [e] X.env = [(false, eval e X.env)] := by rfl) :
    IX X Γ W0 (.Tuple elts kk tpos) (.Call (.Name "enumerate" p) [e] [] pos) ρ (M1 enumM m) := ⟨fun xs h0 W σ E R k => by
  obtain ⟨ys, h1, h0⟩ := bindo h0
  cases h0
  refine wi_of (pi_enum hg hm (pa_cons pe_wp pa_nil hs) hs) ?_
  refine h.run ys h1 W σ E _ fun v W2 le ok ⟨a, vs, e1, e2, e3⟩ => ?_
  subst e1
  refine ⟨a, vs, rfl, SqL.of (ok.lst e2), k _ W2 le ok fun W3 _ hF ok3 i => ?_⟩
  have q := ok3.lst (hF.lst e2)
  have hl := e3.len
  refine ⟨fun hi => ⟨vs, SqL.of q, by rw [enumL_len] at hi; omega⟩, fun x hx => ?_⟩
  rw [enumL_get] at hx
  cases hy : ys[i]? with
  | none =>
    rw [hy] at hx
    cases hx
  | some y =>
    rw [hy] at hx
    have ex : ((0 : Int) + i, y) = x := Option.some.inj hx
    subst ex
    have hi : i < ys.length := (List.getElem?_eq_some_iff.mp hy).1
    have hv : vs[i]? = some (vs[i]'(by omega)) := List.getElem?_eq_getElem (by omega)
    refine ⟨⟨vs, _, SqL.of q, hv⟩, fun v H' ⟨T, z, g1, g2, g3, g4⟩ => ?_⟩
    subst g1 g3
    have e5 := g4 vs (SqL.of q)
    rw [hv] at e5
    rw [← Option.some.inj e5]
    exact pair_new (x := (0 : Int) + (i : Nat)) ok3 g2 (show V.int ((i : Nat) : Int) = V.int ((0 : Int) + (i : Nat)) by rw [Int.zero_add]) (Rep.mono hF (e3.at hv hy))⟩
def zipM {α β : Type} (xs : List α) (ys : List β) : Option (List (α × β)) := some (xs.zip ys)
theorem iw_zip {α β : Type} [Rep α] [Rep β] {e e' : Expr} {m : Option (List α)} {m' : Option (List β)} {p pos tpos : Pos} {elts : List Expr} {kk : Nat} (hm : X.mg "zip" = none) (h : EX X Γ W0 e ρ m) (h' : EX X Γ W0 e' ρ m')
    (hg : Gl X "zip" := by rfl) (hp : Gl X "zip" → X.mg "zip" = none → PI X (.Tuple elts kk tpos) (.Call (.Name "zip" p) [e, e'] [] pos) (iZip X.K (tCons (wpE X e) (tCons (wpE X e') tNil))) := by intro hg hM; exact pi_zip hg hM (pa_cons pe_wp (pa_cons pe_wp pa_nil))) :
    IX X Γ W0 (.Tuple elts kk tpos) (.Call (.Name "zip" p) [e, e'] [] pos) ρ (M2 zipM m m') := ⟨fun xs h0 W σ E R k => by
  obtain ⟨ys, h1, h0⟩ := bindo h0
  obtain ⟨zs, h2, h0⟩ := bindo h0
  cases h0
  refine wi_of (hp hg hm) ?_
  refine h.run ys h1 W σ E _ fun v W2 le ok ⟨a, vs, e1, e2, e3⟩ => ?_
  subst e1
  refine h'.run zs h2 W2 σ (E.mono le ok) _ fun u W3 le2 ok2 ⟨b, us, e4, e5, e6⟩ => ?_
  subst e4
  refine ⟨a, b, vs, us, rfl, SqL.of (ok2.lst (le2.f.lst e2)), SqL.of (ok2.lst e5), k _ W3 (le.trans le2) ok2 fun W4 _ hF ok4 i => ?_⟩
  have qa := ok4.lst (hF.lst (le2.f.lst e2))
  have qb := ok4.lst (hF.lst e5)
  have hla := e3.len
  have hlb := e6.len
  refine ⟨fun hi => ⟨vs, us, SqL.of qa, SqL.of qb, by rw [List.length_zip] at hi; omega⟩, fun x hx => ?_⟩
  rw [List.getElem?_zip_eq_some] at hx
  obtain ⟨hy, hz⟩ := hx
  have hi : i < ys.length := (List.getElem?_eq_some_iff.mp hy).1
  have hj : i < zs.length := (List.getElem?_eq_some_iff.mp hz).1
  have hv : vs[i]? = some (vs[i]'(by omega)) := List.getElem?_eq_getElem (by omega)
  have hu : us[i]? = some (us[i]'(by omega)) := List.getElem?_eq_getElem (by omega)
  refine ⟨⟨vs, us, _, _, SqL.of qa, SqL.of qb, hv, hu⟩, fun v H' ⟨T, x1, y1, g1, g2, g3, g4, g5⟩ => ?_⟩
  subst g1 g3
  have e7 := g4 vs (SqL.of qa)
  have e8 := g5 us (SqL.of qb)
  rw [hv] at e7
  rw [hu] at e8
  rw [← Option.some.inj e7, ← Option.some.inj e8]
  obtain ⟨x2, y2⟩ := x
  exact pair_new ok4 g2 (Rep.mono (le2.f.trans hF) (e3.at hv hy)) (Rep.mono hF (e6.at hu hz))⟩
end

/-! ### targets -/
/-- a target takes an item: put says how the slots are then; vs: the slots that it sets -/
def TgS (Γ : Cs) (g : TG) {α : Type} [Rep α] (put : List Slot → α → List Slot) (vs : List Nat) : Prop :=
  ∀ (W0 W : Wd) (v : V) (x : α) (ρ : List Slot) (σ : St) (Q : St → Hp → Prop), EnvOk Γ W0 W ρ σ → Is Γ W.F v x → (∀ σ2, EnvOk Γ W0 W (put ρ x) σ2 → wipe σ2 vs = wipe σ vs → Q σ2 W.H) → g v σ W.H Q
def put1 (i : Nat) {α : Type} [Rep α] (ρ : List Slot) (x : α) : List Slot := ρ.set i (fz x)
def put2 (i j : Nat) {α β : Type} [Rep α] [Rep β] (ρ : List Slot) (x : α × β) : List Slot := (ρ.set i (fz x.1)).set j (fz x.2)
def put3 (i j k : Nat) {α β γ : Type} [Rep α] [Rep β] [Rep γ] (ρ : List Slot) (x : T3 α β γ) : List Slot := ((ρ.set i (fz x.a)).set j (fz x.b)).set k (fz x.c)
section
variable {Γ : Cs} {K : PySem.W.Frag}
theorem tg1 (i : Nat) {α : Type} [Rep α] : TgS Γ (gName i) (put1 i (α := α)) [i] := fun W0 W v x ρ σ Q E h k => by
  refine k _ (E.set i h) ?_
  show ((σ.set i (some v)).set i none) = σ.set i none
  rw [List.set_set]
theorem tg2 (i j : Nat) {α β : Type} [Rep α] [Rep β] : TgS Γ (gTup K 2 (gCons (gName i) (gCons (gName j) gNil))) (put2 i j (α := α) (β := β)) [j, i] := fun W0 W v x ρ σ Q E h k => by
  obtain ⟨a, v1, v2, e1, e2, h1, h2⟩ := h
  refine ⟨a, [v1, v2], e1, SqT.of (E.ok.tup e2), rfl, v1, [v2], rfl, v2, [], rfl, rfl, ?_⟩
  refine k _ ((E.set i h1).set j h2) ?_
  show (((σ.set i (some v1)).set j (some v2)).set i none).set j none = (σ.set i none).set j none
  by_cases z : i = j
  · subst z
    simp
  · rw [List.set_comm _ _ (Ne.symm z), List.set_set, List.set_set]
theorem wipe3 {σ : St} {i j l : Nat} {a b c : Option V} : ((((((σ.set i a).set j b).set l c).set i none).set j none).set l none) = ((σ.set i none).set j none).set l none := by
  apply List.ext_getElem?
  intro m
  simp only [List.getElem?_set, List.length_set]
  by_cases h1 : l = m <;> by_cases h2 : j = m <;> by_cases h3 : i = m <;> simp [h1, h2, h3]
theorem tg3 (i j l : Nat) {α β γ : Type} [Rep α] [Rep β] [Rep γ] : TgS Γ (gTup K 3 (gCons (gName i) (gCons (gName j) (gCons (gName l) gNil)))) (put3 i j l (α := α) (β := β) (γ := γ)) [l, j, i] := fun W0 W v x ρ σ Q E h k => by
  obtain ⟨a, v1, v2, v3, e1, e2, h1, h2, h3⟩ := h
  refine ⟨a, [v1, v2, v3], e1, SqT.of (E.ok.tup e2), rfl, v1, [v2, v3], rfl, v2, [v3], rfl, v3, [], rfl, rfl, ?_⟩
  exact k _ (((E.set i h1).set j h2).set l h3) wipe3
end

/-! ### loops -/
def forM {S α : Type} (f : S → α → Option S) : S → List α → Option S
  | s, [] => some s
  | s, x :: xs => (f s x).bind fun s' => forM f s' xs
def whileM {S : Type} (c : S → Option Bool) (f : S → Option S) : Nat → S → Option S
  | 0, _ => none
  | n + 1, s => (c s).bind fun b => if b = true then (f s).bind fun s' => whileM c f n s' else some s
/-- a loop whose body may return, break -/
def loopM {S R α : Type} (f : S → α → Option (Out S R)) : S → List α → Option (Out S R)
  | s, [] => some (.nx s)
  | s, x :: xs => (f s x).bind fun o => match o with
    | .nx s' => loopM f s' xs
    | .rt r => some (.rt r)
    | .bk s' => some (.bk s')
section
variable {X : Cx} {Γ : Cs} {W0 : Wd} {ρ : List Slot}
theorem drop_at {α : Type} {xs : List α} {i : Nat} {x : α} (h : xs[i]? = some x) : xs.drop i = x :: xs.drop (i + 1) := by
  have hi : i < xs.length := (List.getElem?_eq_some_iff.mp h).1
  rw [List.drop_eq_getElem_cons hi]
  rw [List.getElem?_eq_getElem hi] at h
  rw [Option.some.inj h]
theorem s_for {α S : Type} [Rep α] {tg iter : Expr} {body : List Stmt} {pos : Pos} {g : TG} {put : List Slot → α → List Slot} {vs : List Nat} {ml : Option (List α)} {f : S → α → Option S} {s0 : S} {ρL : S → List Slot}
    (hi : IX X Γ W0 tg iter ρ ml) (hg : PG X tg g) (ts : TgS Γ g put vs) (hb : ∀ s x, BX X Γ W0 body (put (ρL s) x) (f s x) ρL) (hp : PassesOwn (model X.prog X.w) X.A X.env X.xe) (hc : X.calm = true := by rfl)
    (h0 : Weak ρ (ρL s0) := by repeat (first | exact Weak.nil | refine Weak.keep ?_ | refine Weak.drop ?_)) (hs : ∀ x, foldedSetIterable iter X.env x = pure x := by intro _; rfl) : SX X Γ W0 (.For tg iter body [] pos) ρ (ml.bind fun xs => forM f s0 xs) ρL := ⟨fun r hm W σ E D q => by
  obtain ⟨xs, e1, hm⟩ := bindo hm
  refine ws_of (ps_for hp hc pi_wp hg pss_wp hs) ?_
  refine hi.run xs e1 W σ E _ fun J W2 le ok hw => ?_
  refine ⟨fun i m σ' H' => m = xs.length - i ∧ i ≤ xs.length ∧ ∃ W3 s, W3.H = H' ∧ HLe W2.F W3.F ∧ EnvOk Γ W0 W3 (ρL s) σ' ∧ forM f s (xs.drop i) = some r, ⟨xs.length, by omega, Nat.zero_le _, W2, s0, rfl, .refl, (E.mono le ok).weak h0, hm⟩, ?_⟩
  rintro i m σ' H' ⟨rfl, hi', W3, s, rfl, hF, E3, h3⟩
  obtain ⟨w1, w2⟩ := hw W3 E3.le hF E3.ok i
  by_cases hlt : i < xs.length
  · have hx : xs[i]? = some xs[i] := List.getElem?_eq_getElem hlt
    obtain ⟨go, w3⟩ := w2 _ hx
    rw [drop_at hx] at h3
    obtain ⟨s', h4, h3⟩ := bindo (show (f s xs[i]).bind (fun s' => forM f s' (xs.drop (i + 1))) = some r from h3)
    refine .inr ⟨go, fun σ4 H4 => i + 1 ≤ xs.length ∧ ∃ W4 s, W4.H = H4 ∧ HLe W2.F W4.F ∧ EnvOk Γ W0 W4 (ρL s) σ4 ∧ forM f s (xs.drop (i + 1)) = some r, fun σ4 H4 ⟨l4, k4⟩ => ⟨xs.length - (i + 1), by omega, rfl, l4, k4⟩, fun v H4 y => ?_⟩
    obtain ⟨W4, rfl, le4, ok4, is4⟩ := w3 v H4 y
    refine ts W0 W4 v _ _ σ' _ (E3.mono le4 ok4) is4 fun σ5 E5 _ => ?_
    exact (hb s xs[i]).run s' h4 W4 σ5 E5 _ fun W6 σ6 le6 E6 => ⟨hlt, W6, s', rfl, (hF.trans le4.f).trans le6, E6, h3⟩
  · have e : i = xs.length := by omega
    subst e
    rw [List.drop_length] at h3
    cases h3
    exact .inl ⟨w1 (Nat.le_refl _), q W3 σ' (le.f.trans hF) E3⟩⟩
theorem s_while {S : Type} {c : Expr} {body : List Stmt} {pos : Pos} {n : Nat} {mc : S → Option Bool} {f : S → Option S} {s0 : S} {ρL : S → List Slot}
    (hc : ∀ s, TX X Γ W0 c (ρL s) (mc s)) (hb : ∀ s, BX X Γ W0 body (ρL s) (f s) ρL) (hp : PassesOwn (model X.prog X.w) X.A X.env X.xe)
    (h0 : Weak ρ (ρL s0) := by repeat (first | exact Weak.nil | refine Weak.keep ?_ | refine Weak.drop ?_)) : SX X Γ W0 (.While c body [] pos) ρ (whileM mc f n s0) ρL := ⟨fun r hm W σ E D q => by
  refine ws_of (ps_while hp pt_wp pss_wp) ?_
  refine ⟨fun m σ' H' => ∃ W3 s, W3.H = H' ∧ HLe W.F W3.F ∧ EnvOk Γ W0 W3 (ρL s) σ' ∧ whileM mc f m s = some r, ⟨n, W, s0, rfl, .refl, E.weak h0, hm⟩, ?_⟩
  rintro m σ' H' ⟨W3, s, rfl, hF, E3, h3⟩
  cases m with
  | zero => cases h3
  | succ m =>
    obtain ⟨b, h4, h3⟩ := bindo (show (mc s).bind (fun b => if b = true then (f s).bind fun s' => whileM mc f m s' else some s) = some r from h3)
    refine (hc s).run b h4 W3 σ' E3 _ fun W4 le4 ok4 => ?_
    cases b with
    | true =>
      obtain ⟨s', h5, h3⟩ := bindo (show (f s).bind (fun s' => whileM mc f m s') = some r from h3)
      refine iteT ⟨fun σ5 H5 => ∃ W5 s, W5.H = H5 ∧ HLe W.F W5.F ∧ EnvOk Γ W0 W5 (ρL s) σ5 ∧ whileM mc f m s = some r, fun σ5 H5 k5 => ⟨m, Nat.lt_succ_self m, k5⟩, ?_⟩
      exact (hb s).run s' h5 W4 σ' (E3.mono le4 ok4) _ fun W6 σ6 le6 E6 => ⟨W6, s', rfl, (hF.trans le4.f).trans le6, E6, h3⟩
    | false =>
      have e : s = r := Option.some.inj h3
      subst e
      exact iteF (q W4 σ' (hF.trans le4.f) (E3.mono le4 ok4))⟩
/-- a loop that may return, and what follows it -/
def outM {S R : Type} (k : S → Option R) : Out S R → Option R
  | .nx s => k s
  | .rt r => some r
  | .bk s => k s
theorem r_forR {α S R : Type} [Rep α] {K : RK R} {tg iter : Expr} {body rest : List Stmt} {pos : Pos} {g : TG} {put : List Slot → α → List Slot} {vs : List Nat} {ml : Option (List α)} {f : S → α → Option (Out S R)} {s0 : S} {ρL : S → List Slot} {k : S → Option R}
    (hi : IX X Γ W0 tg iter ρ ml) (hg : PG X tg g) (ts : TgS Γ g put vs) (hb : ∀ s x, GX X Γ W0 K body (put (ρL s) x) (f s x) ρL) (hr : ∀ s, RX X Γ W0 K rest (ρL s) (k s)) (hp : PassesOwn (model X.prog X.w) X.A X.env X.xe) (hc : X.calm = true := by rfl)
    (h0 : Weak ρ (ρL s0) := by repeat (first | exact Weak.nil | refine Weak.keep ?_ | refine Weak.drop ?_)) (hs : ∀ x, foldedSetIterable iter X.env x = pure x := by intro _; rfl) :
    RX X Γ W0 K (.For tg iter body [] pos :: rest) ρ (ml.bind fun xs => (loopM f s0 xs).bind fun o => outM k o) := ⟨fun r hm W σ E D q => by
  obtain ⟨xs, e1, hm⟩ := bindo hm
  obtain ⟨o, e2, hm⟩ := bindo hm
  refine wss_of (pss_cons (ps_for hp hc pi_wp hg pss_wp hs) pss_wp) ?_
  refine hi.run xs e1 W σ E _ fun J W2 le ok hw => ?_
  refine ⟨fun i m σ' H' => m = xs.length - i ∧ i ≤ xs.length ∧ ∃ W3 s, W3.H = H' ∧ HLe W2.F W3.F ∧ EnvOk Γ W0 W3 (ρL s) σ' ∧ loopM f s (xs.drop i) = some o, ⟨xs.length, by omega, Nat.zero_le _, W2, s0, rfl, .refl, (E.mono le ok).weak h0, e2⟩, ?_⟩
  rintro i m σ' H' ⟨rfl, hi', W3, s, rfl, hF, E3, h3⟩
  obtain ⟨w1, w2⟩ := hw W3 E3.le hF E3.ok i
  by_cases hlt : i < xs.length
  · have hx : xs[i]? = some xs[i] := List.getElem?_eq_getElem hlt
    obtain ⟨go, w3⟩ := w2 _ hx
    rw [drop_at hx] at h3
    obtain ⟨o', h4, h3⟩ := bindo (show (f s xs[i]).bind (fun o => match o with | .nx s' => loopM f s' (xs.drop (i + 1)) | .rt r => some (.rt r) | .bk s' => some (.bk s')) = some o from h3)
    refine .inr ⟨go, fun σ4 H4 => i + 1 ≤ xs.length ∧ ∃ W4 s, W4.H = H4 ∧ HLe W2.F W4.F ∧ EnvOk Γ W0 W4 (ρL s) σ4 ∧ loopM f s (xs.drop (i + 1)) = some o, fun σ4 H4 ⟨l4, k4⟩ => ⟨xs.length - (i + 1), by omega, rfl, l4, k4⟩, fun v H4 y => ?_⟩
    obtain ⟨W4, rfl, le4, ok4, is4⟩ := w3 v H4 y
    refine ts W0 W4 v _ _ σ' _ (E3.mono le4 ok4) is4 fun σ5 E5 _ => ?_
    refine (hb s xs[i]).run o' h4 W4 σ5 E5 _ ?_
    cases o' with
    | nx s' => exact fun W6 σ6 le6 E6 => ⟨⟨hlt, W6, s', rfl, (hF.trans le4.f).trans le6, E6, h3⟩, ⟨hlt, W6, s', rfl, (hF.trans le4.f).trans le6, E6, h3⟩⟩
    | rt r' =>
      have e : Out.rt r' = o := Option.some.inj h3
      subst e
      have e' : r' = r := Option.some.inj hm
      subst e'
      exact fun v W6 le0 le6 ok6 i6 => q v W6 le0 (((le.f.trans hF).trans le4.f).trans le6) ok6 i6
    | bk s' =>
      have e : Out.bk s' = o := Option.some.inj h3
      subst e
      exact fun W6 σ6 le6 E6 => (hr s').run r hm W6 σ6 E6 D fun v W7 le0 le7 ok7 i7 => q v W7 le0 ((((le.f.trans hF).trans le4.f).trans le6).trans le7) ok7 i7
  · have e : i = xs.length := by omega
    subst e
    rw [List.drop_length] at h3
    have e : Out.nx s = o := Option.some.inj h3
    subst e
    exact .inl ⟨w1 (Nat.le_refl _), (hr s).run r hm W3 σ' E3 D fun v W7 le0 le7 ok7 i7 => q v W7 le0 ((le.f.trans hF).trans le7) ok7 i7⟩⟩
end

/-! ### comprehensions -/
def lcGo {α β : Type} (t : α → Option Bool) (f : α → Option β) : List α → Option (List β)
  | [] => some []
  | x :: xs => (t x).bind fun b => if b = true then (f x).bind fun y => (lcGo t f xs).bind fun ys => some (y :: ys) else lcGo t f xs
def lcM {α β : Type} (t : α → Option Bool) (f : α → Option β) (ml : Option (List α)) : Option (List β) := ml.bind fun xs => if (xs.length : Int) < cap then lcGo t f xs else none
/-- {k: v for ..}: the later value stays, at the first place -/
def putD {α : Type} (kvs : List (Int × α)) (k : Int) (v : α) : List (Int × α) := match kvs with
  | [] => [(k, v)]
  | (j, w) :: r => if j = k then (j, v) :: r.map (fun q => if q.1 = k then (q.1, v) else q) else (j, w) :: putD r k v
def getD? {α : Type} : List (Int × α) → Int → Option α
  | [], _ => none
  | (j, w) :: r, k => if j = k then some w else getD? r k
section
variable {X : Cx} {Γ : Cs} {W0 : Wd} {ρ : List Slot}
/-- the tests of a comprehension -/
structure TsX (X : Cx) (Γ : Cs) (W0 : Wd) (ifs : List Expr) (ρ : List Slot) (m : Option Bool) : Prop where
  run : ∀ b, m = some b → ∀ W σ, EnvOk Γ W0 W ρ σ → ∀ Q : Bool → Hp → Prop, (∀ W2, W.le W2 → HLe W2.F W2.H → Q b W2.H) → ∀ pins s, Inv X pins σ W.H s →
    wpAny (model X.prog X.w) X.A (forIn ifs true fun c r => if r = true then do let ok ← isTrue c X.env (eval c X.env); pure (ForInStep.yield ok) else pure (ForInStep.yield r)) (TP X pins σ Q) X.xe s
theorem ts_nil : TsX X Γ W0 [] ρ (some true) := ⟨fun b hm W σ E Q k pins s I => by
  cases hm
  exact pts_nil.run pins s σ W.H Q I (k W .refl E.ok)⟩
theorem ts_one {c : Expr} {m : Option Bool} (h : TX X Γ W0 c ρ m) : TsX X Γ W0 [c] ρ m := ⟨fun b hm W σ E Q k pins s I =>
  (pts_one pt_wp).run pins s σ W.H Q I (h.run b hm W σ E Q k)⟩
def wipeS (ρ : List Slot) : List Nat → List Slot
  | [] => ρ
  | v :: vs => (wipeS ρ vs).set v .un
theorem EnvOk.wipe {W : Wd} {σ : St} (E : EnvOk Γ W0 W ρ σ) : ∀ vs : List Nat, EnvOk Γ W0 W (wipeS ρ vs) (L2.wipe σ vs)
  | [] => E
  | v :: vs => (EnvOk.wipe E vs).drop v none
/-- poking one's own list keeps what was ahead of it -/
theorem le_poke {Ws W : Wd} {D : Addr} {o : HO} (le : Ws.le W) (h : Ws.H D = none) : Ws.le ⟨W.F, upd W.H D o⟩ :=
  ⟨fun a u e => by
    show upd W.H D o a = some u
    rw [upd_ne (ne_of_none e h)]
    exact le.h a u e, le.f, le.own⟩
theorem HLe.poke {F H : Hp} {D : Addr} {o : HO} (ok : HLe F H) (h : F D = none) : HLe F (upd H D o) := fun a u e => by
  rw [upd_ne (ne_of_none e h)]
  exact ok a u e
theorem Paired.snoc {α β : Type} {R : α → β → Prop} {as : List α} {bs : List β} {a : α} {b : β} (h : Paired R as bs) (r : R a b) : Paired R (as ++ [a]) (bs ++ [b]) := by
  induction h with
  | nil => exact .cons r .nil
  | cons r' _ ih => exact .cons r' ih
theorem cap_ok {n : Nat} (h : (n : Int) < cap) : n < sizeLine := by
  unfold cap at h
  have hs : sizeLine = 16777216 := sizeLine_eq
  omega
/-- the reading of a comprehension -/
theorem rd_lc {α β : Type} [Rep α] [Rep β] {tg iter elt : Expr} {ifs : List Expr} {scope : Scope} {own : List (Str × Nat)} {g : TG} {put : List Slot → α → List Slot} {ml : Option (List α)} {t : α → Option Bool} {f : α → Option β}
    (hi : IXc X Γ W0 tg iter ρ ml) (ts : TgS Γ g put (own.map (·.2)))
    (ht : ∀ (s : Shared) (H : Hp) (C : Addr) (cl : List (Str × Addr)) (fp : List Addr) (x : α), TsX (X.blk s H scope (compEnvC scope cl C X.env) fp) Γ W0 ifs (put (wipeS ρ (own.map (·.2))) x) (t x))
    (he : ∀ (s : Shared) (H : Hp) (C : Addr) (cl : List (Str × Addr)) (fp : List Addr) (x : α), EX (X.blk s H scope (compEnvC scope cl C X.env) fp) Γ W0 elt (put (wipeS ρ (own.map (·.2))) x) (f x))
    {ys : List β} (hm : lcM t f ml = some ys) {W : Wd} {σ : St} (E : EnvOk Γ W0 W ρ σ) {Q : VK} (k : ∀ p vs W2, W.le W2 → HLe W2.F W2.H → W.H p = none → W2.F p = none → W2.H p = some (.lst vs) → IsAll Γ W2.F vs ys → Q (.ref p) W2.H) :
    tLc (wpI X tg iter) g (fun σ H Q => ∀ (s : Shared) (H0 : Hp) (C : Addr) (cl : List (Str × Addr)) (fp : List Addr) pins s1, Inv (X.blk s H0 scope (compEnvC scope cl C X.env) fp) pins σ H s1 →
        wpAny (model X.prog X.w) X.A (forIn ifs true fun c r => if r = true then do let ok ← isTrue c (compEnvC scope cl C X.env) (eval c (compEnvC scope cl C X.env)); pure (ForInStep.yield ok) else pure (ForInStep.yield r)) (TP (X.blk s H0 scope (compEnvC scope cl C X.env) fp) pins σ Q) (fun _ _ => False) s1)
      (fun σ H Q => ∀ (s : Shared) (H0 : Hp) (C : Addr) (cl : List (Str × Addr)) (fp : List Addr), wpE (X.blk s H0 scope (compEnvC scope cl C X.env) fp) elt σ H Q) (own.map (·.2)) σ W.H Q := by
  obtain ⟨xs, e1, hm⟩ := bindo hm
  split at hm
  · rename_i hcap
    refine hi.run xs e1 W σ E _ fun J W2 le ok hw => ?_
    intro D hD
    refine ⟨fun i m H' => m = xs.length - i ∧ i ≤ xs.length ∧ ∃ (W3 : Wd) (acc : List V) (as rest : List β), W3.H = H' ∧ W2.le W3 ∧ HLe W2.F W3.F ∧ EnvOk Γ W0 W3 (wipeS ρ (own.map (·.2))) (L2.wipe σ (own.map (·.2))) ∧ W3.F D = none ∧ W3.H D = some (.lst acc) ∧ IsAll Γ W3.F acc as ∧ as.length ≤ i ∧ lcGo t f (xs.drop i) = some rest ∧ as ++ rest = ys, ?_, ?_⟩
    · have hDF : W2.F D = none := ok.none_of hD
      refine ⟨xs.length, by omega, Nat.zero_le _, ⟨W2.F, upd W2.H D (.lst [])⟩, [], [], ys, rfl, le_poke .refl hD, .refl, ?_, hDF, upd_same, .nil, Nat.le_refl _, hm, rfl⟩
      have E2 := (E.mono le ok).wipe (own.map (·.2))
      exact E2.poke (E2.le.free hD) hDF (E2.notOwned hD)
    · rintro i m H' ⟨rfl, hi', W3, acc, as, rest, rfl, le3, hF, E3, hDF, hDH, ha, hal, h3, h4⟩
      obtain ⟨w1, w2⟩ := hw W3 le3 E3.ok i
      have hD0 : W.H D = none := le.free hD
      have hDW0 : W0.H D = none := E.le.free hD0
      by_cases hlt : i < xs.length
      · have hx : xs[i]? = some xs[i] := List.getElem?_eq_getElem hlt
        obtain ⟨go, w3⟩ := w2 _ hx
        rw [drop_at hx] at h3
        obtain ⟨b, h5, h3⟩ := bindo (show (t xs[i]).bind (fun b => if b = true then (f xs[i]).bind fun y => (lcGo t f (xs.drop (i + 1))).bind fun ys => some (y :: ys) else lcGo t f (xs.drop (i + 1))) = some rest from h3)
        refine .inr ⟨go, fun H4 => ∃ (W4 : Wd) (acc : List V) (as rest : List β), W4.H = H4 ∧ W2.le W4 ∧ HLe W2.F W4.F ∧ EnvOk Γ W0 W4 (wipeS ρ (own.map (·.2))) (L2.wipe σ (own.map (·.2))) ∧ W4.F D = none ∧ W4.H D = some (.lst acc) ∧ IsAll Γ W4.F acc as ∧ as.length ≤ i + 1 ∧ lcGo t f (xs.drop (i + 1)) = some rest ∧ as ++ rest = ys,
          fun H4 k4 => ⟨xs.length - (i + 1), by omega, rfl, hlt, k4⟩, fun v H4 y => ?_⟩
        obtain ⟨W4, rfl, le4, ok4, is4⟩ := w3 v H4 y
        refine ts W0 W4 v _ _ _ _ (E3.mono le4 ok4) is4 fun σ5 E5 hwp => ⟨?_, ?_⟩
        · have : L2.wipe σ5 (own.map (·.2)) = L2.wipe (L2.wipe σ (own.map (·.2))) (own.map (·.2)) := hwp
          rw [this]
          have : ∀ (vs : List Nat) (σ : St), L2.wipe (L2.wipe σ vs) vs = L2.wipe σ vs := by
            intro vs σ
            apply List.ext_getElem?
            intro j
            have look : ∀ (vs : List Nat) (σ : St), (L2.wipe σ vs)[j]? = if j ∈ vs then (if j < σ.length then some none else none) else σ[j]? := by
              intro vs
              induction vs with
              | nil => intro σ; simp [L2.wipe]
              | cons a r ih =>
                intro σ
                show ((L2.wipe σ r).set a none)[j]? = _
                rw [List.getElem?_set, ih σ, L2.wipe_length]
                by_cases h1 : a = j
                · subst h1
                  by_cases h2 : a < σ.length <;> simp [h2]
                · have h1' : ¬ j = a := fun z => h1 z.symm
                  simp [h1, h1']
            rw [look, look, L2.wipe_length]
            split <;> rfl
          exact this _ _
        · intro s H0 C cl fp pins s1 I1
          refine (ht s H0 C cl fp xs[i]).run b h5 W4 σ5 E5 _ (fun W6 le6 ok6 => ?_) pins s1 I1
          have hDH4 : W6.H D = some (.lst acc) := le6.h D _ (le4.h D _ hDH)
          have hDF4 : W6.F D = none := le6.own D (by rw [le4.h D _ hDH]; exact fun z => nomatch z) (le4.own D (by rw [hDH]; exact fun z => nomatch z) hDF)
          cases b with
          | true =>
            obtain ⟨z, h6, h3⟩ := bindo (show ((f xs[i]).bind fun y => (lcGo t f (xs.drop (i + 1))).bind fun ys => some (y :: ys)) = some rest from h3)
            obtain ⟨zs, h7, h3⟩ := bindo h3
            cases h3
            refine iteT fun s H0 C cl fp => ?_
            refine (he s H0 C cl fp xs[i]).run z h6 W6 σ5 (E5.mono le6 ok6) _ fun u W7 le7 ok7 is7 => ?_
            have hDH7 : W7.H D = some (.lst acc) := le7.h D _ hDH4
            have hDF7 : W7.F D = none := le7.own D (by rw [hDH4]; exact fun z => nomatch z) hDF4
            have hF7 : HLe W3.F W7.F := (le4.trans le6).trans le7 |>.f
            have hE7 := E3.mono ((le4.trans le6).trans le7) ok7
            refine ⟨acc, hDH7, ?_, ⟨W7.F, upd W7.H D (.lst (acc ++ [u]))⟩, acc ++ [u], as ++ [z], zs, rfl, le_poke (le3.trans ((le4.trans le6).trans le7)) hD, hF.trans hF7, ?_, hDF7, upd_same, Paired.snoc (ha.mono hF7) is7, ?_, h7, by rw [List.append_assoc]; exact h4⟩
            · have := ha.len
              refine Nat.lt_of_le_of_lt ?_ (cap_ok hcap)
              omega
            · exact hE7.poke hDW0 hDF7 (fun j sl e1 e2 e3 => (E.mono le ok).wipe (own.map (·.2)) |>.notOwned hD j sl e1 e2 e3)
            · rw [List.length_append, List.length_singleton]
              omega
          | false =>
            refine iteF ⟨W6, acc, as, rest, rfl, le3.trans (le4.trans le6), hF.trans (le4.trans le6).f, E3.mono (le4.trans le6) ok6, hDF4, hDH4, ha.mono (le4.trans le6).f, by omega, h3, h4⟩
      · have e : i = xs.length := by omega
        subst e
        rw [List.drop_length] at h3
        cases h3
        rw [List.append_nil] at h4
        subst h4
        exact .inl ⟨w1 (Nat.le_refl _), k D acc W3 (le.trans le3) E3.ok hD0 hDF hDH ha⟩
  · cases hm
/-- [elt for tg in iter if ..] -/
theorem o_lc {α β : Type} [Rep α] [Rep β] {tg iter elt : Expr} {ifs : List Expr} {scope : Scope} {own : List (Str × Nat)} {pos : Pos} {g : TG} {put : List Slot → α → List Slot} {ml : Option (List α)} {t : α → Option Bool} {f : α → Option β}
    (own_ : own = own) (nd : X.N.Nodup) (ok : BlkOk X.N X.env.scope scope own) (hi : IXc X Γ W0 tg iter ρ ml) (hg : ∀ (s : Shared) (H : Hp) (C : Addr) (cl : List (Str × Addr)) (fp : List Addr), PG (X.blk s H scope (compEnvC scope cl C X.env) fp) tg g) (ts : TgS Γ g put (own.map (·.2)))
    (ht : ∀ (s : Shared) (H : Hp) (C : Addr) (cl : List (Str × Addr)) (fp : List Addr) (x : α), TsX (X.blk s H scope (compEnvC scope cl C X.env) fp) Γ W0 ifs (put (wipeS ρ (own.map (·.2))) x) (t x))
    (he : ∀ (s : Shared) (H : Hp) (C : Addr) (cl : List (Str × Addr)) (fp : List Addr) (x : α), EX (X.blk s H scope (compEnvC scope cl C X.env) fp) Γ W0 elt (put (wipeS ρ (own.map (·.2))) x) (f x))
    (hc : X.calm = true := by rfl) (hs : ∀ x, foldedSetIterable iter X.env x = pure x := by intro _; rfl) : OX X Γ W0 (.ListComp elt [⟨tg, iter, ifs, 0⟩] scope pos) ρ (lcM t f ml) := ⟨fun ys hm W σ E Q k => by
  refine wp_of (pe_lc (own := own) hc nd pi_wp ok hg (fun s H C cl fp => ⟨fun pins s1 σ1 H1 Q1 I1 h1 => ?_⟩) (fun s H C cl fp => ⟨fun pins s1 σ1 H1 Q1 I1 h1 => ?_⟩) hs) (rd_lc hi ts ht he hm E k)
  · exact h1 s H C cl fp pins s1 I1
  · exact h1 s H C cl fp pins s1 I1⟩
/-- y = [elt for tg in iter if ..] -/
theorem s_lc {α β : Type} [Rep α] [Rep β] {tg iter elt : Expr} {ifs : List Expr} {scope : Scope} {own : List (Str × Nat)} {pos spos py : Pos} {y : Str} {g : TG} {put : List Slot → α → List Slot} {ml : Option (List α)} {t : α → Option Bool} {f : α → Option β} (i : Nat)
    (own_ : own = own) (nd : X.N.Nodup) (ok : BlkOk X.N X.env.scope scope own) (hi : IXc X Γ W0 tg iter ρ ml) (hg : ∀ (s : Shared) (H : Hp) (C : Addr) (cl : List (Str × Addr)) (fp : List Addr), PG (X.blk s H scope (compEnvC scope cl C X.env) fp) tg g) (ts : TgS Γ g put (own.map (·.2)))
    (ht : ∀ (s : Shared) (H : Hp) (C : Addr) (cl : List (Str × Addr)) (fp : List Addr) (x : α), TsX (X.blk s H scope (compEnvC scope cl C X.env) fp) Γ W0 ifs (put (wipeS ρ (own.map (·.2))) x) (t x))
    (he : ∀ (s : Shared) (H : Hp) (C : Addr) (cl : List (Str × Addr)) (fp : List Addr) (x : α), EX (X.blk s H scope (compEnvC scope cl C X.env) fp) Γ W0 elt (put (wipeS ρ (own.map (·.2))) x) (f x))
    (hsw : swapsWith (.ListComp elt [⟨tg, iter, ifs, 0⟩] scope pos) (some (.Name y py)) spos.line X.env = pure true) (hy : X.N[i]? = some y := by rfl) (hyl : X.env.scope.names.lookup y = some .local := by rfl)
    (hc : X.calm = true := by rfl) (hs : ∀ x, foldedSetIterable iter X.env x = pure x := by intro _; rfl) : SX X Γ W0 (.Assign [.Name y py] (.ListComp elt [⟨tg, iter, ifs, 0⟩] scope pos) spos) ρ (lcM t f ml) (fun ys => ρ.set i (.owL ys)) := ⟨fun ys hm W σ E D q => by
  refine ws_of (ps_setLc (i := i) (own := own) hc nd hy hyl hsw pi_wp ok hg (fun s H C cl fp => ⟨fun pins s1 σ1 H1 Q1 I1 h1 => ?_⟩) (fun s H C cl fp => ⟨fun pins s1 σ1 H1 Q1 I1 h1 => ?_⟩) hs) (rd_lc hi ts ht he hm E fun p vs W2 le ok2 h1 h2 h3 h4 => ?_)
  · exact h1 s H C cl fp pins s1 I1
  · exact h1 s H C cl fp pins s1 I1
  · exact q W2 _ le.f ((E.mono le ok2).setOwn i (fun j s e1 e2 => E.notOwned h1 j s e1 e2) rfl ⟨p, vs, rfl, E.le.free h1, h2, h3, h4⟩)⟩
end
end SR
end
section
set_option Elab.async false
set_option linter.all false
set_option maxRecDepth 100000
set_option maxHeartbeats 4000000
namespace SR
open PySem PySem.Spec PyProof.Rows L2

/-! ### arguments, displays -/
def wpA (X : Cx) (es : List Expr) : TA := fun σ H Q => ∀ pos pins s, Inv X pins σ H s → wpAny (model X.prog X.w) X.A (spliced (backTo pos (starEach es X.env))) (AP X pins σ Q) X.xe s
theorem pa_wp {X : Cx} {es : List Expr} : PA X es (wpA X es) := ⟨fun pos pins s σ H Q I h => h pos pins s I⟩
theorem wa_of {X : Cx} {es : List Expr} {t : TA} {σ : St} {H : Hp} {Q : List V → Hp → Prop} (h : PA X es t) (q : t σ H Q) : wpA X es σ H Q := fun pos pins s I => h.run pos pins s σ H Q I q
section
variable (X : Cx) (Γ : Cs) (W0 : Wd)
/-- expressions of one type -/
structure AX (es : List Expr) (ρ : List Slot) {α : Type} [Rep α] (m : Option (List α)) : Prop where
  run : ∀ xs, m = some xs → ∀ W σ, EnvOk Γ W0 W ρ σ → ∀ Q : List V → Hp → Prop, (∀ vs W2, W.le W2 → HLe W2.F W2.H → IsAll Γ W2.F vs xs → Q vs W2.H) → wpA X es σ W.H Q
end
def consM {α : Type} (x : α) (xs : List α) : Option (List α) := some (x :: xs)
def appM {α : Type} (xs ys : List α) : Option (List α) := some (xs ++ ys)
def capM {α : Type} (xs : List α) : Option (List α) := if (xs.length : Int) < cap then some xs else none
def pairM {α β : Type} (x : α) (y : β) : Option (α × β) := some (x, y)
def tripM {α β γ : Type} (x : α) (y : β) (z : γ) : Option (T3 α β γ) := some ⟨x, y, z⟩
section
variable {X : Cx} {Γ : Cs} {W0 : Wd} {ρ : List Slot}
theorem a_nil {α : Type} [Rep α] : AX X Γ W0 [] ρ (some ([] : List α)) := ⟨fun xs hm W σ E Q k => by
  cases hm
  exact wa_of pa_nil (k [] W .refl E.ok .nil)⟩
theorem a_cons {α : Type} [Rep α] {e : Expr} {es : List Expr} {m : Option α} {ms : Option (List α)} (h : EX X Γ W0 e ρ m) (hs : AX X Γ W0 es ρ ms) (he : starEach (e :: es) X.env = (false, eval e X.env) :: starEach es X.env := by rfl) : AX X Γ W0 (e :: es) ρ (M2 consM m ms) := ⟨fun xs hm W σ E Q k => by
  obtain ⟨x, h1, hm⟩ := bindo hm
  obtain ⟨ys, h2, hm⟩ := bindo hm
  cases hm
  refine wa_of (pa_cons pe_wp pa_wp he) ?_
  refine h.run x h1 W σ E _ fun v W2 le ok i1 => ?_
  exact hs.run ys h2 W2 σ (E.mono le ok) _ fun vs W3 le2 ok2 i2 => k (v :: vs) W3 (le.trans le2) ok2 (.cons (Rep.mono le2.f i1) i2)⟩
/-- [a, b, ..] -/
theorem o_lst {α : Type} [Rep α] {es : List Expr} {pos : Pos} {m : Option (List α)} (h : AX X Γ W0 es ρ m) : OX X Γ W0 (.List es pos) ρ (M1 capM m) := ⟨fun xs hm W σ E Q k => by
  obtain ⟨ys, h1, hm⟩ := bindo hm
  unfold capM at hm
  split at hm
  · rename_i hc
    have e := Option.some.inj hm
    subst e
    refine wp_of (pe_lst pa_wp) ?_
    refine h.run ys h1 W σ E _ fun vs W2 le ok i1 => ⟨Nat.le_of_lt (by rw [i1.len]; exact cap_ok hc), fun p hp => ?_⟩
    exact k p vs ⟨W2.F, upd W2.H p (.lst vs)⟩ (le.trans (.new hp)) (ok_new ok hp) (le.free hp) (ok.none_of hp) upd_same i1
  · cases hm⟩
/-- a new tuple, frozen -/
theorem tup_new {W : Wd} {p : Addr} {vs : List V} (ok : HLe W.F W.H) (hp : W.H p = none) : W.le ⟨upd W.F p (.tup vs), upd W.H p (.tup vs)⟩ ∧ HLe (upd W.F p (.tup vs)) (upd W.H p (.tup vs)) ∧ HLe W.F (upd W.F p (.tup vs)) :=
  ⟨Wd.le.newF ok hp, ok_newF ok hp, HLe.upd_new (ok.none_of hp)⟩
theorem x_pair {α β : Type} [Rep α] [Rep β] {a b : Expr} {x1 : Nat} {pos : Pos} {ma : Option α} {mb : Option β} (ha : EX X Γ W0 a ρ ma) (hb : EX X Γ W0 b ρ mb)
    (hp : PA X [a, b] (tCons (wpE X a) (tCons (wpE X b) tNil)) := by exact pa_cons pe_wp (pa_cons pe_wp pa_nil)) : EX X Γ W0 (.Tuple [a, b] x1 pos) ρ (M2 pairM ma mb) := ⟨fun z hm W σ E Q k => by
  obtain ⟨x, h1, hm⟩ := bindo hm
  obtain ⟨y, h2, hm⟩ := bindo hm
  cases hm
  refine wp_of (pe_tup hp) ?_
  refine ha.run x h1 W σ E _ fun v W2 le ok i1 => ?_
  refine hb.run y h2 W2 σ (E.mono le ok) _ fun u W3 le2 ok2 i2 => ?_
  refine ⟨by show 2 ≤ sizeLine; decide, fun p hp => ?_⟩
  obtain ⟨l1, l2, l3⟩ := tup_new (vs := [v, u]) ok2 hp
  exact k (.ref p) _ ((le.trans le2).trans l1) l2 ⟨p, v, u, rfl, upd_same, Rep.mono (le2.f.trans l3) i1, Rep.mono l3 i2⟩⟩
theorem x_trip {α β γ : Type} [Rep α] [Rep β] [Rep γ] {a b c : Expr} {x1 : Nat} {pos : Pos} {ma : Option α} {mb : Option β} {mc : Option γ} (ha : EX X Γ W0 a ρ ma) (hb : EX X Γ W0 b ρ mb) (hc : EX X Γ W0 c ρ mc)
    (hp : PA X [a, b, c] (tCons (wpE X a) (tCons (wpE X b) (tCons (wpE X c) tNil))) := by exact pa_cons pe_wp (pa_cons pe_wp (pa_cons pe_wp pa_nil))) : EX X Γ W0 (.Tuple [a, b, c] x1 pos) ρ (M3 tripM ma mb mc) := ⟨fun z hm W σ E Q k => by
  obtain ⟨x, h1, hm⟩ := bindo hm
  obtain ⟨y, h2, hm⟩ := bindo hm
  obtain ⟨w, h3, hm⟩ := bindo hm
  cases hm
  refine wp_of (pe_tup hp) ?_
  refine ha.run x h1 W σ E _ fun v W2 le ok i1 => ?_
  refine hb.run y h2 W2 σ (E.mono le ok) _ fun u W3 le2 ok2 i2 => ?_
  refine hc.run w h3 W3 σ (E.mono (le.trans le2) ok2) _ fun r W4 le3 ok3 i3 => ?_
  refine ⟨by show 3 ≤ sizeLine; decide, fun p hp => ?_⟩
  obtain ⟨l1, l2, l3⟩ := tup_new (vs := [v, u, r]) ok3 hp
  exact k (.ref p) _ (((le.trans le2).trans le3).trans l1) l2 ⟨p, v, u, r, rfl, upd_same, Rep.mono ((le2.f.trans le3.f).trans l3) i1, Rep.mono (le3.f.trans l3) i2, Rep.mono l3 i3⟩⟩
/-- (a, b, ..), of one type -/
theorem x_tup {α : Type} [Rep α] {es : List Expr} {x1 : Nat} {pos : Pos} {m : Option (List α)} (h : AX X Γ W0 es ρ m) : EX X Γ W0 (.Tuple es x1 pos) ρ (M1 (fun xs => (capM xs).bind fun ys => some (Tup.mk ys)) m) := ⟨fun z hm W σ E Q k => by
  obtain ⟨ys, h1, hm⟩ := bindo hm
  obtain ⟨zs, h2, hm⟩ := bindo hm
  unfold capM at h2
  split at h2
  · rename_i hc
    cases h2
    cases hm
    refine wp_of (pe_tup pa_wp) ?_
    refine h.run ys h1 W σ E _ fun vs W2 le ok i1 => ⟨Nat.le_of_lt (by rw [i1.len]; exact cap_ok hc), fun p hp => ?_⟩
    obtain ⟨l1, l2, l3⟩ := tup_new (vs := vs) ok hp
    exact k (.ref p) _ (le.trans l1) l2 ⟨p, vs, rfl, upd_same, i1.mono l3⟩
  · cases h2⟩
end

/-! ### subscripts, slices -/
theorem vget {α : Type} [Rep α] {Γ : Cs} {F : Hp} {vs : List V} {xs : List α} (h : IsAll Γ F vs xs) {i : Int} {x : α} (hx : atI xs i = some x) : ∃ v, atI vs i = some v ∧ Is Γ F v x := by
  unfold atI at hx ⊢
  rw [h.len]
  cases e : ixN xs.length i with
  | none =>
    rw [e] at hx
    cases hx
  | some j =>
    rw [e] at hx
    have hx' : xs[j]? = some x := hx
    have hj : j < xs.length := (List.getElem?_eq_some_iff.mp hx').1
    have hv : vs[j]? = some (vs[j]'(by rw [h.len]; exact hj)) := List.getElem?_eq_getElem _
    exact ⟨_, hv, h.at hv hx'⟩
def cutL {α : Type} (lo hi : Option Int) (xs : List α) : List α := (xs.drop (HT.sIx xs.length 0 lo)).take (HT.sIx xs.length xs.length hi - HT.sIx xs.length 0 lo)
theorem IsAll.drop {α : Type} [Rep α] {Γ : Cs} {F : Hp} {vs : List V} {xs : List α} (h : IsAll Γ F vs xs) : ∀ n, IsAll Γ F (vs.drop n) (xs.drop n) := by
  induction h with
  | nil => intro n; simp; exact .nil
  | cons r t ih =>
    intro n
    cases n with
    | zero => exact .cons r t
    | succ n => exact ih n
theorem IsAll.take {α : Type} [Rep α] {Γ : Cs} {F : Hp} {vs : List V} {xs : List α} (h : IsAll Γ F vs xs) : ∀ n, IsAll Γ F (vs.take n) (xs.take n) := by
  induction h with
  | nil => intro n; simp; exact .nil
  | cons r t ih =>
    intro n
    cases n with
    | zero => exact .nil
    | succ n => exact .cons r (ih n)
theorem IsAll.cut {α : Type} [Rep α] {Γ : Cs} {F : Hp} {vs : List V} {xs : List α} (h : IsAll Γ F vs xs) (lo hi : Option Int) : IsAll Γ F (cutV vs lo hi) (cutL lo hi xs) := by
  unfold cutV cutL
  rw [h.len]
  exact (h.drop _).take _
theorem IsAll.append {α : Type} [Rep α] {Γ : Cs} {F : Hp} {vs us : List V} {xs ys : List α} (h : IsAll Γ F vs xs) (h' : IsAll Γ F us ys) : IsAll Γ F (vs ++ us) (xs ++ ys) := by
  induction h with
  | nil => exact h'
  | cons r t ih => exact .cons r ih
theorem IsAll.set {α : Type} [Rep α] {Γ : Cs} {F : Hp} {vs : List V} {xs : List α} (h : IsAll Γ F vs xs) {v : V} {x : α} (r : Is Γ F v x) : ∀ n, IsAll Γ F (vs.set n v) (xs.set n x) := by
  induction h with
  | nil => intro n; exact .nil
  | cons r' t ih =>
    intro n
    cases n with
    | zero => exact .cons r t
    | succ n => exact .cons r' (ih n)
section
variable {X : Cx} {Γ : Cs} {W0 : Wd} {ρ : List Slot}
def ixM {α : Type} (xs : List α) (i : Int) : Option α := atI xs i
theorem x_ix {α : Type} [Rep α] {a b : Expr} {pos : Pos} {ma : Option (List α)} {mb : Option Int} (ha : LX X Γ W0 a ρ ma) (hb : EX X Γ W0 b ρ mb) (hs : PlainIx b := by intro _ _; rfl) : EX X Γ W0 (.Subscript a b pos) ρ (M2 ixM ma mb) := ⟨fun z hm W σ E Q k => by
  obtain ⟨xs, h1, hm⟩ := bindo hm
  obtain ⟨i, h2, hm⟩ := bindo hm
  refine wp_of (pe_ix ix_list pe_wp pe_wp hs) ?_
  refine ha.run xs h1 W σ E _ fun p vs W2 le ok q i1 => ?_
  refine hb.run i h2 W2 σ (E.mono le ok) _ fun u W3 le2 ok2 i2 => ?_
  have e : u = .int i := i2
  subst e
  obtain ⟨v, g1, g2⟩ := vget (i1.mono le2.f) hm
  exact ⟨p, vs, i, v, rfl, rfl, SqL.of (le2.h _ _ q), g1, k v W3 (le.trans le2) ok2 g2⟩⟩
/-- a tuple's item at an open place -/
theorem x_ixT {α : Type} [Rep α] {a b : Expr} {pos : Pos} {ma : Option (Tup α)} {mb : Option Int} (ha : EX X Γ W0 a ρ ma) (hb : EX X Γ W0 b ρ mb) (hs : PlainIx b := by intro _ _; rfl) : EX X Γ W0 (.Subscript a b pos) ρ (M2 (fun t i => ixM t.xs i) ma mb) := ⟨fun z hm W σ E Q k => by
  obtain ⟨xs, h1, hm⟩ := bindo hm
  obtain ⟨i, h2, hm⟩ := bindo hm
  refine wp_of (pe_ix ix_tup pe_wp pe_wp hs) ?_
  refine ha.run xs h1 W σ E _ fun p W2 le ok ⟨a, vs, e1, q, i1⟩ => ?_
  subst e1
  refine hb.run i h2 W2 σ (E.mono le ok) _ fun u W3 le2 ok2 i2 => ?_
  have e : u = .int i := i2
  subst e
  obtain ⟨v, g1, g2⟩ := vget (i1.mono le2.f) hm
  exact ⟨a, vs, i, v, rfl, rfl, SqT.of (ok2.tup (le2.f.tup q)), g1, k v W3 (le.trans le2) ok2 g2⟩⟩
theorem x_fst {α β : Type} [Rep α] [Rep β] {a : Expr} {j : Nat} {pos p2 : Pos} {ma : Option (α × β)} (ha : EX X Γ W0 a ρ ma) (hs : PlainIx (.Constant (.int 0) j p2) := by intro _ _; rfl) : EX X Γ W0 (.Subscript a (.Constant (.int 0) j p2) pos) ρ (ma.bind fun x => some x.1) := ⟨fun z hm W σ E Q k => by
  obtain ⟨x, h1, hm⟩ := bindo hm
  cases hm
  refine wp_of (pe_ix ix_tup pe_wp pe_int hs) ?_
  refine ha.run x h1 W σ E _ fun v W2 le ok ⟨p, v1, v2, e1, e2, i1, i2⟩ => ?_
  exact ⟨p, [v1, v2], 0, v1, e1, rfl, SqT.of (ok.tup e2), rfl, k v1 W2 le ok i1⟩⟩
theorem x_snd {α β : Type} [Rep α] [Rep β] {a : Expr} {j : Nat} {pos p2 : Pos} {ma : Option (α × β)} (ha : EX X Γ W0 a ρ ma) (hs : PlainIx (.Constant (.int 1) j p2) := by intro _ _; rfl) : EX X Γ W0 (.Subscript a (.Constant (.int 1) j p2) pos) ρ (ma.bind fun x => some x.2) := ⟨fun z hm W σ E Q k => by
  obtain ⟨x, h1, hm⟩ := bindo hm
  cases hm
  refine wp_of (pe_ix ix_tup pe_wp pe_int hs) ?_
  refine ha.run x h1 W σ E _ fun v W2 le ok ⟨p, v1, v2, e1, e2, i1, i2⟩ => ?_
  exact ⟨p, [v1, v2], 1, v2, e1, rfl, SqT.of (ok.tup e2), rfl, k v2 W2 le ok i2⟩⟩
def at3a {α β γ : Type} (x : T3 α β γ) : Option α := some x.a
def at3b {α β γ : Type} (x : T3 α β γ) : Option β := some x.b
def at3c {α β γ : Type} (x : T3 α β γ) : Option γ := some x.c
theorem x_t3a {α β γ : Type} [Rep α] [Rep β] [Rep γ] {a : Expr} {j : Nat} {pos p2 : Pos} {ma : Option (T3 α β γ)} (ha : EX X Γ W0 a ρ ma) (hs : PlainIx (.Constant (.int 0) j p2) := by intro _ _; rfl) : EX X Γ W0 (.Subscript a (.Constant (.int 0) j p2) pos) ρ (M1 at3a ma) := ⟨fun z hm W σ E Q k => by
  obtain ⟨x, h1, hm⟩ := bindo hm
  cases hm
  refine wp_of (pe_ix ix_tup pe_wp pe_int hs) ?_
  refine ha.run x h1 W σ E _ fun v W2 le ok ⟨p, v1, v2, v3, e1, e2, i1, i2, i3⟩ => ?_
  exact ⟨p, [v1, v2, v3], 0, v1, e1, rfl, SqT.of (ok.tup e2), rfl, k v1 W2 le ok i1⟩⟩
theorem x_t3b {α β γ : Type} [Rep α] [Rep β] [Rep γ] {a : Expr} {j : Nat} {pos p2 : Pos} {ma : Option (T3 α β γ)} (ha : EX X Γ W0 a ρ ma) (hs : PlainIx (.Constant (.int 1) j p2) := by intro _ _; rfl) : EX X Γ W0 (.Subscript a (.Constant (.int 1) j p2) pos) ρ (M1 at3b ma) := ⟨fun z hm W σ E Q k => by
  obtain ⟨x, h1, hm⟩ := bindo hm
  cases hm
  refine wp_of (pe_ix ix_tup pe_wp pe_int hs) ?_
  refine ha.run x h1 W σ E _ fun v W2 le ok ⟨p, v1, v2, v3, e1, e2, i1, i2, i3⟩ => ?_
  exact ⟨p, [v1, v2, v3], 1, v2, e1, rfl, SqT.of (ok.tup e2), rfl, k v2 W2 le ok i2⟩⟩
/-- d[k] -/
theorem kvs_val {α : Type} [Rep α] {Γ : Cs} {F : Hp} {kvs : List (Key × V)} {xs : List (Int × α)} (h : IsKvs Γ F kvs xs) (k : Int) : match getD? xs k with
    | none => valV kvs (Sum.inl k) = none
    | some x => ∃ v, valV kvs (Sum.inl k) = some v ∧ Is Γ F v x := by
  induction h with
  | nil => exact valV_nil
  | @cons q x r r' hq t ih =>
    obtain ⟨j, y⟩ := x
    obtain ⟨e1, i1⟩ := hq
    show match (if j = k then some y else getD? r' k) with
      | none => valV (q :: r) (Sum.inl k) = none
      | some x => ∃ v, valV (q :: r) (Sum.inl k) = some v ∧ Is Γ F v x
    by_cases z : j = k
    · subst z
      rw [if_pos rfl]
      exact ⟨q.2, valV_pos e1, i1⟩
    · rw [if_neg z, valV_neg (fun w => z (by rw [e1] at w; injection w))]
      exact ih
def dgetM {α : Type} (kvs : List (Int × α)) (k : Int) : Option α := getD? kvs k
def dgetD {α : Type} (kvs : List (Int × α)) (k : Int) (d : α) : Option α := some ((getD? kvs k).getD d)
def dinM {α : Type} (k : Int) (kvs : List (Int × α)) : Option Bool := some (getD? kvs k).isSome
def dninM {α : Type} (k : Int) (kvs : List (Int × α)) : Option Bool := some (!(getD? kvs k).isSome)
theorem dget_of {H : Hp} {a : Addr} {kvs : List (Key × V)} (k : Int) (e : Rd H a (.dK kvs)) : DGet H a (.int k) (valV kvs (Sum.inl k)) := .inl ⟨kvs, Sum.inl k, e, rfl, rfl⟩
theorem Rd.mono {H H' : Hp} {a : Addr} {u : HO} (e : Rd H a u) (h : ∀ a o, H a = some o → H' a = some o) : Rd H' a u := by
  rcases e with e | ⟨o, e⟩
  · exact .inl (h _ _ e)
  · exact .inr ⟨o, h _ _ e⟩
theorem x_dget {α : Type} [Rep α] {a b : Expr} {pos : Pos} {ma : Option (List (Int × α))} {mb : Option Int} (hu : X.A.units + 1 < cLine) (ha : DX X Γ W0 a ρ ma) (hb : EX X Γ W0 b ρ mb) (hs : NoSl b := by intro _ _; rfl) : EX X Γ W0 (.Subscript a b pos) ρ (M2 dgetM ma mb) := ⟨fun z hm W σ E Q k => by
  obtain ⟨xs, h1, hm⟩ := bindo hm
  obtain ⟨i, h2, hm⟩ := bindo hm
  refine wp_of (pe_dget hu pe_wp pe_wp hs) ?_
  refine ha.run xs h1 W σ E _ fun p kvs W2 le ok q i1 => ?_
  refine hb.run i h2 W2 σ (E.mono le ok) _ fun u W3 le2 ok2 i2 => ?_
  have e : u = .int i := i2
  subst e
  have g := kvs_val (i1.mono le2.f) i
  rw [show getD? xs i = some z from hm] at g
  obtain ⟨v, g1, g2⟩ := g
  have d := dget_of i (Rd.mono q le2.h)
  rw [g1] at d
  exact ⟨p, v, rfl, d, k v W3 (le.trans le2) ok2 g2⟩⟩
/-- d.get(k, x) -/
theorem x_get {α : Type} [Rep α] {a b c : Expr} {apos cpos : Pos} {ma : Option (List (Int × α))} {mb : Option Int} {mc : Option α} (hu : X.A.units + 1 < cLine) (ha : DX X Γ W0 a ρ ma) (hb : EX X Γ W0 b ρ mb) (hc : EX X Γ W0 c ρ mc) (m : L2.M2 X a "get" apos b c cpos) :
    EX X Γ W0 (.Call (.Attribute a "get" apos) [b, c] [] cpos) ρ (M3 dgetD ma mb mc) := ⟨fun z hm W σ E Q k => by
  obtain ⟨xs, h1, hm⟩ := bindo hm
  obtain ⟨i, h2, hm⟩ := bindo hm
  obtain ⟨y, h3, hm⟩ := bindo hm
  cases hm
  refine wp_of (pe_dget2 hu pe_wp pe_wp pe_wp m) ?_
  refine ha.run xs h1 W σ E _ fun p kvs W2 le ok q i1 => ⟨p, rfl, .inl ⟨kvs, q⟩, ?_⟩
  refine hb.run i h2 W2 σ (E.mono le ok) _ fun u W3 le2 ok2 i2 => ?_
  have e : u = .int i := i2
  subst e
  refine hc.run y h3 W3 σ (E.mono (le.trans le2) ok2) _ fun u3 W4 le3 ok3 i3 => ?_
  have g := kvs_val (i1.mono (le2.trans le3).f) i
  refine ⟨_, dget_of i (Rd.mono q (le2.trans le3).h), k _ W4 ((le.trans le2).trans le3) ok3 ?_⟩
  cases e : getD? xs i with
  | none =>
    rw [e] at g
    rw [show valV kvs (Sum.inl i) = none from g]
    exact i3
  | some w =>
    rw [e] at g
    obtain ⟨v, g1, g2⟩ := g
    rw [g1]
    exact g2⟩
theorem x_din {α : Type} [Rep α] {a b : Expr} {pos : Pos} {ma : Option (List (Int × α))} {mb : Option Int} (hu : X.A.units + 1 < cLine) (hb : EX X Γ W0 b ρ mb) (ha : DX X Γ W0 a ρ ma) (hk : behindInMarks .In a = false := by rfl) : EX X Γ W0 (.Compare b [.In] [a] pos) ρ (M2 dinM mb ma) := ⟨fun z hm W σ E Q k => by
  obtain ⟨i, h2, hm⟩ := bindo hm
  obtain ⟨xs, h1, hm⟩ := bindo hm
  cases hm
  refine wp_of (pe_cmp (pc_din hu pe_wp pe_wp) hk) ?_
  refine hb.run i h2 W σ E _ fun u W2 le ok i2 => ?_
  have e : u = .int i := i2
  subst e
  refine ha.run xs h1 W2 σ (E.mono le ok) _ fun p kvs W3 le2 ok2 q i1 => ?_
  refine ⟨p, _, rfl, dget_of i q, k _ W3 (le.trans le2) ok2 ?_⟩
  have g := kvs_val i1 i
  cases e : getD? xs i with
  | none =>
    rw [e] at g
    rw [show valV kvs (Sum.inl i) = none from g]
    rfl
  | some w =>
    rw [e] at g
    obtain ⟨v, g1, g2⟩ := g
    rw [g1]
    rfl⟩
theorem x_dnin {α : Type} [Rep α] {a b : Expr} {pos : Pos} {ma : Option (List (Int × α))} {mb : Option Int} (hu : X.A.units + 1 < cLine) (hb : EX X Γ W0 b ρ mb) (ha : DX X Γ W0 a ρ ma) (hk : behindInMarks .NotIn a = false := by rfl) : EX X Γ W0 (.Compare b [.NotIn] [a] pos) ρ (M2 dninM mb ma) := ⟨fun z hm W σ E Q k => by
  obtain ⟨i, h2, hm⟩ := bindo hm
  obtain ⟨xs, h1, hm⟩ := bindo hm
  cases hm
  refine wp_of (pe_cmp (pc_dnotin hu pe_wp pe_wp) hk) ?_
  refine hb.run i h2 W σ E _ fun u W2 le ok i2 => ?_
  have e : u = .int i := i2
  subst e
  refine ha.run xs h1 W2 σ (E.mono le ok) _ fun p kvs W3 le2 ok2 q i1 => ?_
  refine ⟨p, _, rfl, dget_of i q, k _ W3 (le.trans le2) ok2 ?_⟩
  have g := kvs_val i1 i
  cases e : getD? xs i with
  | none =>
    rw [e] at g
    rw [show valV kvs (Sum.inl i) = none from g]
    rfl
  | some w =>
    rw [e] at g
    obtain ⟨v, g1, g2⟩ := g
    rw [g1]
    rfl⟩
/-! slices -/
structure OpX (X : Cx) (Γ : Cs) (W0 : Wd) (e : Option Expr) (ρ : List Slot) (m : Option (Option Int)) : Prop where
  run : ∃ t, PO X e t ∧ ∀ o, m = some o → ∀ W σ, EnvOk Γ W0 W ρ σ → ∀ Q : Option Int → Hp → Prop, (∀ W2, W.le W2 → HLe W2.F W2.H → Q o W2.H) → t σ W.H Q
theorem p_none : OpX X Γ W0 none ρ (some none) := ⟨_, po_none, fun o hm W σ E Q k => by
  cases hm
  exact k W .refl E.ok⟩
theorem p_some {e : Expr} {m : Option Int} (h : EX X Γ W0 e ρ m) : OpX X Γ W0 (some e) ρ (m.bind fun i => some (some i)) := ⟨_, po_some pe_wp, fun o hm W σ E Q k => by
  obtain ⟨i, h1, hm⟩ := bindo hm
  cases hm
  refine h.run i h1 W σ E _ fun v W2 le ok i1 => ?_
  exact ⟨i, i1, k W2 le ok⟩⟩
def cutM {α : Type} (xs : List α) (lo hi : Option Int) : Option (List α) := some (cutL lo hi xs)
theorem o_cut {α : Type} [Rep α] {e : Expr} {lo hi : Option Expr} {p2 pos : Pos} {m : Option (List α)} {ml mh : Option (Option Int)} (h : LX X Γ W0 e ρ m) (hl : OpX X Γ W0 lo ρ ml) (hh : OpX X Γ W0 hi ρ mh)
    (hp : ∀ {tl th : TO}, PO X lo tl → PO X hi th → PE X (.Subscript e (.Slice lo hi none p2) pos) (tSl (rSlL X.K) (wpE X e) tl th) := by intro _ _ a b; exact pe_slice sl_list pe_wp a b) :
    OX X Γ W0 (.Subscript e (.Slice lo hi none p2) pos) ρ (M3 cutM m ml mh) := ⟨fun z hm W σ E Q k => by
  obtain ⟨xs, h1, hm⟩ := bindo hm
  obtain ⟨a, h2, hm⟩ := bindo hm
  obtain ⟨b, h3, hm⟩ := bindo hm
  cases hm
  obtain ⟨tl, pl, kl⟩ := hl.run
  obtain ⟨th, ph, kh⟩ := hh.run
  refine wp_of (hp pl ph) ?_
  refine h.run xs h1 W σ E _ fun p vs W2 le ok q i1 => ?_
  refine kl a h2 W2 σ (E.mono le ok) _ fun W3 le2 ok2 => ?_
  refine kh b h3 W3 σ (E.mono (le.trans le2) ok2) _ fun W4 le3 ok3 => ?_
  have le4 := (le.trans le2).trans le3
  refine ⟨p, vs, rfl, SqL.of ((le2.trans le3).h _ _ q), fun p' hp' => ?_⟩
  exact k p' _ ⟨W4.F, upd W4.H p' (.lst (cutV vs a b))⟩ (le4.trans (.new hp')) (ok_new ok3 hp') (le4.free hp') (ok3.none_of hp') upd_same ((i1.mono (le2.trans le3).f).cut a b)⟩

/-! ### lists -/
def catM {α : Type} (xs ys : List α) : Option (List α) := if ((xs ++ ys).length : Int) < cap then some (xs ++ ys) else none
theorem o_cat {α : Type} [Rep α] {a b : Expr} {pos : Pos} {ma mb : Option (List α)} (ha : LX X Γ W0 a ρ ma) (hb : LX X Γ W0 b ρ mb) : OX X Γ W0 (.BinOp a .Add b pos) ρ (M2 catM ma mb) := ⟨fun z hm W σ E Q k => by
  obtain ⟨xs, h1, hm⟩ := bindo hm
  obtain ⟨ys, h2, hm⟩ := bindo hm
  unfold catM at hm
  split at hm
  · rename_i hc
    cases hm
    refine wp_of (pe_op op_cat pe_wp pe_wp) ?_
    refine ha.run xs h1 W σ E _ fun p vs W2 le ok q i1 => ?_
    refine hb.run ys h2 W2 σ (E.mono le ok) _ fun p2 us W3 le2 ok2 q2 i2 => ?_
    have le3 := le.trans le2
    refine ⟨p, p2, vs, us, rfl, rfl, le2.h _ _ q, q2, ?_, fun p' hp' => ?_⟩
    · have := cap_ok hc
      rw [List.length_append] at this
      rw [i1.len, i2.len]
      omega
    · exact k p' _ ⟨W3.F, upd W3.H p' (.lst (vs ++ us))⟩ (le3.trans (.new hp')) (ok_new ok2 hp') (le3.free hp') (ok2.none_of hp') upd_same ((i1.mono le2.f).append i2)
  · cases hm⟩
def repM {α : Type} (xs : List α) (n : Int) : Option (List α) := if -cap < n ∧ n < cap ∧ (xs.length * n.toNat : Nat) < cap then some (List.replicate n.toNat xs).flatten else none
theorem IsAll.rep {α : Type} [Rep α] {F : Hp} {vs : List V} {xs : List α} (h : IsAll Γ F vs xs) : ∀ n, IsAll Γ F (List.replicate n vs).flatten (List.replicate n xs).flatten
  | 0 => .nil
  | n + 1 => by
    rw [List.replicate_succ, List.replicate_succ, List.flatten_cons, List.flatten_cons]
    exact IsAll.append h (IsAll.rep h n)
theorem o_rep {α : Type} [Rep α] {a b : Expr} {pos : Pos} {ma : Option (List α)} {mb : Option Int} (ha : LX X Γ W0 a ρ ma) (hb : EX X Γ W0 b ρ mb) : OX X Γ W0 (.BinOp a .Mult b pos) ρ (M2 repM ma mb) := ⟨fun z hm W σ E Q k => by
  obtain ⟨xs, h1, hm⟩ := bindo hm
  obtain ⟨n, h2, hm⟩ := bindo hm
  unfold repM at hm
  split at hm
  · rename_i hc
    cases hm
    obtain ⟨c1, c2, c3⟩ := hc
    refine wp_of (pe_op op_rep pe_wp pe_wp) ?_
    refine ha.run xs h1 W σ E _ fun p vs W2 le ok q i1 => ?_
    refine hb.run n h2 W2 σ (E.mono le ok) _ fun u W3 le2 ok2 i2 => ?_
    have e : u = .int n := i2
    subst e
    have le3 := le.trans le2
    have c3' := cap_ok c3
    unfold cap at c1 c2
    refine ⟨p, n, vs, rfl, rfl, le2.h _ _ q, by omega, by omega, by rw [i1.len]; omega, fun p' hp' => ?_⟩
    exact k p' _ ⟨W3.F, upd W3.H p' _⟩ (le3.trans (.new hp')) (ok_new ok2 hp') (le3.free hp') (ok2.none_of hp') upd_same (IsAll.rep (i1.mono le2.f) _)
  · cases hm⟩
/-- -a -/
theorem x_neg {a : Expr} {pos : Pos} {ma : Option Int} (ha : EX X Γ W0 a ρ ma) : EX X Γ W0 (.UnaryOp .USub a pos) ρ (ma.bind fun i => some (-i)) := ⟨fun z hm W σ E Q k => by
  obtain ⟨x, h1, hm⟩ := bindo hm
  cases hm
  refine wp_of (pe_un un_neg pe_wp) ?_
  refine ha.run x h1 W σ E _ fun v W2 le ok i1 => ?_
  have e : v = .int x := i1
  subst e
  exact ⟨x, rfl, k _ W2 le ok rfl⟩⟩

/-! ### built-in functions -/
/-- a built-in's reading at one value -/
def lenM {α : Type} (xs : List α) : Option Int := some xs.length
theorem x_len {α : Type} [Rep α] {e : Expr} {p pos : Pos} {m : Option (List α)} (hM : X.mg "len" = none) (h : LX X Γ W0 e ρ m) (hg : Gl X "len" := by rfl) (he : starEach [e] X.env = [(false, eval e X.env)] := by rfl)
    (hp : Gl X "len" → X.mg "len" = none → PE X (.Call (.Name "len" p) [e] [] pos) (tCB (fun xs H Q => ∃ p ys, xs = [.ref p] ∧ (SqL X.K H p ys ∨ SqT X.K H p ys) ∧ Q (.int ys.length) H) (tCons (wpE X e) tNil)) := by intro hg hM; exact pe_callB call_len_seq hg hM PySem.boot_len (pa_cons pe_wp pa_nil)) : EX X Γ W0 (.Call (.Name "len" p) [e] [] pos) ρ (M1 lenM m) := ⟨fun z hm W σ E Q k => by
  obtain ⟨xs, h1, hm⟩ := bindo hm
  cases hm
  refine wp_of (hp hg hM) ?_
  refine h.run xs h1 W σ E _ fun a vs W2 le ok q i1 => ?_
  exact ⟨a, vs, rfl, .inl (SqL.of q), k _ W2 le ok (by show V.int _ = V.int _; rw [i1.len])⟩⟩
theorem x_lenT {α : Type} [Rep α] {e : Expr} {p pos : Pos} {m : Option (Tup α)} (hM : X.mg "len" = none) (h : EX X Γ W0 e ρ m) (hg : Gl X "len" := by rfl) (he : starEach [e] X.env = [(false, eval e X.env)] := by rfl)
    (hp : Gl X "len" → X.mg "len" = none → PE X (.Call (.Name "len" p) [e] [] pos) (tCB (fun xs H Q => ∃ p ys, xs = [.ref p] ∧ (SqL X.K H p ys ∨ SqT X.K H p ys) ∧ Q (.int ys.length) H) (tCons (wpE X e) tNil)) := by intro hg hM; exact pe_callB call_len_seq hg hM PySem.boot_len (pa_cons pe_wp pa_nil)) : EX X Γ W0 (.Call (.Name "len" p) [e] [] pos) ρ (M1 (fun t => lenM t.xs) m) := ⟨fun z hm W σ E Q k => by
  obtain ⟨xs, h1, hm⟩ := bindo hm
  cases hm
  refine wp_of (hp hg hM) ?_
  refine h.run xs h1 W σ E _ fun a W2 le ok ⟨a', vs, e1, q, i1⟩ => ?_
  subst e1
  exact ⟨a', vs, rfl, .inr (SqT.of (ok.tup q)), k _ W2 le ok (by show V.int _ = V.int _; rw [i1.len])⟩⟩
theorem all_ints {F : Hp} {vs : List V} {ns : List Int} (h : IsAll Γ F vs ns) : vs = ns.map V.int := by
  induction h with
  | nil => rfl
  | cons r t ih =>
    rw [List.map_cons, ← ih]
    exact congrArg (· :: _) r
theorem all_bls {F : Hp} {vs : List V} {bs : List Bool} (h : IsAll Γ F vs bs) : vs = bs.map V.bl := by
  induction h with
  | nil => rfl
  | cons r t ih =>
    rw [List.map_cons, ← ih]
    exact congrArg (· :: _) r
theorem ints_all {F : Hp} : ∀ ns : List Int, IsAll Γ F (ns.map V.int) ns
  | [] => .nil
  | n :: ns => .cons rfl (ints_all ns)
def sumM (xs : List Int) : Option Int := some xs.sum
def allM (xs : List Bool) : Option Bool := some (xs.all id)
def anyM (xs : List Bool) : Option Bool := some (xs.any id)
theorem x_sum {e : Expr} {p pos : Pos} {m : Option (List Int)} (hM : X.mg "sum" = none) (h : LX X Γ W0 e ρ m) (hg : Gl X "sum" := by rfl) (hc : X.calm = true := by rfl)
    (hp : X.calm = true → Gl X "sum" → X.mg "sum" = none → PE X (.Call (.Name "sum" p) [e] [] pos) (tCB (rSum X.K) (tCons (wpE X e) tNil)) := by intro hc hg hM; exact pe_callB (cr_sum hc) hg hM (by decide +kernel) (pa_cons pe_wp pa_nil)) : EX X Γ W0 (.Call (.Name "sum" p) [e] [] pos) ρ (M1 sumM m) := ⟨fun z hm W σ E Q k => by
  obtain ⟨xs, h1, hm⟩ := bindo hm
  cases hm
  refine wp_of (hp hc hg hM) ?_
  refine h.run xs h1 W σ E _ fun a vs W2 le ok q i1 => ?_
  have e := all_ints i1
  subst e
  exact ⟨a, xs, rfl, SqL.of q, k _ W2 le ok rfl⟩⟩
theorem x_all {e : Expr} {p pos : Pos} {m : Option (List Bool)} (hM : X.mg "all" = none) (h : LX X Γ W0 e ρ m) (hg : Gl X "all" := by rfl) (hc : X.calm = true := by rfl)
    (hp : X.calm = true → Gl X "all" → X.mg "all" = none → PE X (.Call (.Name "all" p) [e] [] pos) (tCB (rAll X.K) (tCons (wpE X e) tNil)) := by intro hc hg hM; exact pe_callB (cr_all hc) hg hM (by decide +kernel) (pa_cons pe_wp pa_nil)) : EX X Γ W0 (.Call (.Name "all" p) [e] [] pos) ρ (M1 allM m) := ⟨fun z hm W σ E Q k => by
  obtain ⟨xs, h1, hm⟩ := bindo hm
  cases hm
  refine wp_of (hp hc hg hM) ?_
  refine h.run xs h1 W σ E _ fun a vs W2 le ok q i1 => ?_
  have e := all_bls i1
  subst e
  exact ⟨a, xs, rfl, SqL.of q, k _ W2 le ok rfl⟩⟩
theorem x_any {e : Expr} {p pos : Pos} {m : Option (List Bool)} (hM : X.mg "any" = none) (h : LX X Γ W0 e ρ m) (hg : Gl X "any" := by rfl) (hc : X.calm = true := by rfl)
    (hp : X.calm = true → Gl X "any" → X.mg "any" = none → PE X (.Call (.Name "any" p) [e] [] pos) (tCB (rAny X.K) (tCons (wpE X e) tNil)) := by intro hc hg hM; exact pe_callB (cr_any hc) hg hM (by decide +kernel) (pa_cons pe_wp pa_nil)) : EX X Γ W0 (.Call (.Name "any" p) [e] [] pos) ρ (M1 anyM m) := ⟨fun z hm W σ E Q k => by
  obtain ⟨xs, h1, hm⟩ := bindo hm
  cases hm
  refine wp_of (hp hc hg hM) ?_
  refine h.run xs h1 W σ E _ fun a vs W2 le ok q i1 => ?_
  have e := all_bls i1
  subst e
  exact ⟨a, xs, rfl, SqL.of q, k _ W2 le ok rfl⟩⟩
/-- the least, the greatest -/
def minL : List Int → Option Int
  | [] => none
  | x :: xs => some (xs.foldl (fun a b => if b < a then b else a) x)
def maxL : List Int → Option Int
  | [] => none
  | x :: xs => some (xs.foldl (fun a b => if a < b then b else a) x)
theorem minL_spec : ∀ (xs : List Int) (x : Int), xs.foldl (fun a b => if b < a then b else a) x ∈ x :: xs ∧ ∀ y ∈ x :: xs, xs.foldl (fun a b => if b < a then b else a) x ≤ y
  | [], x => ⟨by simp, by simp⟩
  | z :: zs, x => by
    obtain ⟨h1, h2⟩ := minL_spec zs (if z < x then z else x)
    rw [List.foldl_cons]
    have key : ∀ y ∈ x :: z :: zs, (if z < x then z else x) ≤ y ∨ y ∈ zs := fun y hy => by
      rcases List.mem_cons.mp hy with e | hy
      · subst e
        left
        split <;> omega
      · rcases List.mem_cons.mp hy with e | hy
        · subst e
          left
          split <;> omega
        · exact .inr hy
    refine ⟨?_, fun y hy => ?_⟩
    · rcases List.mem_cons.mp h1 with e | h
      · rw [e]
        split <;> simp
      · simp [h]
    · rcases key y hy with k | k
      · exact Int.le_trans (h2 _ (by simp)) k
      · exact h2 y (by simp [k])
theorem maxL_spec : ∀ (xs : List Int) (x : Int), xs.foldl (fun a b => if a < b then b else a) x ∈ x :: xs ∧ ∀ y ∈ x :: xs, y ≤ xs.foldl (fun a b => if a < b then b else a) x
  | [], x => ⟨by simp, by simp⟩
  | z :: zs, x => by
    obtain ⟨h1, h2⟩ := maxL_spec zs (if x < z then z else x)
    rw [List.foldl_cons]
    have key : ∀ y ∈ x :: z :: zs, y ≤ (if x < z then z else x) ∨ y ∈ zs := fun y hy => by
      rcases List.mem_cons.mp hy with e | hy
      · subst e
        left
        split <;> omega
      · rcases List.mem_cons.mp hy with e | hy
        · subst e
          left
          split <;> omega
        · exact .inr hy
    refine ⟨?_, fun y hy => ?_⟩
    · rcases List.mem_cons.mp h1 with e | h
      · rw [e]
        split <;> simp
      · simp [h]
    · rcases key y hy with k | k
      · exact Int.le_trans k (h2 _ (by simp))
      · exact h2 y (by simp [k])
theorem x_min {e : Expr} {p pos : Pos} {m : Option (List Int)} (hM : X.mg "min" = none) (h : LX X Γ W0 e ρ m) (hg : Gl X "min" := by rfl) (hc : X.calm = true := by rfl)
    (hp : X.calm = true → Gl X "min" → X.mg "min" = none → PE X (.Call (.Name "min" p) [e] [] pos) (tCB (rMin X.K) (tCons (wpE X e) tNil)) := by intro hc hg hM; exact pe_callB (cr_min hc) hg hM (by decide +kernel) (pa_cons pe_wp pa_nil)) : EX X Γ W0 (.Call (.Name "min" p) [e] [] pos) ρ (M1 minL m) := ⟨fun z hm W σ E Q k => by
  obtain ⟨xs, h1, hm⟩ := bindo hm
  cases xs with
  | nil => cases hm
  | cons x xs =>
    cases hm
    refine wp_of (hp hc hg hM) ?_
    refine h.run _ h1 W σ E _ fun a vs W2 le ok q i1 => ?_
    have e := all_ints i1
    subst e
    refine ⟨a, x :: xs, rfl, SqL.of q, by simp, fun m' g1 g2 => ?_⟩
    obtain ⟨s1, s2⟩ := minL_spec xs x
    have e : m' = xs.foldl (fun a b => if b < a then b else a) x := by
      have a1 := g2 _ s1
      have a2 := s2 _ g1
      omega
    rw [e]
    exact k _ W2 le ok rfl⟩
theorem x_max {e : Expr} {p pos : Pos} {m : Option (List Int)} (hM : X.mg "max" = none) (h : LX X Γ W0 e ρ m) (hg : Gl X "max" := by rfl) (hc : X.calm = true := by rfl)
    (hp : X.calm = true → Gl X "max" → X.mg "max" = none → PE X (.Call (.Name "max" p) [e] [] pos) (tCB (rMax X.K) (tCons (wpE X e) tNil)) := by intro hc hg hM; exact pe_callB (cr_max hc) hg hM (by decide +kernel) (pa_cons pe_wp pa_nil)) : EX X Γ W0 (.Call (.Name "max" p) [e] [] pos) ρ (M1 maxL m) := ⟨fun z hm W σ E Q k => by
  obtain ⟨xs, h1, hm⟩ := bindo hm
  cases xs with
  | nil => cases hm
  | cons x xs =>
    cases hm
    refine wp_of (hp hc hg hM) ?_
    refine h.run _ h1 W σ E _ fun a vs W2 le ok q i1 => ?_
    have e := all_ints i1
    subst e
    refine ⟨a, x :: xs, rfl, SqL.of q, by simp, fun m' g1 g2 => ?_⟩
    obtain ⟨s1, s2⟩ := maxL_spec xs x
    have e : m' = xs.foldl (fun a b => if a < b then b else a) x := by
      have a1 := g2 _ s1
      have a2 := s2 _ g1
      omega
    rw [e]
    exact k _ W2 le ok rfl⟩
def max2I (i j : Int) : Option Int := some (if j > i then j else i)
theorem x_max2 {a b : Expr} {p pos : Pos} {ma mb : Option Int} (hM : X.mg "max" = none) (ha : EX X Γ W0 a ρ ma) (hb : EX X Γ W0 b ρ mb) (hg : Gl X "max" := by rfl) (hc : X.calm = true := by rfl)
    (hp : X.calm = true → Gl X "max" → X.mg "max" = none → PE X (.Call (.Name "max" p) [a, b] [] pos) (tCB (fun xs H Q => ∃ i j, xs = [.int i, .int j] ∧ Q (.int (if j > i then j else i)) H) (tCons (wpE X a) (tCons (wpE X b) tNil))) := by intro hc hg hM; exact pe_callB (call_max2 hc) hg hM (by decide +kernel) (pa_cons pe_wp (pa_cons pe_wp pa_nil))) : EX X Γ W0 (.Call (.Name "max" p) [a, b] [] pos) ρ (M2 max2I ma mb) := ⟨fun z hm W σ E Q k => by
  obtain ⟨x, h1, hm⟩ := bindo hm
  obtain ⟨y, h2, hm⟩ := bindo hm
  cases hm
  refine wp_of (hp hc hg hM) ?_
  refine ha.run x h1 W σ E _ fun v W2 le ok i1 => ?_
  have e : v = .int x := i1
  subst e
  refine hb.run y h2 W2 σ (E.mono le ok) _ fun u W3 le2 ok2 i2 => ?_
  have e : u = .int y := i2
  subst e
  exact ⟨x, y, rfl, k _ W3 (le.trans le2) ok2 rfl⟩⟩
def absI (i : Int) : Option Int := some (if i < 0 then -i else i)
theorem x_abs {e : Expr} {p pos : Pos} {m : Option Int} (hM : X.mg "abs" = none) (h : EX X Γ W0 e ρ m) (hg : Gl X "abs" := by rfl)
    (hp : Gl X "abs" → X.mg "abs" = none → PE X (.Call (.Name "abs" p) [e] [] pos) (tCB (fun xs H Q => ∃ i, xs = [.int i] ∧ Q (.int (if i < 0 then -i else i)) H) (tCons (wpE X e) tNil)) := by intro hg hM; exact pe_callB call_abs hg hM (by decide +kernel) (pa_cons pe_wp pa_nil)) : EX X Γ W0 (.Call (.Name "abs" p) [e] [] pos) ρ (M1 absI m) := ⟨fun z hm W σ E Q k => by
  obtain ⟨x, h1, hm⟩ := bindo hm
  cases hm
  refine wp_of (hp hg hM) ?_
  refine h.run x h1 W σ E _ fun v W2 le ok i1 => ?_
  have e : v = .int x := i1
  subst e
  exact ⟨x, rfl, k _ W2 le ok rfl⟩⟩
def intI (i : Int) : Option Int := some i
def intB (b : Bool) : Option Int := some (if b = true then 1 else 0)
theorem x_intI {e : Expr} {p pos : Pos} {m : Option Int} (hM : X.mg "int" = none) (h : EX X Γ W0 e ρ m) (hg : Gl X "int" := by rfl)
    (hp : Gl X "int" → X.mg "int" = none → PE X (.Call (.Name "int" p) [e] [] pos) (tCB (fun xs H Q => (∃ i, xs = [.int i] ∧ Q (.int i) H) ∨ ∃ k, xs = [.bl k] ∧ Q (.int (if k then 1 else 0)) H) (tCons (wpE X e) tNil)) := by intro hg hM; exact pe_callTy call_int1 hg hM (by decide +kernel) (pa_cons pe_wp pa_nil)) : EX X Γ W0 (.Call (.Name "int" p) [e] [] pos) ρ (M1 intI m) := ⟨fun z hm W σ E Q k => by
  obtain ⟨x, h1, hm⟩ := bindo hm
  have ez : x = z := Option.some.inj hm
  subst ez
  refine wp_of (hp hg hM) ?_
  refine h.run x h1 W σ E _ fun v W2 le ok i1 => ?_
  have e : v = .int x := i1
  subst e
  exact .inl ⟨x, rfl, k _ W2 le ok rfl⟩⟩
theorem x_intB {e : Expr} {p pos : Pos} {m : Option Bool} (hM : X.mg "int" = none) (h : EX X Γ W0 e ρ m) (hg : Gl X "int" := by rfl)
    (hp : Gl X "int" → X.mg "int" = none → PE X (.Call (.Name "int" p) [e] [] pos) (tCB (fun xs H Q => (∃ i, xs = [.int i] ∧ Q (.int i) H) ∨ ∃ k, xs = [.bl k] ∧ Q (.int (if k then 1 else 0)) H) (tCons (wpE X e) tNil)) := by intro hg hM; exact pe_callTy call_int1 hg hM (by decide +kernel) (pa_cons pe_wp pa_nil)) : EX X Γ W0 (.Call (.Name "int" p) [e] [] pos) ρ (M1 intB m) := ⟨fun z hm W σ E Q k => by
  obtain ⟨x, h1, hm⟩ := bindo hm
  cases hm
  refine wp_of (hp hg hM) ?_
  refine h.run x h1 W σ E _ fun v W2 le ok i1 => ?_
  have e : v = .bl x := i1
  subst e
  exact .inr ⟨x, rfl, k _ W2 le ok rfl⟩⟩
/-- list(xs) -/
theorem o_list {α : Type} [Rep α] {e : Expr} {p pos : Pos} {m : Option (List α)} (hM : X.mg "list" = none) (h : LX X Γ W0 e ρ m) (hg : Gl X "list" := by rfl)
    (hp : Gl X "list" → X.mg "list" = none → PE X (.Call (.Name "list" p) [e] [] pos) (tCB (fun xs H Q => ∃ p ys, xs = [.ref p] ∧ (SqL X.K H p ys ∨ SqT X.K H p ys) ∧ ∀ l, H l = none → Q (.ref l) (upd H l (.lst ys))) (tCons (wpE X e) tNil)) := by intro hg hM; exact pe_callTy call_list_of hg hM (by decide +kernel) (pa_cons pe_wp pa_nil)) : OX X Γ W0 (.Call (.Name "list" p) [e] [] pos) ρ m := ⟨fun xs hm W σ E Q k => by
  refine wp_of (hp hg hM) ?_
  refine h.run xs hm W σ E _ fun a vs W2 le ok q i1 => ⟨a, vs, rfl, .inl (SqL.of q), fun p' hp' => ?_⟩
  exact k p' _ ⟨W2.F, upd W2.H p' _⟩ (le.trans (.new hp')) (ok_new ok hp') (le.free hp') (ok.none_of hp') upd_same i1⟩
theorem o_listT {α : Type} [Rep α] {e : Expr} {p pos : Pos} {m : Option (Tup α)} (hM : X.mg "list" = none) (h : EX X Γ W0 e ρ m) (hg : Gl X "list" := by rfl)
    (hp : Gl X "list" → X.mg "list" = none → PE X (.Call (.Name "list" p) [e] [] pos) (tCB (fun xs H Q => ∃ p ys, xs = [.ref p] ∧ (SqL X.K H p ys ∨ SqT X.K H p ys) ∧ ∀ l, H l = none → Q (.ref l) (upd H l (.lst ys))) (tCons (wpE X e) tNil)) := by intro hg hM; exact pe_callTy call_list_of hg hM (by decide +kernel) (pa_cons pe_wp pa_nil)) : OX X Γ W0 (.Call (.Name "list" p) [e] [] pos) ρ (m.bind fun t => some t.xs) := ⟨fun xs hm W σ E Q k => by
  obtain ⟨x, h1, hm⟩ := bindo hm
  cases hm
  refine wp_of (hp hg hM) ?_
  refine h.run x h1 W σ E _ fun a W2 le ok ⟨a', vs, e1, q, i1⟩ => ⟨a', vs, by rw [e1], .inr (SqT.of (ok.tup q)), fun p' hp' => ?_⟩
  exact k p' _ ⟨W2.F, upd W2.H p' _⟩ (le.trans (.new hp')) (ok_new ok hp') (le.free hp') (ok.none_of hp') upd_same i1⟩
theorem x_tupleL {α : Type} [Rep α] {e : Expr} {p pos : Pos} {m : Option (List α)} (hM : X.mg "tuple" = none) (h : LX X Γ W0 e ρ m) (hg : Gl X "tuple" := by rfl)
    (hp : Gl X "tuple" → X.mg "tuple" = none → PE X (.Call (.Name "tuple" p) [e] [] pos) (tCB (fun xs H Q => ∃ p ys, xs = [.ref p] ∧ ((SqL X.K H p ys ∧ ∀ l, H l = none → Q (.ref l) (upd H l (.tup ys))) ∨ (SqT X.K H p ys ∧ Q (.ref p) H))) (tCons (wpE X e) tNil)) := by intro hg hM; exact pe_callTy call_tuple_of hg hM (by decide +kernel) (pa_cons pe_wp pa_nil)) : EX X Γ W0 (.Call (.Name "tuple" p) [e] [] pos) ρ (m.bind fun xs => some (Tup.mk xs)) := ⟨fun x hm W σ E Q k => by
  obtain ⟨xs, h1, hm⟩ := bindo hm
  cases hm
  refine wp_of (hp hg hM) ?_
  refine h.run xs h1 W σ E _ fun a vs W2 le ok q i1 => ⟨a, vs, rfl, .inl ⟨SqL.of q, fun p' hp' => ?_⟩⟩
  obtain ⟨l1, l2, l3⟩ := tup_new (vs := vs) ok hp'
  exact k (.ref p') _ (le.trans l1) l2 ⟨p', vs, rfl, upd_same, i1.mono l3⟩⟩
/-! sorted of whole numbers -/
def insI (x : Int) : List Int → List Int
  | [] => [x]
  | y :: ys => if x ≤ y then x :: y :: ys else y :: insI x ys
def sortI : List Int → List Int
  | [] => []
  | x :: xs => insI x (sortI xs)
theorem insI_perm (x : Int) : ∀ ys, (insI x ys).Perm (x :: ys)
  | [] => .refl _
  | y :: ys => by
    unfold insI
    split
    · exact .refl _
    · exact ((insI_perm x ys).cons y).trans (.swap x y ys)
theorem sortI_perm : ∀ xs, (sortI xs).Perm xs
  | [] => .refl _
  | x :: xs => (insI_perm x _).trans ((sortI_perm xs).cons x)
theorem insI_pw (x : Int) : ∀ ys, ys.Pairwise (· ≤ ·) → (insI x ys).Pairwise (· ≤ ·)
  | [], _ => by simp [insI]
  | y :: ys, h => by
    obtain ⟨h1, h2⟩ := List.pairwise_cons.mp h
    unfold insI
    split
    · rename_i hxy
      refine List.pairwise_cons.mpr ⟨fun z hz => ?_, h⟩
      rcases List.mem_cons.mp hz with e | hz
      · rw [e]; exact hxy
      · exact Int.le_trans hxy (h1 z hz)
    · rename_i hxy
      refine List.pairwise_cons.mpr ⟨fun z hz => ?_, insI_pw x ys h2⟩
      rcases List.mem_cons.mp ((insI_perm x ys).mem_iff.mp hz) with e | hz
      · omega
      · exact h1 z hz
theorem sortI_pw : ∀ xs, (sortI xs).Pairwise (· ≤ ·)
  | [] => .nil
  | x :: xs => insI_pw x _ (sortI_pw xs)
theorem sorted_eq {xs ys : List Int} (p : xs.Perm ys) (h1 : xs.Pairwise (· ≤ ·)) (h2 : ys.Pairwise (· ≤ ·)) : xs = ys :=
  List.Perm.eq_of_pairwise (fun a b _ _ h h' => Int.le_antisymm h h') h1 h2 p
def sortM (xs : List Int) : Option (List Int) := some (sortI xs)
theorem o_sorted {e : Expr} {p pos : Pos} {m : Option (List Int)} (hM : X.mg "sorted" = none) (h : LX X Γ W0 e ρ m) (hg : Gl X "sorted" := by rfl)
    (hp : Gl X "sorted" → X.mg "sorted" = none → PE X (.Call (.Name "sorted" p) [e] [] pos) (tCB (rSortedI X.K) (tCons (wpE X e) tNil)) := by intro hg hM; exact pe_callB cr_sortedI hg hM (by decide +kernel) (pa_cons pe_wp pa_nil)) : OX X Γ W0 (.Call (.Name "sorted" p) [e] [] pos) ρ (M1 sortM m) := ⟨fun xs hm W σ E Q k => by
  obtain ⟨ys, h1, hm⟩ := bindo hm
  cases hm
  refine wp_of (hp hg hM) ?_
  refine h.run ys h1 W σ E _ fun a vs W2 le ok q i1 => ?_
  have e := all_ints i1
  subst e
  refine ⟨a, ys, rfl, SqL.of q, fun ns' p' g1 g2 hp' => ?_⟩
  have e : ns' = sortI ys := sorted_eq (g1.trans (sortI_perm ys).symm) g2 (sortI_pw ys)
  subst e
  exact k p' _ ⟨W2.F, upd W2.H p' _⟩ (le.trans (.new hp')) (ok_new ok hp') (le.free hp') (ok.none_of hp') upd_same (ints_all _)⟩
end
end SR
end
section
set_option Elab.async false
set_option linter.all false
set_option maxRecDepth 100000
set_option maxHeartbeats 4000000
namespace SR
open PySem PySem.Spec PyProof.Rows L2

abbrev M5 {α β γ δ ε ζ : Type} (f : α → β → γ → δ → ε → Option ζ) (a : Option α) (b : Option β) (c : Option γ) (d : Option δ) (e : Option ε) : Option ζ := a.bind fun x => b.bind fun y => c.bind fun z => d.bind fun w => e.bind fun u => f x y z w u

/-! ### records: instances that no longer change -/
def ixOf (f : Str) : List Str → Option Nat
  | [] => none
  | k :: ks => if f = k then some 0 else (ixOf f ks).map (· + 1)
/-- instances of a class of the text, by their attributes in order -/
class Rec (R : Type) where
  c : Cs → Addr
  ks : List Str
  ds : R → List Dat
abbrev RecIs {R : Type} [Rec R] (Γ : Cs) (F : Hp) (v : V) (r : R) : Prop :=
  ∃ a dx vs, v = .ref a ∧ F a = some (.ins (Rec.c (R := R) Γ) dx vs) ∧ vs.map (·.1) = Rec.ks (R := R) ∧ AllP (fun (q : Str × V) (d : Dat) => d.is Γ F q.2) vs (Rec.ds r)
instance {R : Type} [Rec R] : Rep R := ⟨fun Γ F v r => RecIs Γ F v r,
  fun e ⟨a, dx, vs, h1, h2, h3, h4⟩ => ⟨a, dx, vs, h1, e.ins h2, h3, h4.imp fun _ _ q => Dat.mono e q⟩⟩
instance {R : Type} [Rec R] : NotNone R := ⟨fun ⟨_, _, _, h, _⟩ q => by rw [h] at q; cases q⟩
theorem lookup_none {f : Str} : ∀ {vs : List (Str × V)} {ks : List Str}, vs.map (·.1) = ks → ixOf f ks = none → vs.lookup f = none
  | [], _, _, _ => rfl
  | (g, v) :: vs, ks, h, e => by
    subst h
    have e' : (if f = g then some 0 else (ixOf f (vs.map (·.1))).map (· + 1)) = none := e
    by_cases z : f = g
    · rw [if_pos z] at e'
      cases e'
    · rw [if_neg z] at e'
      have e2 : ixOf f (vs.map (·.1)) = none := by
        cases q : ixOf f (vs.map (·.1)) with
        | none => rfl
        | some n =>
          rw [q] at e'
          cases e'
      show (match f == g with | true => some v | false => vs.lookup f) = none
      rw [show (f == g) = false from beq_eq_false_iff_ne.mpr z]
      exact lookup_none rfl e2
theorem lookup_some {f : Str} : ∀ {vs : List (Str × V)} {ks : List Str} {n : Nat}, vs.map (·.1) = ks → ixOf f ks = some n → ∃ v, vs[n]? = some (f, v) ∧ vs.lookup f = some v
  | [], ks, n, h, e => by
    subst h
    cases e
  | (g, v) :: vs, ks, n, h, e => by
    subst h
    have e' : (if f = g then some 0 else (ixOf f (vs.map (·.1))).map (· + 1)) = some n := e
    by_cases z : f = g
    · rw [if_pos z] at e'
      cases e'
      subst z
      refine ⟨v, rfl, ?_⟩
      show (match f == f with | true => some v | false => vs.lookup f) = some v
      rw [show (f == f) = true from beq_self_eq_true f]
    · rw [if_neg z] at e'
      cases q : ixOf f (vs.map (·.1)) with
      | none =>
        rw [q] at e'
        cases e'
      | some m =>
        rw [q] at e'
        cases e'
        obtain ⟨w, h1, h2⟩ := lookup_some rfl q
        refine ⟨w, h1, ?_⟩
        show (match f == g with | true => some v | false => vs.lookup f) = some w
        rw [show (f == g) = false from beq_eq_false_iff_ne.mpr z]
        exact h2
theorem AllP.at {α : Type u} {β : Type v} {R : α → β → Prop} {as : List α} {bs : List β} (h : AllP R as bs) : ∀ {i : Nat} {a : α} {b : β}, as[i]? = some a → bs[i]? = some b → R a b := by
  induction h with
  | nil => intro i a b h1; simp at h1
  | cons r t ih =>
    intro i a b h1 h2
    cases i with
    | zero =>
      have e1 := Option.some.inj (by simpa using h1)
      have e2 := Option.some.inj (by simpa using h2)
      subst e1 e2
      exact r
    | succ i => exact ih (by simpa using h1) (by simpa using h2)
theorem putF_new {f : Str} {y : V} : ∀ {vs : List (Str × V)}, ixOf f (vs.map (·.1)) = none → putF f y vs = vs ++ [(f, y)]
  | [], _ => rfl
  | (g, v) :: vs, e => by
    have e' : (if f = g then some 0 else (ixOf f (vs.map (·.1))).map (· + 1)) = none := e
    by_cases z : f = g
    · rw [if_pos z] at e'
      cases e'
    · rw [if_neg z] at e'
      have e2 : ixOf f (vs.map (·.1)) = none := by
        cases q : ixOf f (vs.map (·.1)) with
        | none => rfl
        | some n =>
          rw [q] at e'
          cases e'
      have ih := putF_new (y := y) e2
      show (if g = f then _ else (g, v) :: putF f y vs) = _
      rw [if_neg (fun q => z q.symm), ih]
      rfl
/-- the heap without the instance that is made -/
def rem (p dx : Addr) (H : Hp) : Hp := fun b => if b = p ∨ b = dx then none else H b
theorem made_le {C : Addr} {W : Wd} {p dx : Addr} (ok : HLe W.F W.H) (h1 : W.H p = none) (h2 : W.H dx = none) (h3 : dx ≠ p) :
    HLe W.F (upd (upd W.H dx (.own p)) p (.ins C dx [])) ∧ rem p dx (upd (upd W.H dx (.own p)) p (.ins C dx [])) = W.H ∧ True := by
  refine ⟨fun a u e => ?_, ?_, trivial⟩
  · have z1 : a ≠ p := ne_of_none e (ok.none_of h1)
    have z2 : a ≠ dx := ne_of_none e (ok.none_of h2)
    rw [upd_ne z1, upd_ne z2]
    exact ok a u e
  · funext b
    unfold rem
    by_cases z1 : b = p
    · rw [if_pos (.inl z1), z1, h1]
    · by_cases z2 : b = dx
      · rw [if_pos (.inr z2), z2, h2]
      · rw [if_neg (fun q => q.elim z1 z2), upd_ne z1, upd_ne z2]

/-! ### parameters: frozen, or only read -/
class Par (α : Type) where
  isP : Cs → Wd → V → α → Prop
  sl : α → Slot
  mono : ∀ {Γ : Cs} {W W' : Wd} {v : V} {x : α}, W.le W' → isP Γ W v x → isP Γ W' v x
  ok : ∀ {Γ : Cs} {W : Wd} {v : V} {x : α}, isP Γ W v x → SlotOk Γ W W (sl x) (some v)
  no : ∀ x : α, (sl x).own = false
abbrev IsP {α : Type} [Par α] (Γ : Cs) (W : Wd) (v : V) (x : α) : Prop := Par.isP Γ W v x
instance {α : Type} [Rep α] : Par α := ⟨fun Γ W v x => Is Γ W.F v x, fun x => fz x, fun le h => Rep.mono le.f h, fun h => ⟨_, rfl, h⟩, fun _ => rfl⟩
/-- a list that is only read -/
structure RdL (α : Type) where
  xs : List α
instance {α : Type} [Rep α] : Par (RdL α) := ⟨fun Γ W v x => ∃ a vs, v = .ref a ∧ W.H a = some (.lst vs) ∧ IsAll Γ W.F vs x.xs, fun x => .rd x.xs,
  fun le ⟨a, vs, h1, h2, h3⟩ => ⟨a, vs, h1, le.h _ _ h2, h3.mono le.f⟩, fun ⟨a, vs, h1, h2, h3⟩ => ⟨a, vs, by rw [h1], h2, h3⟩, fun _ => rfl⟩
structure PX (X : Cx) (Γ : Cs) (W0 : Wd) (e : Expr) (ρ : List Slot) {α : Type} [Par α] (m : Option α) : Prop where
  run : ∀ x, m = some x → ∀ W σ, EnvOk Γ W0 W ρ σ → ∀ Q : VK, (∀ v W2, W.le W2 → HLe W2.F W2.H → IsP Γ W2 v x → Q v W2.H) → wpE X e σ W.H Q
def rdM {α : Type} (xs : List α) : Option (RdL α) := some ⟨xs⟩
section
variable {X : Cx} {Γ : Cs} {W0 : Wd} {ρ : List Slot} {α : Type} [Rep α] {e : Expr}
theorem EX.p {m : Option α} (h : EX X Γ W0 e ρ m) : PX X Γ W0 e ρ m := ⟨fun x hm W σ E Q k => h.run x hm W σ E Q k⟩
theorem LX.p {m : Option (List α)} (h : LX X Γ W0 e ρ m) : PX X Γ W0 e ρ (M1 rdM m) := ⟨fun x hm W σ E Q k => by
  obtain ⟨xs, h1, hm⟩ := bindo hm
  cases hm
  exact h.run xs h1 W σ E Q fun a vs W2 le ok q i => k (.ref a) W2 le ok ⟨a, vs, rfl, q, i⟩⟩
end

/-! ### what may be called -/
section
variable (P : Program) (w : World) (K : PySem.W.Frag) (mg : Str → Option Value) (base : Heap)
structure CalF (k : Nat) (x : Str) (sp : Sp) : Prop where
  ex : ∃ (f : Addr) (fd : FuncData) (ps : List Str), FnOk P w K mg base CX0 k f fd ps sp ∧ mg x = some (.ref f) ∧ PySem.W.keepIn K (.ref f) = true ∧ Binds K fd ps []
structure MetF (k : Nat) (C : Addr) (m : Str) (sp : Sp) : Prop where
  ex : ∃ (f : Addr) (fd : FuncData) (ps : List Str), Cls K C ∧ Meth K C m f ∧ FnOk P w K mg base CX0 k f fd ps sp ∧ Binds K fd ps [] ∧ PySem.W.fnIn K f = true
structure MakF (k : Nat) (x : Str) (C : Addr) (sp : Sp) : Prop where
  ex : ∃ (f : Addr) (fd : FuncData) (ps : List Str), Mk K C f ∧ FnOk P w K mg base CX0 k f fd ps sp ∧ mg x = some (.ref C) ∧ Binds K fd ps []
end
def sp1 (Γ : Cs) {α R : Type} [Par α] (K : Wd → RK R) (f : α → Option R) : Sp := fun vs H Q _ => ∃ (W : Wd) (v1 : V) (x1 : α) (y : R), vs = [v1] ∧ W.H = H ∧ HLe W.F W.H ∧ IsP Γ W v1 x1 ∧ f x1 = some y ∧ ∀ w W2, W.le W2 → HLe W2.F W2.H → K W w W2 y → Q w W2.H
def si1 (Γ : Cs) (C : Addr) {α R : Type} [Rep α] [Rep R] (f : α → Option R) : Sp := fun vs H Q _ => ∃ (W : Wd) (p dx : Addr) (v1 : V) (x1 : α) (y : R), vs = [.ref p, v1] ∧ W.H = H ∧ HLe W.F W.H ∧ W.F p = none ∧ H p = some (.ins C dx []) ∧ Is Γ W.F v1 x1 ∧ f x1 = some y ∧ ∀ W2, (Wd.mk W.F (rem p dx W.H)).le W2 → HLe W2.F W2.H → Is Γ W2.F (.ref p) y → Q .non W2.H
def sp2 (Γ : Cs) {α β R : Type} [Par α] [Par β] (K : Wd → RK R) (f : α → β → Option R) : Sp := fun vs H Q _ => ∃ (W : Wd) (v1 v2 : V) (x1 : α) (x2 : β) (y : R), vs = [v1, v2] ∧ W.H = H ∧ HLe W.F W.H ∧ IsP Γ W v1 x1 ∧ IsP Γ W v2 x2 ∧ f x1 x2 = some y ∧ ∀ w W2, W.le W2 → HLe W2.F W2.H → K W w W2 y → Q w W2.H
def si2 (Γ : Cs) (C : Addr) {α β R : Type} [Rep α] [Rep β] [Rep R] (f : α → β → Option R) : Sp := fun vs H Q _ => ∃ (W : Wd) (p dx : Addr) (v1 v2 : V) (x1 : α) (x2 : β) (y : R), vs = [.ref p, v1, v2] ∧ W.H = H ∧ HLe W.F W.H ∧ W.F p = none ∧ H p = some (.ins C dx []) ∧ Is Γ W.F v1 x1 ∧ Is Γ W.F v2 x2 ∧ f x1 x2 = some y ∧ ∀ W2, (Wd.mk W.F (rem p dx W.H)).le W2 → HLe W2.F W2.H → Is Γ W2.F (.ref p) y → Q .non W2.H
def sp3 (Γ : Cs) {α β γ R : Type} [Par α] [Par β] [Par γ] (K : Wd → RK R) (f : α → β → γ → Option R) : Sp := fun vs H Q _ => ∃ (W : Wd) (v1 v2 v3 : V) (x1 : α) (x2 : β) (x3 : γ) (y : R), vs = [v1, v2, v3] ∧ W.H = H ∧ HLe W.F W.H ∧ IsP Γ W v1 x1 ∧ IsP Γ W v2 x2 ∧ IsP Γ W v3 x3 ∧ f x1 x2 x3 = some y ∧ ∀ w W2, W.le W2 → HLe W2.F W2.H → K W w W2 y → Q w W2.H
def si3 (Γ : Cs) (C : Addr) {α β γ R : Type} [Rep α] [Rep β] [Rep γ] [Rep R] (f : α → β → γ → Option R) : Sp := fun vs H Q _ => ∃ (W : Wd) (p dx : Addr) (v1 v2 v3 : V) (x1 : α) (x2 : β) (x3 : γ) (y : R), vs = [.ref p, v1, v2, v3] ∧ W.H = H ∧ HLe W.F W.H ∧ W.F p = none ∧ H p = some (.ins C dx []) ∧ Is Γ W.F v1 x1 ∧ Is Γ W.F v2 x2 ∧ Is Γ W.F v3 x3 ∧ f x1 x2 x3 = some y ∧ ∀ W2, (Wd.mk W.F (rem p dx W.H)).le W2 → HLe W2.F W2.H → Is Γ W2.F (.ref p) y → Q .non W2.H
def sp4 (Γ : Cs) {α β γ δ R : Type} [Par α] [Par β] [Par γ] [Par δ] (K : Wd → RK R) (f : α → β → γ → δ → Option R) : Sp := fun vs H Q _ => ∃ (W : Wd) (v1 v2 v3 v4 : V) (x1 : α) (x2 : β) (x3 : γ) (x4 : δ) (y : R), vs = [v1, v2, v3, v4] ∧ W.H = H ∧ HLe W.F W.H ∧ IsP Γ W v1 x1 ∧ IsP Γ W v2 x2 ∧ IsP Γ W v3 x3 ∧ IsP Γ W v4 x4 ∧ f x1 x2 x3 x4 = some y ∧ ∀ w W2, W.le W2 → HLe W2.F W2.H → K W w W2 y → Q w W2.H
def si4 (Γ : Cs) (C : Addr) {α β γ δ R : Type} [Rep α] [Rep β] [Rep γ] [Rep δ] [Rep R] (f : α → β → γ → δ → Option R) : Sp := fun vs H Q _ => ∃ (W : Wd) (p dx : Addr) (v1 v2 v3 v4 : V) (x1 : α) (x2 : β) (x3 : γ) (x4 : δ) (y : R), vs = [.ref p, v1, v2, v3, v4] ∧ W.H = H ∧ HLe W.F W.H ∧ W.F p = none ∧ H p = some (.ins C dx []) ∧ Is Γ W.F v1 x1 ∧ Is Γ W.F v2 x2 ∧ Is Γ W.F v3 x3 ∧ Is Γ W.F v4 x4 ∧ f x1 x2 x3 x4 = some y ∧ ∀ W2, (Wd.mk W.F (rem p dx W.H)).le W2 → HLe W2.F W2.H → Is Γ W2.F (.ref p) y → Q .non W2.H
def sp5 (Γ : Cs) {α β γ δ ε R : Type} [Par α] [Par β] [Par γ] [Par δ] [Par ε] (K : Wd → RK R) (f : α → β → γ → δ → ε → Option R) : Sp := fun vs H Q _ => ∃ (W : Wd) (v1 v2 v3 v4 v5 : V) (x1 : α) (x2 : β) (x3 : γ) (x4 : δ) (x5 : ε) (y : R), vs = [v1, v2, v3, v4, v5] ∧ W.H = H ∧ HLe W.F W.H ∧ IsP Γ W v1 x1 ∧ IsP Γ W v2 x2 ∧ IsP Γ W v3 x3 ∧ IsP Γ W v4 x4 ∧ IsP Γ W v5 x5 ∧ f x1 x2 x3 x4 x5 = some y ∧ ∀ w W2, W.le W2 → HLe W2.F W2.H → K W w W2 y → Q w W2.H
def si5 (Γ : Cs) (C : Addr) {α β γ δ ε R : Type} [Rep α] [Rep β] [Rep γ] [Rep δ] [Rep ε] [Rep R] (f : α → β → γ → δ → ε → Option R) : Sp := fun vs H Q _ => ∃ (W : Wd) (p dx : Addr) (v1 v2 v3 v4 v5 : V) (x1 : α) (x2 : β) (x3 : γ) (x4 : δ) (x5 : ε) (y : R), vs = [.ref p, v1, v2, v3, v4, v5] ∧ W.H = H ∧ HLe W.F W.H ∧ W.F p = none ∧ H p = some (.ins C dx []) ∧ Is Γ W.F v1 x1 ∧ Is Γ W.F v2 x2 ∧ Is Γ W.F v3 x3 ∧ Is Γ W.F v4 x4 ∧ Is Γ W.F v5 x5 ∧ f x1 x2 x3 x4 x5 = some y ∧ ∀ W2, (Wd.mk W.F (rem p dx W.H)).le W2 → HLe W2.F W2.H → Is Γ W2.F (.ref p) y → Q .non W2.H
section
variable {X : Cx} {Γ : Cs} {W0 : Wd} {ρ : List Slot}
theorem x_call1 {α : Type} [Par α] {R : Type} [Rep R] {e1 : Expr} {m1 : Option α} {f : α → Option (R)} {n : Str} {p pos : Pos} {k j : Nat} (c : CalF X.prog X.w X.K X.mg X.base k n (sp1 Γ (fun _ => kF Γ) f)) (hr : Room j X.A) (h1 : PX X Γ W0 e1 ρ m1) (hk : k ≤ j := by decide) (hg : Gl X n := by rfl)
    (hp : Room k X.A → Gl X n → ∀ {fa : Addr} {fd : FuncData} {ps : List Str} {sp : Sp}, FnOk X.prog X.w X.K X.mg X.base CX0 k fa fd ps sp → X.mg n = some (.ref fa) → PySem.W.keepIn X.K (.ref fa) = true → Binds X.K fd ps [] → PE X (.Call (.Name n p) [e1] [] pos) (tCall sp [] E0 (tCons (wpE X e1) tNil)) := by intro r g _ _ _ _ F a b c; exact pe_call F r g a b c .nil pass0 (pa_cons pe_wp pa_nil)) :
    EX X Γ W0 (.Call (.Name n p) [e1] [] pos) ρ (M1 f m1) := ⟨fun z hm W σ E Q k => by
  obtain ⟨x1, g1, hm⟩ := bindo hm
  obtain ⟨fa, fd, ps, F, c1, c2, c3⟩ := c.ex
  refine wp_of (hp (hr.mono hk) hg F c1 c2 c3) ?_
  refine h1.run x1 g1 W σ E _ fun v1 W2 le1 ok1 i1 => ?_
  exact ⟨W2, v1, x1, z, rfl, rfl, ok1, i1, hm, fun w W8 le8 ok8 i8 => k w W8 (le1.trans le8) ok8 i8⟩⟩
theorem x_meth1 {α : Type} [Rec α]  {R : Type} [Rep R] {e1 : Expr} {m1 : Option α} {f : α → Option (R)} {n : Str} {apos pos : Pos} {k j : Nat} (c : MetF X.prog X.w X.K X.mg X.base k (Rec.c (R := α) Γ) n (sp1 Γ (fun _ => kF Γ) f)) (hr : Room j X.A) (h1 : PX X Γ W0 e1 ρ m1) (hnk : ixOf n (Rec.ks (R := α)) = none := by decide +kernel) (hk : k ≤ j := by decide) 
    (hp : Room k X.A → ∀ {fa : Addr} {fd : FuncData} {ps : List Str} {sp : Sp}, Cls X.K (Rec.c (R := α) Γ) → Meth X.K (Rec.c (R := α) Γ) n fa → FnOk X.prog X.w X.K X.mg X.base CX0 k fa fd ps sp → Binds X.K fd ps [] → PE X (.Call (.Attribute e1 n apos) [] [] pos) (tMeth (Rec.c (R := α) Γ) n sp [] E0 (wpE X e1) (tNil)) := by intro r _ _ _ _ a b F d; exact pe_meth0 pe_wp a b F r d .nil pass0) :
    EX X Γ W0 (.Call (.Attribute e1 n apos) [] [] pos) ρ (M1 f m1) := ⟨fun z hm W σ E Q k => by
  obtain ⟨x1, g1, hm⟩ := bindo hm
  obtain ⟨fa, fd, ps, c0, c1, F, c2, _⟩ := c.ex
  refine wp_of (hp (hr.mono hk) c0 c1 F c2) ?_
  refine h1.run x1 g1 W σ E _ fun v1 W2 le1 ok1 i1 => ?_
  obtain ⟨pa, dx, us, q1, q2, q3, q4⟩ := id i1
  refine ⟨pa, dx, us, q1, ok1.ins q2, lookup_none q3 hnk, ?_⟩
  exact ⟨W2, v1, x1, z, rfl, rfl, ok1, i1, hm, fun w W8 le8 ok8 i8 => k w W8 (le1.trans le8) ok8 i8⟩⟩
theorem o_call1 {α : Type} [Par α] {R : Type} [Rep R] {e1 : Expr} {m1 : Option α} {f : α → Option (List R)} {n : Str} {p pos : Pos} {k j : Nat} (c : CalF X.prog X.w X.K X.mg X.base k n (sp1 Γ (fun W => kO Γ W) f)) (hr : Room j X.A) (h1 : PX X Γ W0 e1 ρ m1) (hk : k ≤ j := by decide) (hg : Gl X n := by rfl)
    (hp : Room k X.A → Gl X n → ∀ {fa : Addr} {fd : FuncData} {ps : List Str} {sp : Sp}, FnOk X.prog X.w X.K X.mg X.base CX0 k fa fd ps sp → X.mg n = some (.ref fa) → PySem.W.keepIn X.K (.ref fa) = true → Binds X.K fd ps [] → PE X (.Call (.Name n p) [e1] [] pos) (tCall sp [] E0 (tCons (wpE X e1) tNil)) := by intro r g _ _ _ _ F a b c; exact pe_call F r g a b c .nil pass0 (pa_cons pe_wp pa_nil)) :
    OX X Γ W0 (.Call (.Name n p) [e1] [] pos) ρ (M1 f m1) := ⟨fun z hm W σ E Q k => by
  obtain ⟨x1, g1, hm⟩ := bindo hm
  obtain ⟨fa, fd, ps, F, c1, c2, c3⟩ := c.ex
  refine wp_of (hp (hr.mono hk) hg F c1 c2 c3) ?_
  refine h1.run x1 g1 W σ E _ fun v1 W2 le1 ok1 i1 => ?_
  exact ⟨W2, v1, x1, z, rfl, rfl, ok1, i1, hm, fun w W8 le8 ok8 ⟨p, ws, e8, h8, h9, h10, h11⟩ => by
    subst e8
    exact k p ws W8 (le1.trans le8) ok8 (le1.free h8) h9 h10 h11⟩⟩
theorem o_meth1 {α : Type} [Rec α]  {R : Type} [Rep R] {e1 : Expr} {m1 : Option α} {f : α → Option (List R)} {n : Str} {apos pos : Pos} {k j : Nat} (c : MetF X.prog X.w X.K X.mg X.base k (Rec.c (R := α) Γ) n (sp1 Γ (fun W => kO Γ W) f)) (hr : Room j X.A) (h1 : PX X Γ W0 e1 ρ m1) (hnk : ixOf n (Rec.ks (R := α)) = none := by decide +kernel) (hk : k ≤ j := by decide) 
    (hp : Room k X.A → ∀ {fa : Addr} {fd : FuncData} {ps : List Str} {sp : Sp}, Cls X.K (Rec.c (R := α) Γ) → Meth X.K (Rec.c (R := α) Γ) n fa → FnOk X.prog X.w X.K X.mg X.base CX0 k fa fd ps sp → Binds X.K fd ps [] → PE X (.Call (.Attribute e1 n apos) [] [] pos) (tMeth (Rec.c (R := α) Γ) n sp [] E0 (wpE X e1) (tNil)) := by intro r _ _ _ _ a b F d; exact pe_meth0 pe_wp a b F r d .nil pass0) :
    OX X Γ W0 (.Call (.Attribute e1 n apos) [] [] pos) ρ (M1 f m1) := ⟨fun z hm W σ E Q k => by
  obtain ⟨x1, g1, hm⟩ := bindo hm
  obtain ⟨fa, fd, ps, c0, c1, F, c2, _⟩ := c.ex
  refine wp_of (hp (hr.mono hk) c0 c1 F c2) ?_
  refine h1.run x1 g1 W σ E _ fun v1 W2 le1 ok1 i1 => ?_
  obtain ⟨pa, dx, us, q1, q2, q3, q4⟩ := id i1
  refine ⟨pa, dx, us, q1, ok1.ins q2, lookup_none q3 hnk, ?_⟩
  exact ⟨W2, v1, x1, z, rfl, rfl, ok1, i1, hm, fun w W8 le8 ok8 ⟨p, ws, e8, h8, h9, h10, h11⟩ => by
    subst e8
    exact k p ws W8 (le1.trans le8) ok8 (le1.free h8) h9 h10 h11⟩⟩
theorem x_make1 {α : Type} [Rep α] {R : Type} [Rec R] {e1 : Expr} {m1 : Option α} {f : α → Option R} {n : Str} {p pos : Pos} {k j : Nat} (c : MakF X.prog X.w X.K X.mg X.base k n (Rec.c (R := R) Γ) (si1 Γ (Rec.c (R := R) Γ) f)) (hr : Room j X.A) (h1 : EX X Γ W0 e1 ρ m1) (hk : k + 1 ≤ j := by decide) (hg : Gl X n := by rfl)
    (hp : Room (k + 1) X.A → Gl X n → ∀ {fa : Addr} {fd : FuncData} {ps : List Str} {sp : Sp}, Mk X.K (Rec.c (R := R) Γ) fa → FnOk X.prog X.w X.K X.mg X.base CX0 k fa fd ps sp → X.mg n = some (.ref (Rec.c (R := R) Γ)) → Binds X.K fd ps [] → PE X (.Call (.Name n p) [e1] [] pos) (tMake (Rec.c (R := R) Γ) sp [] E0 (tCons (wpE X e1) tNil)) := by intro r g _ _ _ _ m F a c; exact pe_make m F r g a c .nil pass0 (pa_cons pe_wp pa_nil)) :
    EX X Γ W0 (.Call (.Name n p) [e1] [] pos) ρ (M1 f m1) := ⟨fun z hm W σ E Q k => by
  obtain ⟨x1, g1, hm⟩ := bindo hm
  obtain ⟨fa, fd, ps, m, F, c1, c2⟩ := c.ex
  refine wp_of (hp (hr.mono hk) hg m F c1 c2) ?_
  refine h1.run x1 g1 W σ E _ fun v1 W2 le1 ok1 i1 => ?_
  intro pp dx hpp hdx hne
  obtain ⟨w1, w2, w3⟩ := made_le (C := Rec.c (R := R) Γ) ok1 hpp hdx hne
  refine ⟨⟨W2.F, upd (upd W2.H dx (.own pp)) pp (.ins _ dx [])⟩, pp, dx, v1, x1, z, rfl, rfl, w1, ok1.none_of hpp, upd_same, i1, hm, fun W8 le8 ok8 i8 => ⟨rfl, ?_⟩⟩
  refine k _ W8 (le1.trans ?_) ok8 i8
  rw [show W2 = Wd.mk W2.F (rem pp dx (upd (upd W2.H dx (.own pp)) pp (.ins _ dx []))) by rw [w2]]
  exact le8⟩
theorem x_call2 {α β : Type} [Par α] [Par β] {R : Type} [Rep R] {e1 e2 : Expr} {m1 : Option α} {m2 : Option β} {f : α → β → Option (R)} {n : Str} {p pos : Pos} {k j : Nat} (c : CalF X.prog X.w X.K X.mg X.base k n (sp2 Γ (fun _ => kF Γ) f)) (hr : Room j X.A) (h1 : PX X Γ W0 e1 ρ m1) (h2 : PX X Γ W0 e2 ρ m2) (hk : k ≤ j := by decide) (hg : Gl X n := by rfl)
    (hp : Room k X.A → Gl X n → ∀ {fa : Addr} {fd : FuncData} {ps : List Str} {sp : Sp}, FnOk X.prog X.w X.K X.mg X.base CX0 k fa fd ps sp → X.mg n = some (.ref fa) → PySem.W.keepIn X.K (.ref fa) = true → Binds X.K fd ps [] → PE X (.Call (.Name n p) [e1, e2] [] pos) (tCall sp [] E0 (tCons (wpE X e1) (tCons (wpE X e2) tNil))) := by intro r g _ _ _ _ F a b c; exact pe_call F r g a b c .nil pass0 (pa_cons pe_wp (pa_cons pe_wp pa_nil))) :
    EX X Γ W0 (.Call (.Name n p) [e1, e2] [] pos) ρ (M2 f m1 m2) := ⟨fun z hm W σ E Q k => by
  obtain ⟨x1, g1, hm⟩ := bindo hm
  obtain ⟨x2, g2, hm⟩ := bindo hm
  obtain ⟨fa, fd, ps, F, c1, c2, c3⟩ := c.ex
  refine wp_of (hp (hr.mono hk) hg F c1 c2 c3) ?_
  refine h1.run x1 g1 W σ E _ fun v1 W2 le1 ok1 i1 => ?_
  refine h2.run x2 g2 W2 σ (E.mono le1 ok1) _ fun v2 W3 le2 ok2 i2 => ?_
  exact ⟨W3, v1, v2, x1, x2, z, rfl, rfl, ok2, (Par.mono le2 i1), i2, hm, fun w W8 le8 ok8 i8 => k w W8 ((le1.trans le2).trans le8) ok8 i8⟩⟩
theorem x_meth2 {α β : Type} [Rec α] [Par β] {R : Type} [Rep R] {e1 e2 : Expr} {m1 : Option α} {m2 : Option β} {f : α → β → Option (R)} {n : Str} {apos pos : Pos} {k j : Nat} (c : MetF X.prog X.w X.K X.mg X.base k (Rec.c (R := α) Γ) n (sp2 Γ (fun _ => kF Γ) f)) (hr : Room j X.A) (h1 : PX X Γ W0 e1 ρ m1) (h2 : PX X Γ W0 e2 ρ m2) (hnk : ixOf n (Rec.ks (R := α)) = none := by decide +kernel) (hk : k ≤ j := by decide) 
    (hp : Room k X.A → ∀ {fa : Addr} {fd : FuncData} {ps : List Str} {sp : Sp}, Cls X.K (Rec.c (R := α) Γ) → Meth X.K (Rec.c (R := α) Γ) n fa → FnOk X.prog X.w X.K X.mg X.base CX0 k fa fd ps sp → Binds X.K fd ps [] → PE X (.Call (.Attribute e1 n apos) [e2] [] pos) (tMeth (Rec.c (R := α) Γ) n sp [] E0 (wpE X e1) (tCons (wpE X e2) tNil)) := by intro r _ _ _ _ a b F d; exact pe_meth pe_wp a b F r d .nil pass0 (pa_cons pe_wp pa_nil)) :
    EX X Γ W0 (.Call (.Attribute e1 n apos) [e2] [] pos) ρ (M2 f m1 m2) := ⟨fun z hm W σ E Q k => by
  obtain ⟨x1, g1, hm⟩ := bindo hm
  obtain ⟨x2, g2, hm⟩ := bindo hm
  obtain ⟨fa, fd, ps, c0, c1, F, c2, _⟩ := c.ex
  refine wp_of (hp (hr.mono hk) c0 c1 F c2) ?_
  refine h1.run x1 g1 W σ E _ fun v1 W2 le1 ok1 i1 => ?_
  obtain ⟨pa, dx, us, q1, q2, q3, q4⟩ := id i1
  refine ⟨pa, dx, us, q1, ok1.ins q2, lookup_none q3 hnk, ?_⟩
  refine h2.run x2 g2 W2 σ (E.mono le1 ok1) _ fun v2 W3 le2 ok2 i2 => ?_
  exact ⟨W3, v1, v2, x1, x2, z, rfl, rfl, ok2, (Par.mono le2 i1), i2, hm, fun w W8 le8 ok8 i8 => k w W8 ((le1.trans le2).trans le8) ok8 i8⟩⟩
theorem o_call2 {α β : Type} [Par α] [Par β] {R : Type} [Rep R] {e1 e2 : Expr} {m1 : Option α} {m2 : Option β} {f : α → β → Option (List R)} {n : Str} {p pos : Pos} {k j : Nat} (c : CalF X.prog X.w X.K X.mg X.base k n (sp2 Γ (fun W => kO Γ W) f)) (hr : Room j X.A) (h1 : PX X Γ W0 e1 ρ m1) (h2 : PX X Γ W0 e2 ρ m2) (hk : k ≤ j := by decide) (hg : Gl X n := by rfl)
    (hp : Room k X.A → Gl X n → ∀ {fa : Addr} {fd : FuncData} {ps : List Str} {sp : Sp}, FnOk X.prog X.w X.K X.mg X.base CX0 k fa fd ps sp → X.mg n = some (.ref fa) → PySem.W.keepIn X.K (.ref fa) = true → Binds X.K fd ps [] → PE X (.Call (.Name n p) [e1, e2] [] pos) (tCall sp [] E0 (tCons (wpE X e1) (tCons (wpE X e2) tNil))) := by intro r g _ _ _ _ F a b c; exact pe_call F r g a b c .nil pass0 (pa_cons pe_wp (pa_cons pe_wp pa_nil))) :
    OX X Γ W0 (.Call (.Name n p) [e1, e2] [] pos) ρ (M2 f m1 m2) := ⟨fun z hm W σ E Q k => by
  obtain ⟨x1, g1, hm⟩ := bindo hm
  obtain ⟨x2, g2, hm⟩ := bindo hm
  obtain ⟨fa, fd, ps, F, c1, c2, c3⟩ := c.ex
  refine wp_of (hp (hr.mono hk) hg F c1 c2 c3) ?_
  refine h1.run x1 g1 W σ E _ fun v1 W2 le1 ok1 i1 => ?_
  refine h2.run x2 g2 W2 σ (E.mono le1 ok1) _ fun v2 W3 le2 ok2 i2 => ?_
  exact ⟨W3, v1, v2, x1, x2, z, rfl, rfl, ok2, (Par.mono le2 i1), i2, hm, fun w W8 le8 ok8 ⟨p, ws, e8, h8, h9, h10, h11⟩ => by
    subst e8
    exact k p ws W8 ((le1.trans le2).trans le8) ok8 ((le1.trans le2).free h8) h9 h10 h11⟩⟩
theorem o_meth2 {α β : Type} [Rec α] [Par β] {R : Type} [Rep R] {e1 e2 : Expr} {m1 : Option α} {m2 : Option β} {f : α → β → Option (List R)} {n : Str} {apos pos : Pos} {k j : Nat} (c : MetF X.prog X.w X.K X.mg X.base k (Rec.c (R := α) Γ) n (sp2 Γ (fun W => kO Γ W) f)) (hr : Room j X.A) (h1 : PX X Γ W0 e1 ρ m1) (h2 : PX X Γ W0 e2 ρ m2) (hnk : ixOf n (Rec.ks (R := α)) = none := by decide +kernel) (hk : k ≤ j := by decide) 
    (hp : Room k X.A → ∀ {fa : Addr} {fd : FuncData} {ps : List Str} {sp : Sp}, Cls X.K (Rec.c (R := α) Γ) → Meth X.K (Rec.c (R := α) Γ) n fa → FnOk X.prog X.w X.K X.mg X.base CX0 k fa fd ps sp → Binds X.K fd ps [] → PE X (.Call (.Attribute e1 n apos) [e2] [] pos) (tMeth (Rec.c (R := α) Γ) n sp [] E0 (wpE X e1) (tCons (wpE X e2) tNil)) := by intro r _ _ _ _ a b F d; exact pe_meth pe_wp a b F r d .nil pass0 (pa_cons pe_wp pa_nil)) :
    OX X Γ W0 (.Call (.Attribute e1 n apos) [e2] [] pos) ρ (M2 f m1 m2) := ⟨fun z hm W σ E Q k => by
  obtain ⟨x1, g1, hm⟩ := bindo hm
  obtain ⟨x2, g2, hm⟩ := bindo hm
  obtain ⟨fa, fd, ps, c0, c1, F, c2, _⟩ := c.ex
  refine wp_of (hp (hr.mono hk) c0 c1 F c2) ?_
  refine h1.run x1 g1 W σ E _ fun v1 W2 le1 ok1 i1 => ?_
  obtain ⟨pa, dx, us, q1, q2, q3, q4⟩ := id i1
  refine ⟨pa, dx, us, q1, ok1.ins q2, lookup_none q3 hnk, ?_⟩
  refine h2.run x2 g2 W2 σ (E.mono le1 ok1) _ fun v2 W3 le2 ok2 i2 => ?_
  exact ⟨W3, v1, v2, x1, x2, z, rfl, rfl, ok2, (Par.mono le2 i1), i2, hm, fun w W8 le8 ok8 ⟨p, ws, e8, h8, h9, h10, h11⟩ => by
    subst e8
    exact k p ws W8 ((le1.trans le2).trans le8) ok8 ((le1.trans le2).free h8) h9 h10 h11⟩⟩
theorem x_make2 {α β : Type} [Rep α] [Rep β] {R : Type} [Rec R] {e1 e2 : Expr} {m1 : Option α} {m2 : Option β} {f : α → β → Option R} {n : Str} {p pos : Pos} {k j : Nat} (c : MakF X.prog X.w X.K X.mg X.base k n (Rec.c (R := R) Γ) (si2 Γ (Rec.c (R := R) Γ) f)) (hr : Room j X.A) (h1 : EX X Γ W0 e1 ρ m1) (h2 : EX X Γ W0 e2 ρ m2) (hk : k + 1 ≤ j := by decide) (hg : Gl X n := by rfl)
    (hp : Room (k + 1) X.A → Gl X n → ∀ {fa : Addr} {fd : FuncData} {ps : List Str} {sp : Sp}, Mk X.K (Rec.c (R := R) Γ) fa → FnOk X.prog X.w X.K X.mg X.base CX0 k fa fd ps sp → X.mg n = some (.ref (Rec.c (R := R) Γ)) → Binds X.K fd ps [] → PE X (.Call (.Name n p) [e1, e2] [] pos) (tMake (Rec.c (R := R) Γ) sp [] E0 (tCons (wpE X e1) (tCons (wpE X e2) tNil))) := by intro r g _ _ _ _ m F a c; exact pe_make m F r g a c .nil pass0 (pa_cons pe_wp (pa_cons pe_wp pa_nil))) :
    EX X Γ W0 (.Call (.Name n p) [e1, e2] [] pos) ρ (M2 f m1 m2) := ⟨fun z hm W σ E Q k => by
  obtain ⟨x1, g1, hm⟩ := bindo hm
  obtain ⟨x2, g2, hm⟩ := bindo hm
  obtain ⟨fa, fd, ps, m, F, c1, c2⟩ := c.ex
  refine wp_of (hp (hr.mono hk) hg m F c1 c2) ?_
  refine h1.run x1 g1 W σ E _ fun v1 W2 le1 ok1 i1 => ?_
  refine h2.run x2 g2 W2 σ (E.mono le1 ok1) _ fun v2 W3 le2 ok2 i2 => ?_
  intro pp dx hpp hdx hne
  obtain ⟨w1, w2, w3⟩ := made_le (C := Rec.c (R := R) Γ) ok2 hpp hdx hne
  refine ⟨⟨W3.F, upd (upd W3.H dx (.own pp)) pp (.ins _ dx [])⟩, pp, dx, v1, v2, x1, x2, z, rfl, rfl, w1, ok2.none_of hpp, upd_same, (Rep.mono le2.f i1), i2, hm, fun W8 le8 ok8 i8 => ⟨rfl, ?_⟩⟩
  refine k _ W8 ((le1.trans le2).trans ?_) ok8 i8
  rw [show W3 = Wd.mk W3.F (rem pp dx (upd (upd W3.H dx (.own pp)) pp (.ins _ dx []))) by rw [w2]]
  exact le8⟩
theorem x_call3 {α β γ : Type} [Par α] [Par β] [Par γ] {R : Type} [Rep R] {e1 e2 e3 : Expr} {m1 : Option α} {m2 : Option β} {m3 : Option γ} {f : α → β → γ → Option (R)} {n : Str} {p pos : Pos} {k j : Nat} (c : CalF X.prog X.w X.K X.mg X.base k n (sp3 Γ (fun _ => kF Γ) f)) (hr : Room j X.A) (h1 : PX X Γ W0 e1 ρ m1) (h2 : PX X Γ W0 e2 ρ m2) (h3 : PX X Γ W0 e3 ρ m3) (hk : k ≤ j := by decide) (hg : Gl X n := by rfl)
    (hp : Room k X.A → Gl X n → ∀ {fa : Addr} {fd : FuncData} {ps : List Str} {sp : Sp}, FnOk X.prog X.w X.K X.mg X.base CX0 k fa fd ps sp → X.mg n = some (.ref fa) → PySem.W.keepIn X.K (.ref fa) = true → Binds X.K fd ps [] → PE X (.Call (.Name n p) [e1, e2, e3] [] pos) (tCall sp [] E0 (tCons (wpE X e1) (tCons (wpE X e2) (tCons (wpE X e3) tNil)))) := by intro r g _ _ _ _ F a b c; exact pe_call F r g a b c .nil pass0 (pa_cons pe_wp (pa_cons pe_wp (pa_cons pe_wp pa_nil)))) :
    EX X Γ W0 (.Call (.Name n p) [e1, e2, e3] [] pos) ρ (M3 f m1 m2 m3) := ⟨fun z hm W σ E Q k => by
  obtain ⟨x1, g1, hm⟩ := bindo hm
  obtain ⟨x2, g2, hm⟩ := bindo hm
  obtain ⟨x3, g3, hm⟩ := bindo hm
  obtain ⟨fa, fd, ps, F, c1, c2, c3⟩ := c.ex
  refine wp_of (hp (hr.mono hk) hg F c1 c2 c3) ?_
  refine h1.run x1 g1 W σ E _ fun v1 W2 le1 ok1 i1 => ?_
  refine h2.run x2 g2 W2 σ (E.mono le1 ok1) _ fun v2 W3 le2 ok2 i2 => ?_
  refine h3.run x3 g3 W3 σ (E.mono (le1.trans le2) ok2) _ fun v3 W4 le3 ok3 i3 => ?_
  exact ⟨W4, v1, v2, v3, x1, x2, x3, z, rfl, rfl, ok3, (Par.mono (le2.trans le3) i1), (Par.mono le3 i2), i3, hm, fun w W8 le8 ok8 i8 => k w W8 (((le1.trans le2).trans le3).trans le8) ok8 i8⟩⟩
theorem x_meth3 {α β γ : Type} [Rec α] [Par β] [Par γ] {R : Type} [Rep R] {e1 e2 e3 : Expr} {m1 : Option α} {m2 : Option β} {m3 : Option γ} {f : α → β → γ → Option (R)} {n : Str} {apos pos : Pos} {k j : Nat} (c : MetF X.prog X.w X.K X.mg X.base k (Rec.c (R := α) Γ) n (sp3 Γ (fun _ => kF Γ) f)) (hr : Room j X.A) (h1 : PX X Γ W0 e1 ρ m1) (h2 : PX X Γ W0 e2 ρ m2) (h3 : PX X Γ W0 e3 ρ m3) (hnk : ixOf n (Rec.ks (R := α)) = none := by decide +kernel) (hk : k ≤ j := by decide) 
    (hp : Room k X.A → ∀ {fa : Addr} {fd : FuncData} {ps : List Str} {sp : Sp}, Cls X.K (Rec.c (R := α) Γ) → Meth X.K (Rec.c (R := α) Γ) n fa → FnOk X.prog X.w X.K X.mg X.base CX0 k fa fd ps sp → Binds X.K fd ps [] → PE X (.Call (.Attribute e1 n apos) [e2, e3] [] pos) (tMeth (Rec.c (R := α) Γ) n sp [] E0 (wpE X e1) (tCons (wpE X e2) (tCons (wpE X e3) tNil))) := by intro r _ _ _ _ a b F d; exact pe_meth pe_wp a b F r d .nil pass0 (pa_cons pe_wp (pa_cons pe_wp pa_nil))) :
    EX X Γ W0 (.Call (.Attribute e1 n apos) [e2, e3] [] pos) ρ (M3 f m1 m2 m3) := ⟨fun z hm W σ E Q k => by
  obtain ⟨x1, g1, hm⟩ := bindo hm
  obtain ⟨x2, g2, hm⟩ := bindo hm
  obtain ⟨x3, g3, hm⟩ := bindo hm
  obtain ⟨fa, fd, ps, c0, c1, F, c2, _⟩ := c.ex
  refine wp_of (hp (hr.mono hk) c0 c1 F c2) ?_
  refine h1.run x1 g1 W σ E _ fun v1 W2 le1 ok1 i1 => ?_
  obtain ⟨pa, dx, us, q1, q2, q3, q4⟩ := id i1
  refine ⟨pa, dx, us, q1, ok1.ins q2, lookup_none q3 hnk, ?_⟩
  refine h2.run x2 g2 W2 σ (E.mono le1 ok1) _ fun v2 W3 le2 ok2 i2 => ?_
  refine h3.run x3 g3 W3 σ (E.mono (le1.trans le2) ok2) _ fun v3 W4 le3 ok3 i3 => ?_
  exact ⟨W4, v1, v2, v3, x1, x2, x3, z, rfl, rfl, ok3, (Par.mono (le2.trans le3) i1), (Par.mono le3 i2), i3, hm, fun w W8 le8 ok8 i8 => k w W8 (((le1.trans le2).trans le3).trans le8) ok8 i8⟩⟩
theorem o_call3 {α β γ : Type} [Par α] [Par β] [Par γ] {R : Type} [Rep R] {e1 e2 e3 : Expr} {m1 : Option α} {m2 : Option β} {m3 : Option γ} {f : α → β → γ → Option (List R)} {n : Str} {p pos : Pos} {k j : Nat} (c : CalF X.prog X.w X.K X.mg X.base k n (sp3 Γ (fun W => kO Γ W) f)) (hr : Room j X.A) (h1 : PX X Γ W0 e1 ρ m1) (h2 : PX X Γ W0 e2 ρ m2) (h3 : PX X Γ W0 e3 ρ m3) (hk : k ≤ j := by decide) (hg : Gl X n := by rfl)
    (hp : Room k X.A → Gl X n → ∀ {fa : Addr} {fd : FuncData} {ps : List Str} {sp : Sp}, FnOk X.prog X.w X.K X.mg X.base CX0 k fa fd ps sp → X.mg n = some (.ref fa) → PySem.W.keepIn X.K (.ref fa) = true → Binds X.K fd ps [] → PE X (.Call (.Name n p) [e1, e2, e3] [] pos) (tCall sp [] E0 (tCons (wpE X e1) (tCons (wpE X e2) (tCons (wpE X e3) tNil)))) := by intro r g _ _ _ _ F a b c; exact pe_call F r g a b c .nil pass0 (pa_cons pe_wp (pa_cons pe_wp (pa_cons pe_wp pa_nil)))) :
    OX X Γ W0 (.Call (.Name n p) [e1, e2, e3] [] pos) ρ (M3 f m1 m2 m3) := ⟨fun z hm W σ E Q k => by
  obtain ⟨x1, g1, hm⟩ := bindo hm
  obtain ⟨x2, g2, hm⟩ := bindo hm
  obtain ⟨x3, g3, hm⟩ := bindo hm
  obtain ⟨fa, fd, ps, F, c1, c2, c3⟩ := c.ex
  refine wp_of (hp (hr.mono hk) hg F c1 c2 c3) ?_
  refine h1.run x1 g1 W σ E _ fun v1 W2 le1 ok1 i1 => ?_
  refine h2.run x2 g2 W2 σ (E.mono le1 ok1) _ fun v2 W3 le2 ok2 i2 => ?_
  refine h3.run x3 g3 W3 σ (E.mono (le1.trans le2) ok2) _ fun v3 W4 le3 ok3 i3 => ?_
  exact ⟨W4, v1, v2, v3, x1, x2, x3, z, rfl, rfl, ok3, (Par.mono (le2.trans le3) i1), (Par.mono le3 i2), i3, hm, fun w W8 le8 ok8 ⟨p, ws, e8, h8, h9, h10, h11⟩ => by
    subst e8
    exact k p ws W8 (((le1.trans le2).trans le3).trans le8) ok8 (((le1.trans le2).trans le3).free h8) h9 h10 h11⟩⟩
theorem o_meth3 {α β γ : Type} [Rec α] [Par β] [Par γ] {R : Type} [Rep R] {e1 e2 e3 : Expr} {m1 : Option α} {m2 : Option β} {m3 : Option γ} {f : α → β → γ → Option (List R)} {n : Str} {apos pos : Pos} {k j : Nat} (c : MetF X.prog X.w X.K X.mg X.base k (Rec.c (R := α) Γ) n (sp3 Γ (fun W => kO Γ W) f)) (hr : Room j X.A) (h1 : PX X Γ W0 e1 ρ m1) (h2 : PX X Γ W0 e2 ρ m2) (h3 : PX X Γ W0 e3 ρ m3) (hnk : ixOf n (Rec.ks (R := α)) = none := by decide +kernel) (hk : k ≤ j := by decide) 
    (hp : Room k X.A → ∀ {fa : Addr} {fd : FuncData} {ps : List Str} {sp : Sp}, Cls X.K (Rec.c (R := α) Γ) → Meth X.K (Rec.c (R := α) Γ) n fa → FnOk X.prog X.w X.K X.mg X.base CX0 k fa fd ps sp → Binds X.K fd ps [] → PE X (.Call (.Attribute e1 n apos) [e2, e3] [] pos) (tMeth (Rec.c (R := α) Γ) n sp [] E0 (wpE X e1) (tCons (wpE X e2) (tCons (wpE X e3) tNil))) := by intro r _ _ _ _ a b F d; exact pe_meth pe_wp a b F r d .nil pass0 (pa_cons pe_wp (pa_cons pe_wp pa_nil))) :
    OX X Γ W0 (.Call (.Attribute e1 n apos) [e2, e3] [] pos) ρ (M3 f m1 m2 m3) := ⟨fun z hm W σ E Q k => by
  obtain ⟨x1, g1, hm⟩ := bindo hm
  obtain ⟨x2, g2, hm⟩ := bindo hm
  obtain ⟨x3, g3, hm⟩ := bindo hm
  obtain ⟨fa, fd, ps, c0, c1, F, c2, _⟩ := c.ex
  refine wp_of (hp (hr.mono hk) c0 c1 F c2) ?_
  refine h1.run x1 g1 W σ E _ fun v1 W2 le1 ok1 i1 => ?_
  obtain ⟨pa, dx, us, q1, q2, q3, q4⟩ := id i1
  refine ⟨pa, dx, us, q1, ok1.ins q2, lookup_none q3 hnk, ?_⟩
  refine h2.run x2 g2 W2 σ (E.mono le1 ok1) _ fun v2 W3 le2 ok2 i2 => ?_
  refine h3.run x3 g3 W3 σ (E.mono (le1.trans le2) ok2) _ fun v3 W4 le3 ok3 i3 => ?_
  exact ⟨W4, v1, v2, v3, x1, x2, x3, z, rfl, rfl, ok3, (Par.mono (le2.trans le3) i1), (Par.mono le3 i2), i3, hm, fun w W8 le8 ok8 ⟨p, ws, e8, h8, h9, h10, h11⟩ => by
    subst e8
    exact k p ws W8 (((le1.trans le2).trans le3).trans le8) ok8 (((le1.trans le2).trans le3).free h8) h9 h10 h11⟩⟩
theorem x_make3 {α β γ : Type} [Rep α] [Rep β] [Rep γ] {R : Type} [Rec R] {e1 e2 e3 : Expr} {m1 : Option α} {m2 : Option β} {m3 : Option γ} {f : α → β → γ → Option R} {n : Str} {p pos : Pos} {k j : Nat} (c : MakF X.prog X.w X.K X.mg X.base k n (Rec.c (R := R) Γ) (si3 Γ (Rec.c (R := R) Γ) f)) (hr : Room j X.A) (h1 : EX X Γ W0 e1 ρ m1) (h2 : EX X Γ W0 e2 ρ m2) (h3 : EX X Γ W0 e3 ρ m3) (hk : k + 1 ≤ j := by decide) (hg : Gl X n := by rfl)
    (hp : Room (k + 1) X.A → Gl X n → ∀ {fa : Addr} {fd : FuncData} {ps : List Str} {sp : Sp}, Mk X.K (Rec.c (R := R) Γ) fa → FnOk X.prog X.w X.K X.mg X.base CX0 k fa fd ps sp → X.mg n = some (.ref (Rec.c (R := R) Γ)) → Binds X.K fd ps [] → PE X (.Call (.Name n p) [e1, e2, e3] [] pos) (tMake (Rec.c (R := R) Γ) sp [] E0 (tCons (wpE X e1) (tCons (wpE X e2) (tCons (wpE X e3) tNil)))) := by intro r g _ _ _ _ m F a c; exact pe_make m F r g a c .nil pass0 (pa_cons pe_wp (pa_cons pe_wp (pa_cons pe_wp pa_nil)))) :
    EX X Γ W0 (.Call (.Name n p) [e1, e2, e3] [] pos) ρ (M3 f m1 m2 m3) := ⟨fun z hm W σ E Q k => by
  obtain ⟨x1, g1, hm⟩ := bindo hm
  obtain ⟨x2, g2, hm⟩ := bindo hm
  obtain ⟨x3, g3, hm⟩ := bindo hm
  obtain ⟨fa, fd, ps, m, F, c1, c2⟩ := c.ex
  refine wp_of (hp (hr.mono hk) hg m F c1 c2) ?_
  refine h1.run x1 g1 W σ E _ fun v1 W2 le1 ok1 i1 => ?_
  refine h2.run x2 g2 W2 σ (E.mono le1 ok1) _ fun v2 W3 le2 ok2 i2 => ?_
  refine h3.run x3 g3 W3 σ (E.mono (le1.trans le2) ok2) _ fun v3 W4 le3 ok3 i3 => ?_
  intro pp dx hpp hdx hne
  obtain ⟨w1, w2, w3⟩ := made_le (C := Rec.c (R := R) Γ) ok3 hpp hdx hne
  refine ⟨⟨W4.F, upd (upd W4.H dx (.own pp)) pp (.ins _ dx [])⟩, pp, dx, v1, v2, v3, x1, x2, x3, z, rfl, rfl, w1, ok3.none_of hpp, upd_same, (Rep.mono (le2.f.trans le3.f) i1), (Rep.mono le3.f i2), i3, hm, fun W8 le8 ok8 i8 => ⟨rfl, ?_⟩⟩
  refine k _ W8 (((le1.trans le2).trans le3).trans ?_) ok8 i8
  rw [show W4 = Wd.mk W4.F (rem pp dx (upd (upd W4.H dx (.own pp)) pp (.ins _ dx []))) by rw [w2]]
  exact le8⟩
theorem x_call4 {α β γ δ : Type} [Par α] [Par β] [Par γ] [Par δ] {R : Type} [Rep R] {e1 e2 e3 e4 : Expr} {m1 : Option α} {m2 : Option β} {m3 : Option γ} {m4 : Option δ} {f : α → β → γ → δ → Option (R)} {n : Str} {p pos : Pos} {k j : Nat} (c : CalF X.prog X.w X.K X.mg X.base k n (sp4 Γ (fun _ => kF Γ) f)) (hr : Room j X.A) (h1 : PX X Γ W0 e1 ρ m1) (h2 : PX X Γ W0 e2 ρ m2) (h3 : PX X Γ W0 e3 ρ m3) (h4 : PX X Γ W0 e4 ρ m4) (hk : k ≤ j := by decide) (hg : Gl X n := by rfl)
    (hp : Room k X.A → Gl X n → ∀ {fa : Addr} {fd : FuncData} {ps : List Str} {sp : Sp}, FnOk X.prog X.w X.K X.mg X.base CX0 k fa fd ps sp → X.mg n = some (.ref fa) → PySem.W.keepIn X.K (.ref fa) = true → Binds X.K fd ps [] → PE X (.Call (.Name n p) [e1, e2, e3, e4] [] pos) (tCall sp [] E0 (tCons (wpE X e1) (tCons (wpE X e2) (tCons (wpE X e3) (tCons (wpE X e4) tNil))))) := by intro r g _ _ _ _ F a b c; exact pe_call F r g a b c .nil pass0 (pa_cons pe_wp (pa_cons pe_wp (pa_cons pe_wp (pa_cons pe_wp pa_nil))))) :
    EX X Γ W0 (.Call (.Name n p) [e1, e2, e3, e4] [] pos) ρ (M4 f m1 m2 m3 m4) := ⟨fun z hm W σ E Q k => by
  obtain ⟨x1, g1, hm⟩ := bindo hm
  obtain ⟨x2, g2, hm⟩ := bindo hm
  obtain ⟨x3, g3, hm⟩ := bindo hm
  obtain ⟨x4, g4, hm⟩ := bindo hm
  obtain ⟨fa, fd, ps, F, c1, c2, c3⟩ := c.ex
  refine wp_of (hp (hr.mono hk) hg F c1 c2 c3) ?_
  refine h1.run x1 g1 W σ E _ fun v1 W2 le1 ok1 i1 => ?_
  refine h2.run x2 g2 W2 σ (E.mono le1 ok1) _ fun v2 W3 le2 ok2 i2 => ?_
  refine h3.run x3 g3 W3 σ (E.mono (le1.trans le2) ok2) _ fun v3 W4 le3 ok3 i3 => ?_
  refine h4.run x4 g4 W4 σ (E.mono ((le1.trans le2).trans le3) ok3) _ fun v4 W5 le4 ok4 i4 => ?_
  exact ⟨W5, v1, v2, v3, v4, x1, x2, x3, x4, z, rfl, rfl, ok4, (Par.mono ((le2.trans le3).trans le4) i1), (Par.mono (le3.trans le4) i2), (Par.mono le4 i3), i4, hm, fun w W8 le8 ok8 i8 => k w W8 ((((le1.trans le2).trans le3).trans le4).trans le8) ok8 i8⟩⟩
theorem x_meth4 {α β γ δ : Type} [Rec α] [Par β] [Par γ] [Par δ] {R : Type} [Rep R] {e1 e2 e3 e4 : Expr} {m1 : Option α} {m2 : Option β} {m3 : Option γ} {m4 : Option δ} {f : α → β → γ → δ → Option (R)} {n : Str} {apos pos : Pos} {k j : Nat} (c : MetF X.prog X.w X.K X.mg X.base k (Rec.c (R := α) Γ) n (sp4 Γ (fun _ => kF Γ) f)) (hr : Room j X.A) (h1 : PX X Γ W0 e1 ρ m1) (h2 : PX X Γ W0 e2 ρ m2) (h3 : PX X Γ W0 e3 ρ m3) (h4 : PX X Γ W0 e4 ρ m4) (hnk : ixOf n (Rec.ks (R := α)) = none := by decide +kernel) (hk : k ≤ j := by decide) 
    (hp : Room k X.A → ∀ {fa : Addr} {fd : FuncData} {ps : List Str} {sp : Sp}, Cls X.K (Rec.c (R := α) Γ) → Meth X.K (Rec.c (R := α) Γ) n fa → FnOk X.prog X.w X.K X.mg X.base CX0 k fa fd ps sp → Binds X.K fd ps [] → PE X (.Call (.Attribute e1 n apos) [e2, e3, e4] [] pos) (tMeth (Rec.c (R := α) Γ) n sp [] E0 (wpE X e1) (tCons (wpE X e2) (tCons (wpE X e3) (tCons (wpE X e4) tNil)))) := by intro r _ _ _ _ a b F d; exact pe_meth pe_wp a b F r d .nil pass0 (pa_cons pe_wp (pa_cons pe_wp (pa_cons pe_wp pa_nil)))) :
    EX X Γ W0 (.Call (.Attribute e1 n apos) [e2, e3, e4] [] pos) ρ (M4 f m1 m2 m3 m4) := ⟨fun z hm W σ E Q k => by
  obtain ⟨x1, g1, hm⟩ := bindo hm
  obtain ⟨x2, g2, hm⟩ := bindo hm
  obtain ⟨x3, g3, hm⟩ := bindo hm
  obtain ⟨x4, g4, hm⟩ := bindo hm
  obtain ⟨fa, fd, ps, c0, c1, F, c2, _⟩ := c.ex
  refine wp_of (hp (hr.mono hk) c0 c1 F c2) ?_
  refine h1.run x1 g1 W σ E _ fun v1 W2 le1 ok1 i1 => ?_
  obtain ⟨pa, dx, us, q1, q2, q3, q4⟩ := id i1
  refine ⟨pa, dx, us, q1, ok1.ins q2, lookup_none q3 hnk, ?_⟩
  refine h2.run x2 g2 W2 σ (E.mono le1 ok1) _ fun v2 W3 le2 ok2 i2 => ?_
  refine h3.run x3 g3 W3 σ (E.mono (le1.trans le2) ok2) _ fun v3 W4 le3 ok3 i3 => ?_
  refine h4.run x4 g4 W4 σ (E.mono ((le1.trans le2).trans le3) ok3) _ fun v4 W5 le4 ok4 i4 => ?_
  exact ⟨W5, v1, v2, v3, v4, x1, x2, x3, x4, z, rfl, rfl, ok4, (Par.mono ((le2.trans le3).trans le4) i1), (Par.mono (le3.trans le4) i2), (Par.mono le4 i3), i4, hm, fun w W8 le8 ok8 i8 => k w W8 ((((le1.trans le2).trans le3).trans le4).trans le8) ok8 i8⟩⟩
theorem o_call4 {α β γ δ : Type} [Par α] [Par β] [Par γ] [Par δ] {R : Type} [Rep R] {e1 e2 e3 e4 : Expr} {m1 : Option α} {m2 : Option β} {m3 : Option γ} {m4 : Option δ} {f : α → β → γ → δ → Option (List R)} {n : Str} {p pos : Pos} {k j : Nat} (c : CalF X.prog X.w X.K X.mg X.base k n (sp4 Γ (fun W => kO Γ W) f)) (hr : Room j X.A) (h1 : PX X Γ W0 e1 ρ m1) (h2 : PX X Γ W0 e2 ρ m2) (h3 : PX X Γ W0 e3 ρ m3) (h4 : PX X Γ W0 e4 ρ m4) (hk : k ≤ j := by decide) (hg : Gl X n := by rfl)
    (hp : Room k X.A → Gl X n → ∀ {fa : Addr} {fd : FuncData} {ps : List Str} {sp : Sp}, FnOk X.prog X.w X.K X.mg X.base CX0 k fa fd ps sp → X.mg n = some (.ref fa) → PySem.W.keepIn X.K (.ref fa) = true → Binds X.K fd ps [] → PE X (.Call (.Name n p) [e1, e2, e3, e4] [] pos) (tCall sp [] E0 (tCons (wpE X e1) (tCons (wpE X e2) (tCons (wpE X e3) (tCons (wpE X e4) tNil))))) := by intro r g _ _ _ _ F a b c; exact pe_call F r g a b c .nil pass0 (pa_cons pe_wp (pa_cons pe_wp (pa_cons pe_wp (pa_cons pe_wp pa_nil))))) :
    OX X Γ W0 (.Call (.Name n p) [e1, e2, e3, e4] [] pos) ρ (M4 f m1 m2 m3 m4) := ⟨fun z hm W σ E Q k => by
  obtain ⟨x1, g1, hm⟩ := bindo hm
  obtain ⟨x2, g2, hm⟩ := bindo hm
  obtain ⟨x3, g3, hm⟩ := bindo hm
  obtain ⟨x4, g4, hm⟩ := bindo hm
  obtain ⟨fa, fd, ps, F, c1, c2, c3⟩ := c.ex
  refine wp_of (hp (hr.mono hk) hg F c1 c2 c3) ?_
  refine h1.run x1 g1 W σ E _ fun v1 W2 le1 ok1 i1 => ?_
  refine h2.run x2 g2 W2 σ (E.mono le1 ok1) _ fun v2 W3 le2 ok2 i2 => ?_
  refine h3.run x3 g3 W3 σ (E.mono (le1.trans le2) ok2) _ fun v3 W4 le3 ok3 i3 => ?_
  refine h4.run x4 g4 W4 σ (E.mono ((le1.trans le2).trans le3) ok3) _ fun v4 W5 le4 ok4 i4 => ?_
  exact ⟨W5, v1, v2, v3, v4, x1, x2, x3, x4, z, rfl, rfl, ok4, (Par.mono ((le2.trans le3).trans le4) i1), (Par.mono (le3.trans le4) i2), (Par.mono le4 i3), i4, hm, fun w W8 le8 ok8 ⟨p, ws, e8, h8, h9, h10, h11⟩ => by
    subst e8
    exact k p ws W8 ((((le1.trans le2).trans le3).trans le4).trans le8) ok8 ((((le1.trans le2).trans le3).trans le4).free h8) h9 h10 h11⟩⟩
theorem o_meth4 {α β γ δ : Type} [Rec α] [Par β] [Par γ] [Par δ] {R : Type} [Rep R] {e1 e2 e3 e4 : Expr} {m1 : Option α} {m2 : Option β} {m3 : Option γ} {m4 : Option δ} {f : α → β → γ → δ → Option (List R)} {n : Str} {apos pos : Pos} {k j : Nat} (c : MetF X.prog X.w X.K X.mg X.base k (Rec.c (R := α) Γ) n (sp4 Γ (fun W => kO Γ W) f)) (hr : Room j X.A) (h1 : PX X Γ W0 e1 ρ m1) (h2 : PX X Γ W0 e2 ρ m2) (h3 : PX X Γ W0 e3 ρ m3) (h4 : PX X Γ W0 e4 ρ m4) (hnk : ixOf n (Rec.ks (R := α)) = none := by decide +kernel) (hk : k ≤ j := by decide) 
    (hp : Room k X.A → ∀ {fa : Addr} {fd : FuncData} {ps : List Str} {sp : Sp}, Cls X.K (Rec.c (R := α) Γ) → Meth X.K (Rec.c (R := α) Γ) n fa → FnOk X.prog X.w X.K X.mg X.base CX0 k fa fd ps sp → Binds X.K fd ps [] → PE X (.Call (.Attribute e1 n apos) [e2, e3, e4] [] pos) (tMeth (Rec.c (R := α) Γ) n sp [] E0 (wpE X e1) (tCons (wpE X e2) (tCons (wpE X e3) (tCons (wpE X e4) tNil)))) := by intro r _ _ _ _ a b F d; exact pe_meth pe_wp a b F r d .nil pass0 (pa_cons pe_wp (pa_cons pe_wp (pa_cons pe_wp pa_nil)))) :
    OX X Γ W0 (.Call (.Attribute e1 n apos) [e2, e3, e4] [] pos) ρ (M4 f m1 m2 m3 m4) := ⟨fun z hm W σ E Q k => by
  obtain ⟨x1, g1, hm⟩ := bindo hm
  obtain ⟨x2, g2, hm⟩ := bindo hm
  obtain ⟨x3, g3, hm⟩ := bindo hm
  obtain ⟨x4, g4, hm⟩ := bindo hm
  obtain ⟨fa, fd, ps, c0, c1, F, c2, _⟩ := c.ex
  refine wp_of (hp (hr.mono hk) c0 c1 F c2) ?_
  refine h1.run x1 g1 W σ E _ fun v1 W2 le1 ok1 i1 => ?_
  obtain ⟨pa, dx, us, q1, q2, q3, q4⟩ := id i1
  refine ⟨pa, dx, us, q1, ok1.ins q2, lookup_none q3 hnk, ?_⟩
  refine h2.run x2 g2 W2 σ (E.mono le1 ok1) _ fun v2 W3 le2 ok2 i2 => ?_
  refine h3.run x3 g3 W3 σ (E.mono (le1.trans le2) ok2) _ fun v3 W4 le3 ok3 i3 => ?_
  refine h4.run x4 g4 W4 σ (E.mono ((le1.trans le2).trans le3) ok3) _ fun v4 W5 le4 ok4 i4 => ?_
  exact ⟨W5, v1, v2, v3, v4, x1, x2, x3, x4, z, rfl, rfl, ok4, (Par.mono ((le2.trans le3).trans le4) i1), (Par.mono (le3.trans le4) i2), (Par.mono le4 i3), i4, hm, fun w W8 le8 ok8 ⟨p, ws, e8, h8, h9, h10, h11⟩ => by
    subst e8
    exact k p ws W8 ((((le1.trans le2).trans le3).trans le4).trans le8) ok8 ((((le1.trans le2).trans le3).trans le4).free h8) h9 h10 h11⟩⟩
theorem x_make4 {α β γ δ : Type} [Rep α] [Rep β] [Rep γ] [Rep δ] {R : Type} [Rec R] {e1 e2 e3 e4 : Expr} {m1 : Option α} {m2 : Option β} {m3 : Option γ} {m4 : Option δ} {f : α → β → γ → δ → Option R} {n : Str} {p pos : Pos} {k j : Nat} (c : MakF X.prog X.w X.K X.mg X.base k n (Rec.c (R := R) Γ) (si4 Γ (Rec.c (R := R) Γ) f)) (hr : Room j X.A) (h1 : EX X Γ W0 e1 ρ m1) (h2 : EX X Γ W0 e2 ρ m2) (h3 : EX X Γ W0 e3 ρ m3) (h4 : EX X Γ W0 e4 ρ m4) (hk : k + 1 ≤ j := by decide) (hg : Gl X n := by rfl)
    (hp : Room (k + 1) X.A → Gl X n → ∀ {fa : Addr} {fd : FuncData} {ps : List Str} {sp : Sp}, Mk X.K (Rec.c (R := R) Γ) fa → FnOk X.prog X.w X.K X.mg X.base CX0 k fa fd ps sp → X.mg n = some (.ref (Rec.c (R := R) Γ)) → Binds X.K fd ps [] → PE X (.Call (.Name n p) [e1, e2, e3, e4] [] pos) (tMake (Rec.c (R := R) Γ) sp [] E0 (tCons (wpE X e1) (tCons (wpE X e2) (tCons (wpE X e3) (tCons (wpE X e4) tNil))))) := by intro r g _ _ _ _ m F a c; exact pe_make m F r g a c .nil pass0 (pa_cons pe_wp (pa_cons pe_wp (pa_cons pe_wp (pa_cons pe_wp pa_nil))))) :
    EX X Γ W0 (.Call (.Name n p) [e1, e2, e3, e4] [] pos) ρ (M4 f m1 m2 m3 m4) := ⟨fun z hm W σ E Q k => by
  obtain ⟨x1, g1, hm⟩ := bindo hm
  obtain ⟨x2, g2, hm⟩ := bindo hm
  obtain ⟨x3, g3, hm⟩ := bindo hm
  obtain ⟨x4, g4, hm⟩ := bindo hm
  obtain ⟨fa, fd, ps, m, F, c1, c2⟩ := c.ex
  refine wp_of (hp (hr.mono hk) hg m F c1 c2) ?_
  refine h1.run x1 g1 W σ E _ fun v1 W2 le1 ok1 i1 => ?_
  refine h2.run x2 g2 W2 σ (E.mono le1 ok1) _ fun v2 W3 le2 ok2 i2 => ?_
  refine h3.run x3 g3 W3 σ (E.mono (le1.trans le2) ok2) _ fun v3 W4 le3 ok3 i3 => ?_
  refine h4.run x4 g4 W4 σ (E.mono ((le1.trans le2).trans le3) ok3) _ fun v4 W5 le4 ok4 i4 => ?_
  intro pp dx hpp hdx hne
  obtain ⟨w1, w2, w3⟩ := made_le (C := Rec.c (R := R) Γ) ok4 hpp hdx hne
  refine ⟨⟨W5.F, upd (upd W5.H dx (.own pp)) pp (.ins _ dx [])⟩, pp, dx, v1, v2, v3, v4, x1, x2, x3, x4, z, rfl, rfl, w1, ok4.none_of hpp, upd_same, (Rep.mono ((le2.f.trans le3.f).trans le4.f) i1), (Rep.mono (le3.f.trans le4.f) i2), (Rep.mono le4.f i3), i4, hm, fun W8 le8 ok8 i8 => ⟨rfl, ?_⟩⟩
  refine k _ W8 ((((le1.trans le2).trans le3).trans le4).trans ?_) ok8 i8
  rw [show W5 = Wd.mk W5.F (rem pp dx (upd (upd W5.H dx (.own pp)) pp (.ins _ dx []))) by rw [w2]]
  exact le8⟩
theorem x_call5 {α β γ δ ε : Type} [Par α] [Par β] [Par γ] [Par δ] [Par ε] {R : Type} [Rep R] {e1 e2 e3 e4 e5 : Expr} {m1 : Option α} {m2 : Option β} {m3 : Option γ} {m4 : Option δ} {m5 : Option ε} {f : α → β → γ → δ → ε → Option (R)} {n : Str} {p pos : Pos} {k j : Nat} (c : CalF X.prog X.w X.K X.mg X.base k n (sp5 Γ (fun _ => kF Γ) f)) (hr : Room j X.A) (h1 : PX X Γ W0 e1 ρ m1) (h2 : PX X Γ W0 e2 ρ m2) (h3 : PX X Γ W0 e3 ρ m3) (h4 : PX X Γ W0 e4 ρ m4) (h5 : PX X Γ W0 e5 ρ m5) (hk : k ≤ j := by decide) (hg : Gl X n := by rfl)
    (hp : Room k X.A → Gl X n → ∀ {fa : Addr} {fd : FuncData} {ps : List Str} {sp : Sp}, FnOk X.prog X.w X.K X.mg X.base CX0 k fa fd ps sp → X.mg n = some (.ref fa) → PySem.W.keepIn X.K (.ref fa) = true → Binds X.K fd ps [] → PE X (.Call (.Name n p) [e1, e2, e3, e4, e5] [] pos) (tCall sp [] E0 (tCons (wpE X e1) (tCons (wpE X e2) (tCons (wpE X e3) (tCons (wpE X e4) (tCons (wpE X e5) tNil)))))) := by intro r g _ _ _ _ F a b c; exact pe_call F r g a b c .nil pass0 (pa_cons pe_wp (pa_cons pe_wp (pa_cons pe_wp (pa_cons pe_wp (pa_cons pe_wp pa_nil)))))) :
    EX X Γ W0 (.Call (.Name n p) [e1, e2, e3, e4, e5] [] pos) ρ (M5 f m1 m2 m3 m4 m5) := ⟨fun z hm W σ E Q k => by
  obtain ⟨x1, g1, hm⟩ := bindo hm
  obtain ⟨x2, g2, hm⟩ := bindo hm
  obtain ⟨x3, g3, hm⟩ := bindo hm
  obtain ⟨x4, g4, hm⟩ := bindo hm
  obtain ⟨x5, g5, hm⟩ := bindo hm
  obtain ⟨fa, fd, ps, F, c1, c2, c3⟩ := c.ex
  refine wp_of (hp (hr.mono hk) hg F c1 c2 c3) ?_
  refine h1.run x1 g1 W σ E _ fun v1 W2 le1 ok1 i1 => ?_
  refine h2.run x2 g2 W2 σ (E.mono le1 ok1) _ fun v2 W3 le2 ok2 i2 => ?_
  refine h3.run x3 g3 W3 σ (E.mono (le1.trans le2) ok2) _ fun v3 W4 le3 ok3 i3 => ?_
  refine h4.run x4 g4 W4 σ (E.mono ((le1.trans le2).trans le3) ok3) _ fun v4 W5 le4 ok4 i4 => ?_
  refine h5.run x5 g5 W5 σ (E.mono (((le1.trans le2).trans le3).trans le4) ok4) _ fun v5 W6 le5 ok5 i5 => ?_
  exact ⟨W6, v1, v2, v3, v4, v5, x1, x2, x3, x4, x5, z, rfl, rfl, ok5, (Par.mono (((le2.trans le3).trans le4).trans le5) i1), (Par.mono ((le3.trans le4).trans le5) i2), (Par.mono (le4.trans le5) i3), (Par.mono le5 i4), i5, hm, fun w W8 le8 ok8 i8 => k w W8 (((((le1.trans le2).trans le3).trans le4).trans le5).trans le8) ok8 i8⟩⟩
theorem x_meth5 {α β γ δ ε : Type} [Rec α] [Par β] [Par γ] [Par δ] [Par ε] {R : Type} [Rep R] {e1 e2 e3 e4 e5 : Expr} {m1 : Option α} {m2 : Option β} {m3 : Option γ} {m4 : Option δ} {m5 : Option ε} {f : α → β → γ → δ → ε → Option (R)} {n : Str} {apos pos : Pos} {k j : Nat} (c : MetF X.prog X.w X.K X.mg X.base k (Rec.c (R := α) Γ) n (sp5 Γ (fun _ => kF Γ) f)) (hr : Room j X.A) (h1 : PX X Γ W0 e1 ρ m1) (h2 : PX X Γ W0 e2 ρ m2) (h3 : PX X Γ W0 e3 ρ m3) (h4 : PX X Γ W0 e4 ρ m4) (h5 : PX X Γ W0 e5 ρ m5) (hnk : ixOf n (Rec.ks (R := α)) = none := by decide +kernel) (hk : k ≤ j := by decide) 
    (hp : Room k X.A → ∀ {fa : Addr} {fd : FuncData} {ps : List Str} {sp : Sp}, Cls X.K (Rec.c (R := α) Γ) → Meth X.K (Rec.c (R := α) Γ) n fa → FnOk X.prog X.w X.K X.mg X.base CX0 k fa fd ps sp → Binds X.K fd ps [] → PE X (.Call (.Attribute e1 n apos) [e2, e3, e4, e5] [] pos) (tMeth (Rec.c (R := α) Γ) n sp [] E0 (wpE X e1) (tCons (wpE X e2) (tCons (wpE X e3) (tCons (wpE X e4) (tCons (wpE X e5) tNil))))) := by intro r _ _ _ _ a b F d; exact pe_meth pe_wp a b F r d .nil pass0 (pa_cons pe_wp (pa_cons pe_wp (pa_cons pe_wp (pa_cons pe_wp pa_nil))))) :
    EX X Γ W0 (.Call (.Attribute e1 n apos) [e2, e3, e4, e5] [] pos) ρ (M5 f m1 m2 m3 m4 m5) := ⟨fun z hm W σ E Q k => by
  obtain ⟨x1, g1, hm⟩ := bindo hm
  obtain ⟨x2, g2, hm⟩ := bindo hm
  obtain ⟨x3, g3, hm⟩ := bindo hm
  obtain ⟨x4, g4, hm⟩ := bindo hm
  obtain ⟨x5, g5, hm⟩ := bindo hm
  obtain ⟨fa, fd, ps, c0, c1, F, c2, _⟩ := c.ex
  refine wp_of (hp (hr.mono hk) c0 c1 F c2) ?_
  refine h1.run x1 g1 W σ E _ fun v1 W2 le1 ok1 i1 => ?_
  obtain ⟨pa, dx, us, q1, q2, q3, q4⟩ := id i1
  refine ⟨pa, dx, us, q1, ok1.ins q2, lookup_none q3 hnk, ?_⟩
  refine h2.run x2 g2 W2 σ (E.mono le1 ok1) _ fun v2 W3 le2 ok2 i2 => ?_
  refine h3.run x3 g3 W3 σ (E.mono (le1.trans le2) ok2) _ fun v3 W4 le3 ok3 i3 => ?_
  refine h4.run x4 g4 W4 σ (E.mono ((le1.trans le2).trans le3) ok3) _ fun v4 W5 le4 ok4 i4 => ?_
  refine h5.run x5 g5 W5 σ (E.mono (((le1.trans le2).trans le3).trans le4) ok4) _ fun v5 W6 le5 ok5 i5 => ?_
  exact ⟨W6, v1, v2, v3, v4, v5, x1, x2, x3, x4, x5, z, rfl, rfl, ok5, (Par.mono (((le2.trans le3).trans le4).trans le5) i1), (Par.mono ((le3.trans le4).trans le5) i2), (Par.mono (le4.trans le5) i3), (Par.mono le5 i4), i5, hm, fun w W8 le8 ok8 i8 => k w W8 (((((le1.trans le2).trans le3).trans le4).trans le5).trans le8) ok8 i8⟩⟩
theorem o_call5 {α β γ δ ε : Type} [Par α] [Par β] [Par γ] [Par δ] [Par ε] {R : Type} [Rep R] {e1 e2 e3 e4 e5 : Expr} {m1 : Option α} {m2 : Option β} {m3 : Option γ} {m4 : Option δ} {m5 : Option ε} {f : α → β → γ → δ → ε → Option (List R)} {n : Str} {p pos : Pos} {k j : Nat} (c : CalF X.prog X.w X.K X.mg X.base k n (sp5 Γ (fun W => kO Γ W) f)) (hr : Room j X.A) (h1 : PX X Γ W0 e1 ρ m1) (h2 : PX X Γ W0 e2 ρ m2) (h3 : PX X Γ W0 e3 ρ m3) (h4 : PX X Γ W0 e4 ρ m4) (h5 : PX X Γ W0 e5 ρ m5) (hk : k ≤ j := by decide) (hg : Gl X n := by rfl)
    (hp : Room k X.A → Gl X n → ∀ {fa : Addr} {fd : FuncData} {ps : List Str} {sp : Sp}, FnOk X.prog X.w X.K X.mg X.base CX0 k fa fd ps sp → X.mg n = some (.ref fa) → PySem.W.keepIn X.K (.ref fa) = true → Binds X.K fd ps [] → PE X (.Call (.Name n p) [e1, e2, e3, e4, e5] [] pos) (tCall sp [] E0 (tCons (wpE X e1) (tCons (wpE X e2) (tCons (wpE X e3) (tCons (wpE X e4) (tCons (wpE X e5) tNil)))))) := by intro r g _ _ _ _ F a b c; exact pe_call F r g a b c .nil pass0 (pa_cons pe_wp (pa_cons pe_wp (pa_cons pe_wp (pa_cons pe_wp (pa_cons pe_wp pa_nil)))))) :
    OX X Γ W0 (.Call (.Name n p) [e1, e2, e3, e4, e5] [] pos) ρ (M5 f m1 m2 m3 m4 m5) := ⟨fun z hm W σ E Q k => by
  obtain ⟨x1, g1, hm⟩ := bindo hm
  obtain ⟨x2, g2, hm⟩ := bindo hm
  obtain ⟨x3, g3, hm⟩ := bindo hm
  obtain ⟨x4, g4, hm⟩ := bindo hm
  obtain ⟨x5, g5, hm⟩ := bindo hm
  obtain ⟨fa, fd, ps, F, c1, c2, c3⟩ := c.ex
  refine wp_of (hp (hr.mono hk) hg F c1 c2 c3) ?_
  refine h1.run x1 g1 W σ E _ fun v1 W2 le1 ok1 i1 => ?_
  refine h2.run x2 g2 W2 σ (E.mono le1 ok1) _ fun v2 W3 le2 ok2 i2 => ?_
  refine h3.run x3 g3 W3 σ (E.mono (le1.trans le2) ok2) _ fun v3 W4 le3 ok3 i3 => ?_
  refine h4.run x4 g4 W4 σ (E.mono ((le1.trans le2).trans le3) ok3) _ fun v4 W5 le4 ok4 i4 => ?_
  refine h5.run x5 g5 W5 σ (E.mono (((le1.trans le2).trans le3).trans le4) ok4) _ fun v5 W6 le5 ok5 i5 => ?_
  exact ⟨W6, v1, v2, v3, v4, v5, x1, x2, x3, x4, x5, z, rfl, rfl, ok5, (Par.mono (((le2.trans le3).trans le4).trans le5) i1), (Par.mono ((le3.trans le4).trans le5) i2), (Par.mono (le4.trans le5) i3), (Par.mono le5 i4), i5, hm, fun w W8 le8 ok8 ⟨p, ws, e8, h8, h9, h10, h11⟩ => by
    subst e8
    exact k p ws W8 (((((le1.trans le2).trans le3).trans le4).trans le5).trans le8) ok8 (((((le1.trans le2).trans le3).trans le4).trans le5).free h8) h9 h10 h11⟩⟩
theorem o_meth5 {α β γ δ ε : Type} [Rec α] [Par β] [Par γ] [Par δ] [Par ε] {R : Type} [Rep R] {e1 e2 e3 e4 e5 : Expr} {m1 : Option α} {m2 : Option β} {m3 : Option γ} {m4 : Option δ} {m5 : Option ε} {f : α → β → γ → δ → ε → Option (List R)} {n : Str} {apos pos : Pos} {k j : Nat} (c : MetF X.prog X.w X.K X.mg X.base k (Rec.c (R := α) Γ) n (sp5 Γ (fun W => kO Γ W) f)) (hr : Room j X.A) (h1 : PX X Γ W0 e1 ρ m1) (h2 : PX X Γ W0 e2 ρ m2) (h3 : PX X Γ W0 e3 ρ m3) (h4 : PX X Γ W0 e4 ρ m4) (h5 : PX X Γ W0 e5 ρ m5) (hnk : ixOf n (Rec.ks (R := α)) = none := by decide +kernel) (hk : k ≤ j := by decide) 
    (hp : Room k X.A → ∀ {fa : Addr} {fd : FuncData} {ps : List Str} {sp : Sp}, Cls X.K (Rec.c (R := α) Γ) → Meth X.K (Rec.c (R := α) Γ) n fa → FnOk X.prog X.w X.K X.mg X.base CX0 k fa fd ps sp → Binds X.K fd ps [] → PE X (.Call (.Attribute e1 n apos) [e2, e3, e4, e5] [] pos) (tMeth (Rec.c (R := α) Γ) n sp [] E0 (wpE X e1) (tCons (wpE X e2) (tCons (wpE X e3) (tCons (wpE X e4) (tCons (wpE X e5) tNil))))) := by intro r _ _ _ _ a b F d; exact pe_meth pe_wp a b F r d .nil pass0 (pa_cons pe_wp (pa_cons pe_wp (pa_cons pe_wp (pa_cons pe_wp pa_nil))))) :
    OX X Γ W0 (.Call (.Attribute e1 n apos) [e2, e3, e4, e5] [] pos) ρ (M5 f m1 m2 m3 m4 m5) := ⟨fun z hm W σ E Q k => by
  obtain ⟨x1, g1, hm⟩ := bindo hm
  obtain ⟨x2, g2, hm⟩ := bindo hm
  obtain ⟨x3, g3, hm⟩ := bindo hm
  obtain ⟨x4, g4, hm⟩ := bindo hm
  obtain ⟨x5, g5, hm⟩ := bindo hm
  obtain ⟨fa, fd, ps, c0, c1, F, c2, _⟩ := c.ex
  refine wp_of (hp (hr.mono hk) c0 c1 F c2) ?_
  refine h1.run x1 g1 W σ E _ fun v1 W2 le1 ok1 i1 => ?_
  obtain ⟨pa, dx, us, q1, q2, q3, q4⟩ := id i1
  refine ⟨pa, dx, us, q1, ok1.ins q2, lookup_none q3 hnk, ?_⟩
  refine h2.run x2 g2 W2 σ (E.mono le1 ok1) _ fun v2 W3 le2 ok2 i2 => ?_
  refine h3.run x3 g3 W3 σ (E.mono (le1.trans le2) ok2) _ fun v3 W4 le3 ok3 i3 => ?_
  refine h4.run x4 g4 W4 σ (E.mono ((le1.trans le2).trans le3) ok3) _ fun v4 W5 le4 ok4 i4 => ?_
  refine h5.run x5 g5 W5 σ (E.mono (((le1.trans le2).trans le3).trans le4) ok4) _ fun v5 W6 le5 ok5 i5 => ?_
  exact ⟨W6, v1, v2, v3, v4, v5, x1, x2, x3, x4, x5, z, rfl, rfl, ok5, (Par.mono (((le2.trans le3).trans le4).trans le5) i1), (Par.mono ((le3.trans le4).trans le5) i2), (Par.mono (le4.trans le5) i3), (Par.mono le5 i4), i5, hm, fun w W8 le8 ok8 ⟨p, ws, e8, h8, h9, h10, h11⟩ => by
    subst e8
    exact k p ws W8 (((((le1.trans le2).trans le3).trans le4).trans le5).trans le8) ok8 (((((le1.trans le2).trans le3).trans le4).trans le5).free h8) h9 h10 h11⟩⟩
theorem x_make5 {α β γ δ ε : Type} [Rep α] [Rep β] [Rep γ] [Rep δ] [Rep ε] {R : Type} [Rec R] {e1 e2 e3 e4 e5 : Expr} {m1 : Option α} {m2 : Option β} {m3 : Option γ} {m4 : Option δ} {m5 : Option ε} {f : α → β → γ → δ → ε → Option R} {n : Str} {p pos : Pos} {k j : Nat} (c : MakF X.prog X.w X.K X.mg X.base k n (Rec.c (R := R) Γ) (si5 Γ (Rec.c (R := R) Γ) f)) (hr : Room j X.A) (h1 : EX X Γ W0 e1 ρ m1) (h2 : EX X Γ W0 e2 ρ m2) (h3 : EX X Γ W0 e3 ρ m3) (h4 : EX X Γ W0 e4 ρ m4) (h5 : EX X Γ W0 e5 ρ m5) (hk : k + 1 ≤ j := by decide) (hg : Gl X n := by rfl)
    (hp : Room (k + 1) X.A → Gl X n → ∀ {fa : Addr} {fd : FuncData} {ps : List Str} {sp : Sp}, Mk X.K (Rec.c (R := R) Γ) fa → FnOk X.prog X.w X.K X.mg X.base CX0 k fa fd ps sp → X.mg n = some (.ref (Rec.c (R := R) Γ)) → Binds X.K fd ps [] → PE X (.Call (.Name n p) [e1, e2, e3, e4, e5] [] pos) (tMake (Rec.c (R := R) Γ) sp [] E0 (tCons (wpE X e1) (tCons (wpE X e2) (tCons (wpE X e3) (tCons (wpE X e4) (tCons (wpE X e5) tNil)))))) := by intro r g _ _ _ _ m F a c; exact pe_make m F r g a c .nil pass0 (pa_cons pe_wp (pa_cons pe_wp (pa_cons pe_wp (pa_cons pe_wp (pa_cons pe_wp pa_nil)))))) :
    EX X Γ W0 (.Call (.Name n p) [e1, e2, e3, e4, e5] [] pos) ρ (M5 f m1 m2 m3 m4 m5) := ⟨fun z hm W σ E Q k => by
  obtain ⟨x1, g1, hm⟩ := bindo hm
  obtain ⟨x2, g2, hm⟩ := bindo hm
  obtain ⟨x3, g3, hm⟩ := bindo hm
  obtain ⟨x4, g4, hm⟩ := bindo hm
  obtain ⟨x5, g5, hm⟩ := bindo hm
  obtain ⟨fa, fd, ps, m, F, c1, c2⟩ := c.ex
  refine wp_of (hp (hr.mono hk) hg m F c1 c2) ?_
  refine h1.run x1 g1 W σ E _ fun v1 W2 le1 ok1 i1 => ?_
  refine h2.run x2 g2 W2 σ (E.mono le1 ok1) _ fun v2 W3 le2 ok2 i2 => ?_
  refine h3.run x3 g3 W3 σ (E.mono (le1.trans le2) ok2) _ fun v3 W4 le3 ok3 i3 => ?_
  refine h4.run x4 g4 W4 σ (E.mono ((le1.trans le2).trans le3) ok3) _ fun v4 W5 le4 ok4 i4 => ?_
  refine h5.run x5 g5 W5 σ (E.mono (((le1.trans le2).trans le3).trans le4) ok4) _ fun v5 W6 le5 ok5 i5 => ?_
  intro pp dx hpp hdx hne
  obtain ⟨w1, w2, w3⟩ := made_le (C := Rec.c (R := R) Γ) ok5 hpp hdx hne
  refine ⟨⟨W6.F, upd (upd W6.H dx (.own pp)) pp (.ins _ dx [])⟩, pp, dx, v1, v2, v3, v4, v5, x1, x2, x3, x4, x5, z, rfl, rfl, w1, ok5.none_of hpp, upd_same, (Rep.mono (((le2.f.trans le3.f).trans le4.f).trans le5.f) i1), (Rep.mono ((le3.f.trans le4.f).trans le5.f) i2), (Rep.mono (le4.f.trans le5.f) i3), (Rep.mono le5.f i4), i5, hm, fun W8 le8 ok8 i8 => ⟨rfl, ?_⟩⟩
  refine k _ W8 (((((le1.trans le2).trans le3).trans le4).trans le5).trans ?_) ok8 i8
  rw [show W6 = Wd.mk W6.F (rem pp dx (upd (upd W6.H dx (.own pp)) pp (.ins _ dx []))) by rw [w2]]
  exact le8⟩
end
end SR
end
section
set_option Elab.async false
set_option linter.all false
set_option maxRecDepth 100000
set_option maxHeartbeats 4000000
namespace SR
open PySem PySem.Spec PyProof.Rows L2

/-! ### a def's body: the names at its start -/
def slots (n : Nat) (ds : List Slot) : List Slot := ds ++ List.replicate (n - ds.length) .un
theorem AllP.len {α : Type u} {β : Type v} {R : α → β → Prop} {as : List α} {bs : List β} (h : AllP R as bs) : as.length = bs.length := by
  induction h with
  | nil => rfl
  | cons _ _ ih => rw [List.length_cons, List.length_cons, ih]
theorem slots_own {n : Nat} {ds : List Slot} (hn : ∀ s ∈ ds, s.own = false) {i : Nat} {s : Slot} (h : (slots n ds)[i]? = some s) : s.own = false := by
  have m := List.mem_of_getElem? h
  unfold slots at m
  rcases List.mem_append.mp m with m | m
  · exact hn s m
  · rw [(List.mem_replicate.mp m).2]
    rfl
theorem slots_at {Γ : Cs} {W0 W : Wd} {ds : List Slot} {vs : List V} (h : AllP (fun (v : V) (d : Slot) => SlotOk Γ W0 W d (some v)) vs ds) (N : List Str) (i : Nat) (s : Slot) (o : Option V) (h1 : (slots N.length ds)[i]? = some s) (h2 : (L2.start N vs)[i]? = some o) : SlotOk Γ W0 W s o := by
  have hl := h.len
  unfold slots at h1
  unfold L2.start at h2
  by_cases z : i < ds.length
  · rw [List.getElem?_append_left z, List.getElem?_eq_getElem z] at h1
    have z2 : i < vs.length := by omega
    rw [List.getElem?_append_left (by rw [List.length_map]; exact z2), List.getElem?_map, List.getElem?_eq_getElem z2] at h2
    rw [← Option.some.inj h1, ← Option.some.inj h2]
    exact h.at (List.getElem?_eq_getElem z2) (List.getElem?_eq_getElem z)
  · rw [List.getElem?_append_right (by omega)] at h1
    have := List.mem_of_getElem? h1
    rw [(List.mem_replicate.mp this).2]
    trivial
theorem slots_len {N : List Str} {ds : List Slot} (h : ds.length ≤ N.length) : (slots N.length ds).length = N.length := by
  unfold slots
  rw [List.length_append, List.length_replicate]
  omega
theorem start_len {N : List Str} {vs : List V} (h : vs.length ≤ N.length) : (L2.start N vs).length = N.length := by
  unfold L2.start
  rw [List.length_append, List.length_map, List.length_replicate]
  omega
theorem env_start {Γ : Cs} {W : Wd} (ok : HLe W.F W.H) {N : List Str} {ds : List Slot} {vs : List V} (h : AllP (fun (v : V) (d : Slot) => SlotOk Γ W W d (some v)) vs ds) (hn : ∀ s ∈ ds, s.own = false) (hN : ds.length ≤ N.length) : EnvOk Γ W W (slots N.length ds) (L2.start N vs) :=
  ⟨ok, .refl, by rw [slots_len hN, start_len (by rw [h.len]; exact hN)], fun i s o h1 h2 => slots_at h N i s o h1 h2, fun i j s t a h1 _ h3 => by
    rw [slots_own hn h1] at h3
    cases h3⟩
theorem env_startI {Γ : Cs} {W : Wd} {p dx C : Addr} (ok : HLe W.F W.H) (hp : W.F p = none) (hH : W.H p = some (.ins C dx [])) {N : List Str} {ds : List Slot} {vs : List V} (h : AllP (fun (v : V) (d : Slot) => SlotOk Γ ⟨W.F, rem p dx W.H⟩ W d (some v)) vs ds) (hn : ∀ s ∈ ds, s.own = false) (hN : ds.length + 1 ≤ N.length) :
    EnvOk Γ ⟨W.F, rem p dx W.H⟩ W (.slf p C [] [] :: slots (N.length - 1) ds) (L2.start N (.ref p :: vs)) := by
  cases N with
  | nil => simp at hN
  | cons n N =>
  have hN' : ds.length ≤ N.length := by simpa using hN
  have e : L2.start (n :: N) (.ref p :: vs) = some (.ref p) :: L2.start N vs := by
    unfold L2.start
    simp
  have e2 : slots ((n :: N).length - 1) ds = slots N.length ds := by simp
  rw [e, e2]
  refine ⟨ok, ⟨fun a o q => ?_, .refl, fun a _ q => q⟩, by rw [List.length_cons, List.length_cons, slots_len hN', start_len (by rw [h.len]; exact hN')], fun i s o h1 h2 => ?_, fun i j s t a h1 h2 h3 h4 h5 h6 => ?_⟩
  · have q' : (if a = p ∨ a = dx then none else W.H a) = some o := q
    split at q'
    · cases q'
    · exact q'
  · cases i with
    | zero =>
      have e1 : Slot.slf p C [] [] = s := Option.some.inj (by simpa using h1)
      have e3 : some (V.ref p) = o := Option.some.inj (by simpa using h2)
      subst e1 e3
      refine ⟨p, dx, [], rfl, ?_, hp, hH, rfl, rfl, .nil⟩
      show (if p = p ∨ p = dx then none else W.H p) = none
      rw [if_pos (.inl rfl)]
    | succ i => exact slots_at h N i s o (by simpa using h1) (by simpa using h2)
  · cases i with
    | zero =>
      cases j with
      | zero => rfl
      | succ j =>
        rw [slots_own hn (show (slots N.length ds)[j]? = some t by simpa using h2)] at h4
        cases h4
    | succ i =>
      rw [slots_own hn (show (slots N.length ds)[i]? = some s by simpa using h1)] at h3
      cases h3
section
variable {P : Program} {w : World} {K : PySem.W.Frag} {mg : Str → Option Value} {base : Heap} {N ps : List Str} {nm qual : Str} {params : Arguments} {body : List Stmt} {scope : Scope} {dvs : List V} {kws : List (Str × V)} {fa : Addr} {fd : FuncData} {k : Nat} {Γ : Cs}
theorem body1 {α R : Type} [Par α] {K1 : Wd → RK R} {f : α → Option R} (F : FunD K nm qual params body scope dvs kws fa fd) (S : FnScope N ps scope) (hl : ps.length = 1) (hN : 1 ≤ N.length)
    (hb : ∀ (x1 : α) (cdv : Value) (A : Around) (outer : List Env) (s : Shared) (H : Hp) (E : XK) (W0 : Wd), Room k (A.deeper (envOfC qual scope s.heap.objs.size fa cdv)) →
      RX (cxOf CX0 P w K mg base N qual scope fa cdv A outer s H E).nox Γ W0 (K1 W0) body (slots N.length [Par.sl x1]) (f x1)) : FnOk P w K mg base CX0 (k + 1) fa fd ps (sp1 Γ K1 f) := by
  refine F.ok S (fun vs H Q E h => ?_) (fun cdv A outer s H vs Q E hr h => ?_)
  · obtain ⟨W, v1, x1, y, rfl, _⟩ := h
    rw [hl]
    rfl
  · obtain ⟨W, v1, x1, y, rfl, rfl, ok, i1, hm, q⟩ := h
    refine ⟨_, PSs.nox pss_wp, ?_⟩
    refine (hb x1 cdv A outer s W.H E W hr).run y hm W _ (env_start ok (N := N) (ds := [Par.sl x1]) (.cons (Par.ok i1) .nil) (fun s hs => by simp only [List.mem_cons, List.not_mem_nil, or_false] at hs; subst hs; exact Par.no _) hN) _ fun v W2 le _ ok2 i => q v W2 le ok2 i
theorem bodyU1 {α : Type} [Par α] {f : α → Option Unit} (F : FunD K nm qual params body scope dvs kws fa fd) (S : FnScope N ps scope) (hl : ps.length = 1) (hN : 1 ≤ N.length)
    (hb : ∀ (x1 : α) (cdv : Value) (A : Around) (outer : List Env) (s : Shared) (H : Hp) (E : XK) (W0 : Wd), Room k (A.deeper (envOfC qual scope s.heap.objs.size fa cdv)) →
      BX (cxOf CX0 P w K mg base N qual scope fa cdv A outer s H E).nox Γ W0 body (slots N.length [Par.sl x1]) (f x1) (fun _ => List.replicate N.length .un)) : FnOk P w K mg base CX0 (k + 1) fa fd ps (sp1 Γ (fun _ => kF Γ) f) := by
  refine F.ok S (fun vs H Q E h => ?_) (fun cdv A outer s H vs Q E hr h => ?_)
  · obtain ⟨W, v1, x1, y, rfl, _⟩ := h
    rw [hl]
    rfl
  · obtain ⟨W, v1, x1, y, rfl, rfl, ok, i1, hm, q⟩ := h
    refine ⟨_, PSs.nox pss_wp, ?_⟩
    refine (hb x1 cdv A outer s W.H E W hr).run y hm W _ (env_start ok (N := N) (ds := [Par.sl x1]) (.cons (Par.ok i1) .nil) (fun s hs => by simp only [List.mem_cons, List.not_mem_nil, or_false] at hs; subst hs; exact Par.no _) hN) _ fun W2 σ2 _ E2 => q .non W2 E2.le E2.ok rfl
theorem bodyI1 {α R : Type} [Rep α] [Rec R] {f : α → Option R} (F : FunD K nm qual params body scope dvs kws fa fd) (S : FnScope N ps scope) (hl : ps.length = 2) (hN : 2 ≤ N.length)
    (hb : ∀ (x1 : α) (cdv : Value) (A : Around) (outer : List Env) (s : Shared) (H : Hp) (E : XK) (W0 : Wd) (PP : Addr), Room k (A.deeper (envOfC qual scope s.heap.objs.size fa cdv)) →
      BX (cxOf CX0 P w K mg base N qual scope fa cdv A outer s H E).nox Γ W0 body (.slf PP (Rec.c (R := R) Γ) [] [] :: slots (N.length - 1) [fz x1]) (f x1) (fun r => .slf PP (Rec.c (R := R) Γ) (Rec.ks (R := R)) (Rec.ds r) :: List.replicate (N.length - 1) .un)) : FnOk P w K mg base CX0 (k + 1) fa fd ps (si1 Γ (Rec.c (R := R) Γ) f) := by
  refine F.ok S (fun vs H Q E h => ?_) (fun cdv A outer s H vs Q E hr h => ?_)
  · obtain ⟨W, p, dx, v1, x1, y, rfl, _⟩ := h
    rw [hl]
    rfl
  · obtain ⟨W, p, dx, v1, x1, y, rfl, rfl, ok, hp, hH, i1, hm, q⟩ := h
    refine ⟨_, PSs.nox pss_wp, ?_⟩
    refine (hb x1 cdv A outer s W.H E ⟨W.F, rem p dx W.H⟩ p hr).run y hm W _ (env_startI ok hp hH (N := N) (ds := [fz x1]) (.cons ⟨_, rfl, i1⟩ .nil) (fun s hs => by simp only [List.mem_cons, List.not_mem_nil, or_false] at hs; subst hs; exact rfl) hN) _ fun W2 σ2 _ E2 => ?_
    obtain ⟨o, e1, a, dx2, us, e2, e3, e4, e5, e6, e8, e7⟩ := E2.slot (i := 0) rfl
    subst e2 e8
    obtain ⟨le, E3⟩ := E2.freeze (i := 0) (d := ⟨y⟩) rfl rfl e1 e5 ⟨a, dx2, us, rfl, upd_same, e6, e7.imp fun _ _ z => Dat.mono (HLe.upd_new e4) z⟩
    obtain ⟨v, f1, f2⟩ := E3.get (i := 0) (x := y) rfl
    rw [e1] at f1
    have ev := Option.some.inj (Option.some.inj f1)
    rw [← ev] at f2
    exact q ⟨upd W2.F a (.ins (Rec.c (R := R) Γ) dx2 us), W2.H⟩ E3.le E3.ok f2
theorem body2 {α β R : Type} [Par α] [Par β] {K1 : Wd → RK R} {f : α → β → Option R} (F : FunD K nm qual params body scope dvs kws fa fd) (S : FnScope N ps scope) (hl : ps.length = 2) (hN : 2 ≤ N.length)
    (hb : ∀ (x1 : α) (x2 : β) (cdv : Value) (A : Around) (outer : List Env) (s : Shared) (H : Hp) (E : XK) (W0 : Wd), Room k (A.deeper (envOfC qual scope s.heap.objs.size fa cdv)) →
      RX (cxOf CX0 P w K mg base N qual scope fa cdv A outer s H E).nox Γ W0 (K1 W0) body (slots N.length [Par.sl x1, Par.sl x2]) (f x1 x2)) : FnOk P w K mg base CX0 (k + 1) fa fd ps (sp2 Γ K1 f) := by
  refine F.ok S (fun vs H Q E h => ?_) (fun cdv A outer s H vs Q E hr h => ?_)
  · obtain ⟨W, v1, v2, x1, x2, y, rfl, _⟩ := h
    rw [hl]
    rfl
  · obtain ⟨W, v1, v2, x1, x2, y, rfl, rfl, ok, i1, i2, hm, q⟩ := h
    refine ⟨_, PSs.nox pss_wp, ?_⟩
    refine (hb x1 x2 cdv A outer s W.H E W hr).run y hm W _ (env_start ok (N := N) (ds := [Par.sl x1, Par.sl x2]) (.cons (Par.ok i1) (.cons (Par.ok i2) .nil)) (fun s hs => by simp only [List.mem_cons, List.not_mem_nil, or_false] at hs; rcases hs with h | h <;> (subst_vars; exact Par.no _)) hN) _ fun v W2 le _ ok2 i => q v W2 le ok2 i
theorem bodyU2 {α β : Type} [Par α] [Par β] {f : α → β → Option Unit} (F : FunD K nm qual params body scope dvs kws fa fd) (S : FnScope N ps scope) (hl : ps.length = 2) (hN : 2 ≤ N.length)
    (hb : ∀ (x1 : α) (x2 : β) (cdv : Value) (A : Around) (outer : List Env) (s : Shared) (H : Hp) (E : XK) (W0 : Wd), Room k (A.deeper (envOfC qual scope s.heap.objs.size fa cdv)) →
      BX (cxOf CX0 P w K mg base N qual scope fa cdv A outer s H E).nox Γ W0 body (slots N.length [Par.sl x1, Par.sl x2]) (f x1 x2) (fun _ => List.replicate N.length .un)) : FnOk P w K mg base CX0 (k + 1) fa fd ps (sp2 Γ (fun _ => kF Γ) f) := by
  refine F.ok S (fun vs H Q E h => ?_) (fun cdv A outer s H vs Q E hr h => ?_)
  · obtain ⟨W, v1, v2, x1, x2, y, rfl, _⟩ := h
    rw [hl]
    rfl
  · obtain ⟨W, v1, v2, x1, x2, y, rfl, rfl, ok, i1, i2, hm, q⟩ := h
    refine ⟨_, PSs.nox pss_wp, ?_⟩
    refine (hb x1 x2 cdv A outer s W.H E W hr).run y hm W _ (env_start ok (N := N) (ds := [Par.sl x1, Par.sl x2]) (.cons (Par.ok i1) (.cons (Par.ok i2) .nil)) (fun s hs => by simp only [List.mem_cons, List.not_mem_nil, or_false] at hs; rcases hs with h | h <;> (subst_vars; exact Par.no _)) hN) _ fun W2 σ2 _ E2 => q .non W2 E2.le E2.ok rfl
theorem bodyI2 {α β R : Type} [Rep α] [Rep β] [Rec R] {f : α → β → Option R} (F : FunD K nm qual params body scope dvs kws fa fd) (S : FnScope N ps scope) (hl : ps.length = 3) (hN : 3 ≤ N.length)
    (hb : ∀ (x1 : α) (x2 : β) (cdv : Value) (A : Around) (outer : List Env) (s : Shared) (H : Hp) (E : XK) (W0 : Wd) (PP : Addr), Room k (A.deeper (envOfC qual scope s.heap.objs.size fa cdv)) →
      BX (cxOf CX0 P w K mg base N qual scope fa cdv A outer s H E).nox Γ W0 body (.slf PP (Rec.c (R := R) Γ) [] [] :: slots (N.length - 1) [fz x1, fz x2]) (f x1 x2) (fun r => .slf PP (Rec.c (R := R) Γ) (Rec.ks (R := R)) (Rec.ds r) :: List.replicate (N.length - 1) .un)) : FnOk P w K mg base CX0 (k + 1) fa fd ps (si2 Γ (Rec.c (R := R) Γ) f) := by
  refine F.ok S (fun vs H Q E h => ?_) (fun cdv A outer s H vs Q E hr h => ?_)
  · obtain ⟨W, p, dx, v1, v2, x1, x2, y, rfl, _⟩ := h
    rw [hl]
    rfl
  · obtain ⟨W, p, dx, v1, v2, x1, x2, y, rfl, rfl, ok, hp, hH, i1, i2, hm, q⟩ := h
    refine ⟨_, PSs.nox pss_wp, ?_⟩
    refine (hb x1 x2 cdv A outer s W.H E ⟨W.F, rem p dx W.H⟩ p hr).run y hm W _ (env_startI ok hp hH (N := N) (ds := [fz x1, fz x2]) (.cons ⟨_, rfl, i1⟩ (.cons ⟨_, rfl, i2⟩ .nil)) (fun s hs => by simp only [List.mem_cons, List.not_mem_nil, or_false] at hs; rcases hs with h | h <;> (subst_vars; exact rfl)) hN) _ fun W2 σ2 _ E2 => ?_
    obtain ⟨o, e1, a, dx2, us, e2, e3, e4, e5, e6, e8, e7⟩ := E2.slot (i := 0) rfl
    subst e2 e8
    obtain ⟨le, E3⟩ := E2.freeze (i := 0) (d := ⟨y⟩) rfl rfl e1 e5 ⟨a, dx2, us, rfl, upd_same, e6, e7.imp fun _ _ z => Dat.mono (HLe.upd_new e4) z⟩
    obtain ⟨v, f1, f2⟩ := E3.get (i := 0) (x := y) rfl
    rw [e1] at f1
    have ev := Option.some.inj (Option.some.inj f1)
    rw [← ev] at f2
    exact q ⟨upd W2.F a (.ins (Rec.c (R := R) Γ) dx2 us), W2.H⟩ E3.le E3.ok f2
theorem body3 {α β γ R : Type} [Par α] [Par β] [Par γ] {K1 : Wd → RK R} {f : α → β → γ → Option R} (F : FunD K nm qual params body scope dvs kws fa fd) (S : FnScope N ps scope) (hl : ps.length = 3) (hN : 3 ≤ N.length)
    (hb : ∀ (x1 : α) (x2 : β) (x3 : γ) (cdv : Value) (A : Around) (outer : List Env) (s : Shared) (H : Hp) (E : XK) (W0 : Wd), Room k (A.deeper (envOfC qual scope s.heap.objs.size fa cdv)) →
      RX (cxOf CX0 P w K mg base N qual scope fa cdv A outer s H E).nox Γ W0 (K1 W0) body (slots N.length [Par.sl x1, Par.sl x2, Par.sl x3]) (f x1 x2 x3)) : FnOk P w K mg base CX0 (k + 1) fa fd ps (sp3 Γ K1 f) := by
  refine F.ok S (fun vs H Q E h => ?_) (fun cdv A outer s H vs Q E hr h => ?_)
  · obtain ⟨W, v1, v2, v3, x1, x2, x3, y, rfl, _⟩ := h
    rw [hl]
    rfl
  · obtain ⟨W, v1, v2, v3, x1, x2, x3, y, rfl, rfl, ok, i1, i2, i3, hm, q⟩ := h
    refine ⟨_, PSs.nox pss_wp, ?_⟩
    refine (hb x1 x2 x3 cdv A outer s W.H E W hr).run y hm W _ (env_start ok (N := N) (ds := [Par.sl x1, Par.sl x2, Par.sl x3]) (.cons (Par.ok i1) (.cons (Par.ok i2) (.cons (Par.ok i3) .nil))) (fun s hs => by simp only [List.mem_cons, List.not_mem_nil, or_false] at hs; rcases hs with h | h | h <;> (subst_vars; exact Par.no _)) hN) _ fun v W2 le _ ok2 i => q v W2 le ok2 i
theorem bodyU3 {α β γ : Type} [Par α] [Par β] [Par γ] {f : α → β → γ → Option Unit} (F : FunD K nm qual params body scope dvs kws fa fd) (S : FnScope N ps scope) (hl : ps.length = 3) (hN : 3 ≤ N.length)
    (hb : ∀ (x1 : α) (x2 : β) (x3 : γ) (cdv : Value) (A : Around) (outer : List Env) (s : Shared) (H : Hp) (E : XK) (W0 : Wd), Room k (A.deeper (envOfC qual scope s.heap.objs.size fa cdv)) →
      BX (cxOf CX0 P w K mg base N qual scope fa cdv A outer s H E).nox Γ W0 body (slots N.length [Par.sl x1, Par.sl x2, Par.sl x3]) (f x1 x2 x3) (fun _ => List.replicate N.length .un)) : FnOk P w K mg base CX0 (k + 1) fa fd ps (sp3 Γ (fun _ => kF Γ) f) := by
  refine F.ok S (fun vs H Q E h => ?_) (fun cdv A outer s H vs Q E hr h => ?_)
  · obtain ⟨W, v1, v2, v3, x1, x2, x3, y, rfl, _⟩ := h
    rw [hl]
    rfl
  · obtain ⟨W, v1, v2, v3, x1, x2, x3, y, rfl, rfl, ok, i1, i2, i3, hm, q⟩ := h
    refine ⟨_, PSs.nox pss_wp, ?_⟩
    refine (hb x1 x2 x3 cdv A outer s W.H E W hr).run y hm W _ (env_start ok (N := N) (ds := [Par.sl x1, Par.sl x2, Par.sl x3]) (.cons (Par.ok i1) (.cons (Par.ok i2) (.cons (Par.ok i3) .nil))) (fun s hs => by simp only [List.mem_cons, List.not_mem_nil, or_false] at hs; rcases hs with h | h | h <;> (subst_vars; exact Par.no _)) hN) _ fun W2 σ2 _ E2 => q .non W2 E2.le E2.ok rfl
theorem bodyI3 {α β γ R : Type} [Rep α] [Rep β] [Rep γ] [Rec R] {f : α → β → γ → Option R} (F : FunD K nm qual params body scope dvs kws fa fd) (S : FnScope N ps scope) (hl : ps.length = 4) (hN : 4 ≤ N.length)
    (hb : ∀ (x1 : α) (x2 : β) (x3 : γ) (cdv : Value) (A : Around) (outer : List Env) (s : Shared) (H : Hp) (E : XK) (W0 : Wd) (PP : Addr), Room k (A.deeper (envOfC qual scope s.heap.objs.size fa cdv)) →
      BX (cxOf CX0 P w K mg base N qual scope fa cdv A outer s H E).nox Γ W0 body (.slf PP (Rec.c (R := R) Γ) [] [] :: slots (N.length - 1) [fz x1, fz x2, fz x3]) (f x1 x2 x3) (fun r => .slf PP (Rec.c (R := R) Γ) (Rec.ks (R := R)) (Rec.ds r) :: List.replicate (N.length - 1) .un)) : FnOk P w K mg base CX0 (k + 1) fa fd ps (si3 Γ (Rec.c (R := R) Γ) f) := by
  refine F.ok S (fun vs H Q E h => ?_) (fun cdv A outer s H vs Q E hr h => ?_)
  · obtain ⟨W, p, dx, v1, v2, v3, x1, x2, x3, y, rfl, _⟩ := h
    rw [hl]
    rfl
  · obtain ⟨W, p, dx, v1, v2, v3, x1, x2, x3, y, rfl, rfl, ok, hp, hH, i1, i2, i3, hm, q⟩ := h
    refine ⟨_, PSs.nox pss_wp, ?_⟩
    refine (hb x1 x2 x3 cdv A outer s W.H E ⟨W.F, rem p dx W.H⟩ p hr).run y hm W _ (env_startI ok hp hH (N := N) (ds := [fz x1, fz x2, fz x3]) (.cons ⟨_, rfl, i1⟩ (.cons ⟨_, rfl, i2⟩ (.cons ⟨_, rfl, i3⟩ .nil))) (fun s hs => by simp only [List.mem_cons, List.not_mem_nil, or_false] at hs; rcases hs with h | h | h <;> (subst_vars; exact rfl)) hN) _ fun W2 σ2 _ E2 => ?_
    obtain ⟨o, e1, a, dx2, us, e2, e3, e4, e5, e6, e8, e7⟩ := E2.slot (i := 0) rfl
    subst e2 e8
    obtain ⟨le, E3⟩ := E2.freeze (i := 0) (d := ⟨y⟩) rfl rfl e1 e5 ⟨a, dx2, us, rfl, upd_same, e6, e7.imp fun _ _ z => Dat.mono (HLe.upd_new e4) z⟩
    obtain ⟨v, f1, f2⟩ := E3.get (i := 0) (x := y) rfl
    rw [e1] at f1
    have ev := Option.some.inj (Option.some.inj f1)
    rw [← ev] at f2
    exact q ⟨upd W2.F a (.ins (Rec.c (R := R) Γ) dx2 us), W2.H⟩ E3.le E3.ok f2
theorem body4 {α β γ δ R : Type} [Par α] [Par β] [Par γ] [Par δ] {K1 : Wd → RK R} {f : α → β → γ → δ → Option R} (F : FunD K nm qual params body scope dvs kws fa fd) (S : FnScope N ps scope) (hl : ps.length = 4) (hN : 4 ≤ N.length)
    (hb : ∀ (x1 : α) (x2 : β) (x3 : γ) (x4 : δ) (cdv : Value) (A : Around) (outer : List Env) (s : Shared) (H : Hp) (E : XK) (W0 : Wd), Room k (A.deeper (envOfC qual scope s.heap.objs.size fa cdv)) →
      RX (cxOf CX0 P w K mg base N qual scope fa cdv A outer s H E).nox Γ W0 (K1 W0) body (slots N.length [Par.sl x1, Par.sl x2, Par.sl x3, Par.sl x4]) (f x1 x2 x3 x4)) : FnOk P w K mg base CX0 (k + 1) fa fd ps (sp4 Γ K1 f) := by
  refine F.ok S (fun vs H Q E h => ?_) (fun cdv A outer s H vs Q E hr h => ?_)
  · obtain ⟨W, v1, v2, v3, v4, x1, x2, x3, x4, y, rfl, _⟩ := h
    rw [hl]
    rfl
  · obtain ⟨W, v1, v2, v3, v4, x1, x2, x3, x4, y, rfl, rfl, ok, i1, i2, i3, i4, hm, q⟩ := h
    refine ⟨_, PSs.nox pss_wp, ?_⟩
    refine (hb x1 x2 x3 x4 cdv A outer s W.H E W hr).run y hm W _ (env_start ok (N := N) (ds := [Par.sl x1, Par.sl x2, Par.sl x3, Par.sl x4]) (.cons (Par.ok i1) (.cons (Par.ok i2) (.cons (Par.ok i3) (.cons (Par.ok i4) .nil)))) (fun s hs => by simp only [List.mem_cons, List.not_mem_nil, or_false] at hs; rcases hs with h | h | h | h <;> (subst_vars; exact Par.no _)) hN) _ fun v W2 le _ ok2 i => q v W2 le ok2 i
theorem bodyU4 {α β γ δ : Type} [Par α] [Par β] [Par γ] [Par δ] {f : α → β → γ → δ → Option Unit} (F : FunD K nm qual params body scope dvs kws fa fd) (S : FnScope N ps scope) (hl : ps.length = 4) (hN : 4 ≤ N.length)
    (hb : ∀ (x1 : α) (x2 : β) (x3 : γ) (x4 : δ) (cdv : Value) (A : Around) (outer : List Env) (s : Shared) (H : Hp) (E : XK) (W0 : Wd), Room k (A.deeper (envOfC qual scope s.heap.objs.size fa cdv)) →
      BX (cxOf CX0 P w K mg base N qual scope fa cdv A outer s H E).nox Γ W0 body (slots N.length [Par.sl x1, Par.sl x2, Par.sl x3, Par.sl x4]) (f x1 x2 x3 x4) (fun _ => List.replicate N.length .un)) : FnOk P w K mg base CX0 (k + 1) fa fd ps (sp4 Γ (fun _ => kF Γ) f) := by
  refine F.ok S (fun vs H Q E h => ?_) (fun cdv A outer s H vs Q E hr h => ?_)
  · obtain ⟨W, v1, v2, v3, v4, x1, x2, x3, x4, y, rfl, _⟩ := h
    rw [hl]
    rfl
  · obtain ⟨W, v1, v2, v3, v4, x1, x2, x3, x4, y, rfl, rfl, ok, i1, i2, i3, i4, hm, q⟩ := h
    refine ⟨_, PSs.nox pss_wp, ?_⟩
    refine (hb x1 x2 x3 x4 cdv A outer s W.H E W hr).run y hm W _ (env_start ok (N := N) (ds := [Par.sl x1, Par.sl x2, Par.sl x3, Par.sl x4]) (.cons (Par.ok i1) (.cons (Par.ok i2) (.cons (Par.ok i3) (.cons (Par.ok i4) .nil)))) (fun s hs => by simp only [List.mem_cons, List.not_mem_nil, or_false] at hs; rcases hs with h | h | h | h <;> (subst_vars; exact Par.no _)) hN) _ fun W2 σ2 _ E2 => q .non W2 E2.le E2.ok rfl
theorem bodyI4 {α β γ δ R : Type} [Rep α] [Rep β] [Rep γ] [Rep δ] [Rec R] {f : α → β → γ → δ → Option R} (F : FunD K nm qual params body scope dvs kws fa fd) (S : FnScope N ps scope) (hl : ps.length = 5) (hN : 5 ≤ N.length)
    (hb : ∀ (x1 : α) (x2 : β) (x3 : γ) (x4 : δ) (cdv : Value) (A : Around) (outer : List Env) (s : Shared) (H : Hp) (E : XK) (W0 : Wd) (PP : Addr), Room k (A.deeper (envOfC qual scope s.heap.objs.size fa cdv)) →
      BX (cxOf CX0 P w K mg base N qual scope fa cdv A outer s H E).nox Γ W0 body (.slf PP (Rec.c (R := R) Γ) [] [] :: slots (N.length - 1) [fz x1, fz x2, fz x3, fz x4]) (f x1 x2 x3 x4) (fun r => .slf PP (Rec.c (R := R) Γ) (Rec.ks (R := R)) (Rec.ds r) :: List.replicate (N.length - 1) .un)) : FnOk P w K mg base CX0 (k + 1) fa fd ps (si4 Γ (Rec.c (R := R) Γ) f) := by
  refine F.ok S (fun vs H Q E h => ?_) (fun cdv A outer s H vs Q E hr h => ?_)
  · obtain ⟨W, p, dx, v1, v2, v3, v4, x1, x2, x3, x4, y, rfl, _⟩ := h
    rw [hl]
    rfl
  · obtain ⟨W, p, dx, v1, v2, v3, v4, x1, x2, x3, x4, y, rfl, rfl, ok, hp, hH, i1, i2, i3, i4, hm, q⟩ := h
    refine ⟨_, PSs.nox pss_wp, ?_⟩
    refine (hb x1 x2 x3 x4 cdv A outer s W.H E ⟨W.F, rem p dx W.H⟩ p hr).run y hm W _ (env_startI ok hp hH (N := N) (ds := [fz x1, fz x2, fz x3, fz x4]) (.cons ⟨_, rfl, i1⟩ (.cons ⟨_, rfl, i2⟩ (.cons ⟨_, rfl, i3⟩ (.cons ⟨_, rfl, i4⟩ .nil)))) (fun s hs => by simp only [List.mem_cons, List.not_mem_nil, or_false] at hs; rcases hs with h | h | h | h <;> (subst_vars; exact rfl)) hN) _ fun W2 σ2 _ E2 => ?_
    obtain ⟨o, e1, a, dx2, us, e2, e3, e4, e5, e6, e8, e7⟩ := E2.slot (i := 0) rfl
    subst e2 e8
    obtain ⟨le, E3⟩ := E2.freeze (i := 0) (d := ⟨y⟩) rfl rfl e1 e5 ⟨a, dx2, us, rfl, upd_same, e6, e7.imp fun _ _ z => Dat.mono (HLe.upd_new e4) z⟩
    obtain ⟨v, f1, f2⟩ := E3.get (i := 0) (x := y) rfl
    rw [e1] at f1
    have ev := Option.some.inj (Option.some.inj f1)
    rw [← ev] at f2
    exact q ⟨upd W2.F a (.ins (Rec.c (R := R) Γ) dx2 us), W2.H⟩ E3.le E3.ok f2
theorem body5 {α β γ δ ε R : Type} [Par α] [Par β] [Par γ] [Par δ] [Par ε] {K1 : Wd → RK R} {f : α → β → γ → δ → ε → Option R} (F : FunD K nm qual params body scope dvs kws fa fd) (S : FnScope N ps scope) (hl : ps.length = 5) (hN : 5 ≤ N.length)
    (hb : ∀ (x1 : α) (x2 : β) (x3 : γ) (x4 : δ) (x5 : ε) (cdv : Value) (A : Around) (outer : List Env) (s : Shared) (H : Hp) (E : XK) (W0 : Wd), Room k (A.deeper (envOfC qual scope s.heap.objs.size fa cdv)) →
      RX (cxOf CX0 P w K mg base N qual scope fa cdv A outer s H E).nox Γ W0 (K1 W0) body (slots N.length [Par.sl x1, Par.sl x2, Par.sl x3, Par.sl x4, Par.sl x5]) (f x1 x2 x3 x4 x5)) : FnOk P w K mg base CX0 (k + 1) fa fd ps (sp5 Γ K1 f) := by
  refine F.ok S (fun vs H Q E h => ?_) (fun cdv A outer s H vs Q E hr h => ?_)
  · obtain ⟨W, v1, v2, v3, v4, v5, x1, x2, x3, x4, x5, y, rfl, _⟩ := h
    rw [hl]
    rfl
  · obtain ⟨W, v1, v2, v3, v4, v5, x1, x2, x3, x4, x5, y, rfl, rfl, ok, i1, i2, i3, i4, i5, hm, q⟩ := h
    refine ⟨_, PSs.nox pss_wp, ?_⟩
    refine (hb x1 x2 x3 x4 x5 cdv A outer s W.H E W hr).run y hm W _ (env_start ok (N := N) (ds := [Par.sl x1, Par.sl x2, Par.sl x3, Par.sl x4, Par.sl x5]) (.cons (Par.ok i1) (.cons (Par.ok i2) (.cons (Par.ok i3) (.cons (Par.ok i4) (.cons (Par.ok i5) .nil))))) (fun s hs => by simp only [List.mem_cons, List.not_mem_nil, or_false] at hs; rcases hs with h | h | h | h | h <;> (subst_vars; exact Par.no _)) hN) _ fun v W2 le _ ok2 i => q v W2 le ok2 i
theorem bodyU5 {α β γ δ ε : Type} [Par α] [Par β] [Par γ] [Par δ] [Par ε] {f : α → β → γ → δ → ε → Option Unit} (F : FunD K nm qual params body scope dvs kws fa fd) (S : FnScope N ps scope) (hl : ps.length = 5) (hN : 5 ≤ N.length)
    (hb : ∀ (x1 : α) (x2 : β) (x3 : γ) (x4 : δ) (x5 : ε) (cdv : Value) (A : Around) (outer : List Env) (s : Shared) (H : Hp) (E : XK) (W0 : Wd), Room k (A.deeper (envOfC qual scope s.heap.objs.size fa cdv)) →
      BX (cxOf CX0 P w K mg base N qual scope fa cdv A outer s H E).nox Γ W0 body (slots N.length [Par.sl x1, Par.sl x2, Par.sl x3, Par.sl x4, Par.sl x5]) (f x1 x2 x3 x4 x5) (fun _ => List.replicate N.length .un)) : FnOk P w K mg base CX0 (k + 1) fa fd ps (sp5 Γ (fun _ => kF Γ) f) := by
  refine F.ok S (fun vs H Q E h => ?_) (fun cdv A outer s H vs Q E hr h => ?_)
  · obtain ⟨W, v1, v2, v3, v4, v5, x1, x2, x3, x4, x5, y, rfl, _⟩ := h
    rw [hl]
    rfl
  · obtain ⟨W, v1, v2, v3, v4, v5, x1, x2, x3, x4, x5, y, rfl, rfl, ok, i1, i2, i3, i4, i5, hm, q⟩ := h
    refine ⟨_, PSs.nox pss_wp, ?_⟩
    refine (hb x1 x2 x3 x4 x5 cdv A outer s W.H E W hr).run y hm W _ (env_start ok (N := N) (ds := [Par.sl x1, Par.sl x2, Par.sl x3, Par.sl x4, Par.sl x5]) (.cons (Par.ok i1) (.cons (Par.ok i2) (.cons (Par.ok i3) (.cons (Par.ok i4) (.cons (Par.ok i5) .nil))))) (fun s hs => by simp only [List.mem_cons, List.not_mem_nil, or_false] at hs; rcases hs with h | h | h | h | h <;> (subst_vars; exact Par.no _)) hN) _ fun W2 σ2 _ E2 => q .non W2 E2.le E2.ok rfl
theorem bodyI5 {α β γ δ ε R : Type} [Rep α] [Rep β] [Rep γ] [Rep δ] [Rep ε] [Rec R] {f : α → β → γ → δ → ε → Option R} (F : FunD K nm qual params body scope dvs kws fa fd) (S : FnScope N ps scope) (hl : ps.length = 6) (hN : 6 ≤ N.length)
    (hb : ∀ (x1 : α) (x2 : β) (x3 : γ) (x4 : δ) (x5 : ε) (cdv : Value) (A : Around) (outer : List Env) (s : Shared) (H : Hp) (E : XK) (W0 : Wd) (PP : Addr), Room k (A.deeper (envOfC qual scope s.heap.objs.size fa cdv)) →
      BX (cxOf CX0 P w K mg base N qual scope fa cdv A outer s H E).nox Γ W0 body (.slf PP (Rec.c (R := R) Γ) [] [] :: slots (N.length - 1) [fz x1, fz x2, fz x3, fz x4, fz x5]) (f x1 x2 x3 x4 x5) (fun r => .slf PP (Rec.c (R := R) Γ) (Rec.ks (R := R)) (Rec.ds r) :: List.replicate (N.length - 1) .un)) : FnOk P w K mg base CX0 (k + 1) fa fd ps (si5 Γ (Rec.c (R := R) Γ) f) := by
  refine F.ok S (fun vs H Q E h => ?_) (fun cdv A outer s H vs Q E hr h => ?_)
  · obtain ⟨W, p, dx, v1, v2, v3, v4, v5, x1, x2, x3, x4, x5, y, rfl, _⟩ := h
    rw [hl]
    rfl
  · obtain ⟨W, p, dx, v1, v2, v3, v4, v5, x1, x2, x3, x4, x5, y, rfl, rfl, ok, hp, hH, i1, i2, i3, i4, i5, hm, q⟩ := h
    refine ⟨_, PSs.nox pss_wp, ?_⟩
    refine (hb x1 x2 x3 x4 x5 cdv A outer s W.H E ⟨W.F, rem p dx W.H⟩ p hr).run y hm W _ (env_startI ok hp hH (N := N) (ds := [fz x1, fz x2, fz x3, fz x4, fz x5]) (.cons ⟨_, rfl, i1⟩ (.cons ⟨_, rfl, i2⟩ (.cons ⟨_, rfl, i3⟩ (.cons ⟨_, rfl, i4⟩ (.cons ⟨_, rfl, i5⟩ .nil))))) (fun s hs => by simp only [List.mem_cons, List.not_mem_nil, or_false] at hs; rcases hs with h | h | h | h | h <;> (subst_vars; exact rfl)) hN) _ fun W2 σ2 _ E2 => ?_
    obtain ⟨o, e1, a, dx2, us, e2, e3, e4, e5, e6, e8, e7⟩ := E2.slot (i := 0) rfl
    subst e2 e8
    obtain ⟨le, E3⟩ := E2.freeze (i := 0) (d := ⟨y⟩) rfl rfl e1 e5 ⟨a, dx2, us, rfl, upd_same, e6, e7.imp fun _ _ z => Dat.mono (HLe.upd_new e4) z⟩
    obtain ⟨v, f1, f2⟩ := E3.get (i := 0) (x := y) rfl
    rw [e1] at f1
    have ev := Option.some.inj (Option.some.inj f1)
    rw [← ev] at f2
    exact q ⟨upd W2.F a (.ins (Rec.c (R := R) Γ) dx2 us), W2.H⟩ E3.le E3.ok f2
end
end SR
end
section
set_option Elab.async false
set_option linter.all false
set_option maxRecDepth 100000
set_option maxHeartbeats 4000000
namespace SR
open PySem PySem.Spec PyProof.Rows L2

/-! ### own operators, over the kit's rules for them -/
section
variable {X : Cx} {pins : List (Addr × Obj)} {σ : St} {H : Hp} {s : Shared} {C a dx f : Addr} {fs : List (Str × V)} {fd : FuncData} {ps : List Str} {sp : Sp} {k : Nat}
theorem fr_of (I : Inv X pins σ H s) : ∃ m, Fr X.base X.env.locals s.heap m := by
  obtain ⟨m, n, _⟩ := I.loc
  exact ⟨m, n, I.bk, Nat.le_trans I.ok.bsz I.ok.above⟩
theorem inst_of (I : Inv X pins σ H s) (e : H a = some (.ins C dx fs)) : ∃ od, PySem.W.InstAt s.heap a (PySem.W.instObj C dx) C (some od) := by
  obtain ⟨mA, O, _⟩ := ins_get I.hok e
  obtain ⟨od, J, _⟩ := O.look
  exact ⟨od, J⟩
theorem run_fn1 {Q : VK} {us : List Value} {vs : List V} (F : FnOk X.prog X.w X.K X.mg X.base CX0 k f fd ps sp) (hr : Room (k + 1) X.A) (hb : Binds X.K fd ps []) (I : Inv X pins σ H s) (r : Vals vs us) (h : sp vs H Q E0) :
    wpAny (model X.prog X.w) X.A.in1 (call (.ref f) us) (EP X pins σ Q) X.xe s := by
  have hl : us.length = ps.length := by rw [← r.length]; exact F.len _ _ _ _ h
  have hb2 := hb s us I.kIn (by rw [List.append_nil]; exact hl)
  rw [List.append_nil] at hb2
  refine wpAny_call (codeAny_mono (F.run X.A.in1 X.stack s H ⟨us, []⟩ us vs Q E0 hr.in1 I.env0.in1 hb2 r h) fun r s' hq => ?_)
  cases r with
  | error e => exact pass0 pins σ H s e s' I hq
  | ok fl =>
    cases fl with
    | ret u => exact I.after hq
    | next => exact False.elim hq
    | brk => exact False.elim hq
    | cont => exact False.elim hq
theorem run_fn0 {Q : VK} {us : List Value} {vs : List V} (F : FnOk X.prog X.w X.K X.mg X.base CX0 k f fd ps sp) (hr : Room k X.A) (hb : Binds X.K fd ps []) (I : Inv X pins σ H s) (r : Vals vs us) (h : sp vs H Q E0) :
    wpAny (model X.prog X.w) X.A (call (.ref f) us) (EP X pins σ Q) X.xe s := by
  have e1 : us ++ [] = us := List.append_nil us
  have e2 : vs ++ [] = vs := List.append_nil vs
  have z := run_fn (us := us) (vs := vs) (Q := Q) (dvs := []) F hr hb .nil pass0 I r (by rw [e2]; exact h)
  exact z
/-- x op y by the class's own method, both of the class -/
def rOwn2 (C : Addr) (sp : Sp) : R2 := fun x y H Q => ∃ a dx fs b dy gs, x = .ref a ∧ H a = some (.ins C dx fs) ∧ y = .ref b ∧ H b = some (.ins C dy gs) ∧ sp [x, y] H Q E0
theorem back_ok {Q : VK} {u : Value} {s' : Shared} (q : EP X pins σ Q u s') : PySem.W.CmpBack (EP X pins σ Q) u s' := by
  cases u with
  | notImplemented =>
    obtain ⟨v, H', _, r, _⟩ := q
    cases v <;> first | (cases r; done) | (obtain ⟨_, r⟩ := r; cases r; done)
  | _ => exact q
theorem op_own {op : Operator} {m : Str} (hself : PySem.W.selfFirst X.K C = true) (hm : Meth X.K C m f) (F : FnOk X.prog X.w X.K X.mg X.base CX0 k f fd ps sp) (hr : Room k X.A) (hb : Binds X.K fd ps []) (hd : PySem.dunder op.info.2 = m := by rfl) :
    OpR X (binaryOp op) (rOwn2 C sp) := by
  intro pins s σ H x y v u Q I rx ry h
  obtain ⟨a, dx, fs, b, dy, gs, rfl, ea, rfl, eb, h⟩ := h
  cases rx
  cases ry
  obtain ⟨mm, Fm⟩ := fr_of I
  obtain ⟨od, J⟩ := inst_of I ea
  obtain ⟨od', J'⟩ := inst_of I eb
  subst hd
  exact PySem.W.binop_K Fm I.ok.mod.kin J J'.type hself hm.at_ hm.fn (wpAny_mono (run_fn0 (vs := [.ref a, .ref b]) F hr hb I (.cons rfl (.cons rfl .nil)) h) (fun u s' q => back_ok q) fun _ _ e => e)
theorem op_ownC {op : CmpOp} {m : Str} (hc : ∀ (A : Around) (s : Shared) (a b : Value) (Q E : Value → Shared → Prop), wpAny (model X.prog X.w) A (richCompare op a b) Q E s → wpAny (model X.prog X.w) A (compareOp op a b) Q E s)
    (hm : Meth X.K C m f) (F : FnOk X.prog X.w X.K X.mg X.base CX0 k f fd ps sp) (hr : Room k X.A) (hb : Binds X.K fd ps []) (hd : (cmpInfo op).2.1 = m := by rfl) :
    OpR X (compareOp op) (rOwn2 C sp) := by
  intro pins s σ H x y v u Q I rx ry h
  obtain ⟨a, dx, fs, b, dy, gs, rfl, ea, rfl, eb, h⟩ := h
  cases rx
  cases ry
  obtain ⟨mm, Fm⟩ := fr_of I
  obtain ⟨od, J⟩ := inst_of I ea
  obtain ⟨od', J'⟩ := inst_of I eb
  subst hd
  exact hc _ _ _ _ _ _ (PySem.W.cmp_K (op := op) (tb := .ref C) hr.units0 Fm I.ok.mod.kin J J'.type (by simp [PySem.W.notFirst]) hm.at_ hm.fn (wpAny_mono (run_fn0 (vs := [.ref a, .ref b]) F hr hb I (.cons rfl (.cons rfl .nil)) h) (fun u s' q => back_ok q) fun _ _ e => e))
/-- x[y] by the class's own method -/
def rOwn1 (C : Addr) (sp : Sp) : R2 := fun x y H Q => ∃ a dx fs, x = .ref a ∧ H a = some (.ins C dx fs) ∧ sp [x, y] H Q E0
theorem pe_ixOwn {e i : Expr} {pos : Pos} {ta tb : TE} (ha : PE X e ta) (hi : PE X i tb) (hm : Meth X.K C "__getitem__" f) (hf : PySem.W.fnIn X.K f = true) (F : FnOk X.prog X.w X.K X.mg X.base CX0 k f fd ps sp) (hr : Room (k + 1) X.A) (hb : Binds X.K fd ps [])
    (hsl : ∀ x u, subscripted i true x u = runValue (.builtin "lifetime.subscript" ⟨[x, u], []⟩) := by intro _ _; rfl) : PE X (.Subscript e i pos) (tOp (rOwn1 C sp) ta tb) := by
  refine ⟨fun pins s σ H Q I h => ?_⟩
  refine Subscript_ (binT ha hi I h fun v u s2 x y H2 I2 rx ry q => ?_)
  obtain ⟨a, dx, fs, rfl, ea, h⟩ := q
  cases rx
  obtain ⟨mm, Fm⟩ := fr_of I2
  obtain ⟨od, J⟩ := inst_of I2 ea
  exact PySem.W.sub_K Fm I2.ok.mod.kin J hm.at_ hf hm.fn (run_fn1 (vs := [.ref a, y]) F hr hb I2 (.cons rfl (.cons ry .nil)) h) (hsl _ _)
theorem pt_own {e : Expr} {ta : TE} (ha : PE X e ta) (hm : Meth X.K C "__bool__" f) (F : FnOk X.prog X.w X.K X.mg X.base CX0 k f fd ps sp) (hr : Room k X.A) (hb : Binds X.K fd ps [])
    (he : ∀ whole, isTrue e X.env whole = (do let v ← whole; standAt e.pos; holding [v] (truthy v))) :
    PT X e (fun σ H Q => ta σ H fun x H1 => ∃ a dx fs, x = .ref a ∧ H1 a = some (.ins C dx fs) ∧ sp [x] H1 (fun v H2 => ∃ b, v = .bl b ∧ Q b H2) E0) := by
  refine ⟨fun pins s σ H Q I h => ?_⟩
  refine isTrue_plain (thn (ha.run pins s σ H _ I h) fun v s1 ⟨x, H1, I1, r1, a, dx, fs, ex, ea, q⟩ => ?_) (he _)
  subst ex
  cases r1
  obtain ⟨mm, Fm⟩ := fr_of I1
  obtain ⟨od, J⟩ := inst_of I1 ea
  refine PySem.W.truthy_K Fm I1.ok.mod.kin J hm.at_ hm.fn (wpAny_mono (run_fn0 (vs := [.ref a]) F hr hb I1 (.cons rfl .nil) q) (fun u s' q => ?_) fun _ _ e => e)
  obtain ⟨v, H', I', r, b, rfl, q⟩ := q
  cases r
  exact ⟨H', I', q⟩
end

section
variable {X : Cx} {Γ : Cs} {W0 : Wd} {ρ : List Slot}
theorem ins_of {R : Type} [Rec R] {W : Wd} {v : V} {r : R} (ok : HLe W.F W.H) (i : Is Γ W.F v r) : ∃ a dx fs, v = .ref a ∧ W.H a = some (.ins (Rec.c (R := R) Γ) dx fs) := by
  obtain ⟨a, dx, vs, h1, h2, _⟩ := i
  exact ⟨a, dx, vs, h1, ok.ins h2⟩
theorem os_own {R S T : Type} [Rec R] [Rec S] [Rep T] (hRS : Rec.c (R := S) Γ = Rec.c (R := R) Γ) {f : R → S → Option T} : OpS Γ (rOwn2 (Rec.c (R := R) Γ) (sp2 Γ (fun _ => kF Γ) f)) f := fun W v u x y z ok i1 i2 hf Q k => by
  obtain ⟨a, dx, fs, e1, h1⟩ := ins_of ok i1
  obtain ⟨b, dy, gs, e2, h2⟩ := ins_of ok i2
  rw [hRS] at h2
  exact ⟨a, dx, fs, b, dy, gs, e1, h1, e2, h2, W, v, u, x, y, z, rfl, rfl, ok, i1, i2, hf, fun w W2 le ok2 i => k w W2 le ok2 i⟩
theorem x_own2 {R T : Type} [Rec R] [Rep T] {a b : Expr} {pos : Pos} {op : Operator} {m : Str} {ma mb : Option R} {f : R → R → Option T} {k j : Nat} (c : MetF X.prog X.w X.K X.mg X.base k (Rec.c (R := R) Γ) m (sp2 Γ (fun _ => kF Γ) f)) (hself : PySem.W.selfFirst X.K (Rec.c (R := R) Γ) = true) (hr : Room j X.A)
    (ha : EX X Γ W0 a ρ ma) (hb : EX X Γ W0 b ρ mb) (hd : PySem.dunder op.info.2 = m := by rfl) (hk : k ≤ j := by decide) : EX X Γ W0 (.BinOp a op b pos) ρ (M2 f ma mb) := by
  obtain ⟨fa, fd, ps, c0, c1, F, c2, _⟩ := c.ex
  exact x_op (op_own hself c1 F (hr.mono hk) c2 hd) (os_own rfl) ha hb
theorem x_ownEq {R : Type} [Rec R] {a b : Expr} {pos : Pos} {ma mb : Option R} {f : R → R → Option Bool} {k j : Nat} (c : MetF X.prog X.w X.K X.mg X.base k (Rec.c (R := R) Γ) "__eq__" (sp2 Γ (fun _ => kF Γ) f)) (hr : Room j X.A)
    (ha : EX X Γ W0 a ρ ma) (hb : EX X Γ W0 b ρ mb) (hk : k ≤ j := by decide) : EX X Γ W0 (.Compare a [.Eq] [b] pos) ρ (M2 f ma mb) := by
  obtain ⟨fa, fd, ps, c0, c1, F, c2, _⟩ := c.ex
  exact x_cmp (op_ownC (op := .Eq) (fun _ _ _ _ _ _ h => h) c1 F (hr.mono hk) c2) (os_own rfl) ha hb (by first | exact nomark _ | rfl)
theorem t_ownEq {R : Type} [Rec R] {a b : Expr} {pos : Pos} {ma mb : Option R} {f : R → R → Option Bool} {k j : Nat} (c : MetF X.prog X.w X.K X.mg X.base k (Rec.c (R := R) Γ) "__eq__" (sp2 Γ (fun _ => kF Γ) f)) (hr : Room j X.A)
    (ha : EX X Γ W0 a ρ ma) (hb : EX X Γ W0 b ρ mb) (hk : k ≤ j := by decide) : TX X Γ W0 (.Compare a [.Eq] [b] pos) ρ (M2 f ma mb) := by
  obtain ⟨fa, fd, ps, c0, c1, F, c2, _⟩ := c.ex
  exact t_cmp (op_ownC (op := .Eq) (fun _ _ _ _ _ _ h => h) c1 F (hr.mono hk) c2) (os_own rfl) ha hb (by first | exact nomark _ | rfl)
theorem x_ixOwn {R S T : Type} [Rec R] [Rep S] [Rep T] {a b : Expr} {pos : Pos} {ma : Option R} {mb : Option S} {f : R → S → Option T} {k j : Nat} (c : MetF X.prog X.w X.K X.mg X.base k (Rec.c (R := R) Γ) "__getitem__" (sp2 Γ (fun _ => kF Γ) f)) (hr : Room j X.A)
    (ha : EX X Γ W0 a ρ ma) (hb : EX X Γ W0 b ρ mb) (hk : k + 1 ≤ j := by decide)
    (hsl : ∀ x u, subscripted b true x u = runValue (.builtin "lifetime.subscript" ⟨[x, u], []⟩) := by intro _ _; rfl) : EX X Γ W0 (.Subscript a b pos) ρ (M2 f ma mb) := ⟨fun z hm W σ E Q k => by
  obtain ⟨fa, fd, ps, c0, c1, F, c2, c3⟩ := c.ex
  obtain ⟨x, h1, hm⟩ := bindo hm
  obtain ⟨y, h2, hm⟩ := bindo hm
  refine wp_of (pe_ixOwn pe_wp pe_wp c1 c3 F (hr.mono hk) c2 hsl) ?_
  refine ha.run x h1 W σ E _ fun v W2 le ok i1 => ?_
  refine hb.run y h2 W2 σ (E.mono le ok) _ fun u W3 le2 ok2 i2 => ?_
  obtain ⟨p, dx, fs, e1, g1⟩ := ins_of ok2 (Rep.mono le2.f i1 : Is Γ W3.F v x)
  exact ⟨p, dx, fs, e1, g1, W3, v, u, x, y, z, rfl, rfl, ok2, Rep.mono le2.f i1, i2, hm, fun w W4 le3 ok3 i3 => k w W4 ((le.trans le2).trans le3) ok3 i3⟩⟩
theorem t_own {R : Type} [Rec R] {a : Expr} {ma : Option R} {f : R → Option Bool} {k j : Nat} (c : MetF X.prog X.w X.K X.mg X.base k (Rec.c (R := R) Γ) "__bool__" (sp1 Γ (fun _ => kF Γ) f)) (hr : Room j X.A)
    (ha : EX X Γ W0 a ρ ma) (hk : k ≤ j := by decide) (he : ∀ whole, isTrue a X.env whole = (do let v ← whole; standAt a.pos; holding [v] (truthy v)) := by intro _; rfl) : TX X Γ W0 a ρ (M1 f ma) := ⟨fun z hm W σ E Q k => by
  obtain ⟨fa, fd, ps, c0, c1, F, c2, c3⟩ := c.ex
  obtain ⟨x, h1, hm⟩ := bindo hm
  refine wt_of (pt_own pe_wp c1 F (hr.mono hk) c2 he) ?_
  refine ha.run x h1 W σ E _ fun v W2 le ok i1 => ?_
  obtain ⟨p, dx, fs, e1, g1⟩ := ins_of ok i1
  exact ⟨p, dx, fs, e1, g1, W2, v, x, z, rfl, rfl, ok, i1, hm, fun w W3 le2 ok2 i2 => ⟨z, i2, k W3 (le.trans le2) ok2⟩⟩⟩

/-! ### attributes -/
theorem x_fld {R S : Type} [Rec R] [Rep S] {e : Expr} {f : Str} {pos : Pos} {m : Option R} (g : R → S) (i : Nat) (hc : Cls X.K (Rec.c (R := R) Γ)) (hn : NoAttr X.K (Rec.c (R := R) Γ) f) (h : EX X Γ W0 e ρ m)
    (hi : ixOf f (Rec.ks (R := R)) = some i := by decide +kernel) (hg : ∀ r : R, (Rec.ds r)[i]? = some ⟨g r⟩ := by intro _; rfl) (hb : attributeBase e f X.env (eval e X.env) = eval e X.env := by rfl) :
    EX X Γ W0 (.Attribute e f pos) ρ (m.bind fun r => some (g r)) := ⟨fun z hm W σ E Q k => by
  obtain ⟨r, h1, hm⟩ := bindo hm
  cases hm
  refine wp_of (pe_fld pe_wp hb) ?_
  refine h.run r h1 W σ E _ fun v W2 le ok i1 => ?_
  obtain ⟨a, dx, vs, e1, e2, e3, e4⟩ := i1
  obtain ⟨w, g1, g2⟩ := lookup_some e3 hi
  have q := e4.at g1 (hg r)
  exact ⟨a, _, dx, vs, w, e1, ok.ins e2, hc, hn, g2, k w W2 le ok q⟩⟩
/-- self.f, of the instance that is made -/
theorem x_slf {S : Type} [Rep S] {n f : Str} {np pos : Pos} {p C : Addr} {ks : List Str} {ds : List Dat} {x : S} (i j : Nat) (hc : Cls X.K C) (hn : NoAttr X.K C f) (h : ρ[i]? = some (.slf p C ks ds) := by rfl) (hi : ixOf f ks = some j := by decide +kernel) (hx : ds[j]? = some ⟨x⟩ := by rfl)
    (hN : X.N[i]? = some n := by rfl) (hv : Vis X.env.scope n := by first | exact Or.inl rfl | exact Or.inr (Or.inl rfl) | exact Or.inr (Or.inr rfl)) (hd : (n == ("__debug__" : Str)) = false := by decide)
    (hcd : (n == ("__classdict__" : Str)) = false := by decide) (hb : attributeBase (.Name n np) f X.env (eval (.Name n np) X.env) = eval (.Name n np) X.env := by rfl) :
    EX X Γ W0 (.Attribute (.Name n np) f pos) ρ (some x) := ⟨fun z hm W σ E Q k => by
  cases hm
  refine wp_of (pe_fld (pv i hN hv hd hcd) hb) ?_
  obtain ⟨o, h1, a, dx, vs, h2, h3, h4, h5, h6, h8, h7⟩ := E.slot h
  subst h2
  obtain ⟨w, g1, g2⟩ := lookup_some h6 hi
  have q := h7.at g1 hx
  exact ⟨_, h1, a, _, dx, vs, w, rfl, h5, hc, hn, g2, k w W .refl E.ok q⟩⟩
/-- self.f = e, of the instance that is made -/
theorem s_fld {S : Type} [Rep S] {e : Expr} {n f : Str} {np pos' pos : Pos} {p C : Addr} {ks : List Str} {ds : List Dat} {m : Option S} (i : Nat) (hc : Cls X.K C) (hn : NoAttr X.K C f) (he : EX X Γ W0 e ρ m) (h : ρ[i]? = some (.slf p C ks ds) := by rfl) (hi : ixOf f ks = none := by decide +kernel) (hl : ks.length < 1000 := by decide +kernel)
    (hN : X.N[i]? = some n := by rfl) (hv : Vis X.env.scope n := by first | exact Or.inl rfl | exact Or.inr (Or.inl rfl) | exact Or.inr (Or.inr rfl)) (hd : (n == ("__debug__" : Str)) = false := by decide)
    (hcd : (n == ("__classdict__" : Str)) = false := by decide) (hs : swapsWith e (some (.Attribute (.Name n np) f pos')) pos.line X.env = pure false := by rfl) :
    SX X Γ W0 (.Assign [.Attribute (.Name n np) f pos'] e pos) ρ m (fun x => ρ.set i (.slf p C (ks ++ [f]) (ds ++ [⟨x⟩]))) := ⟨fun z hm W σ E D k => by
  refine ws_of (ps_fld (pv i hN hv hd hcd) pe_wp hs) ?_
  refine he.run z hm W σ E _ fun v W2 le ok i1 => ?_
  have E2 := E.mono le ok
  obtain ⟨o, h1, a, dx, vs, h2, h3, h4, h5, h6, h8, h7⟩ := E2.slot h
  subst h2 h8
  refine ⟨_, h1, a, _, dx, vs, rfl, h5, hc, hn, by rw [← h6, List.length_map] at hl; exact hl, ?_⟩
  rw [putF_new (by rw [h6]; exact hi)]
  refine k ⟨W2.F, upd W2.H a _⟩ σ le.f (E2.change h rfl h1 rfl ⟨a, dx, vs ++ [(f, v)], rfl, h3, h4, upd_same, by rw [List.map_append, h6]; rfl, rfl, ?_⟩)
  have app : ∀ {as : List (Str × V)} {bs : List Dat}, AllP (fun (q : Str × V) (d : Dat) => d.is Γ W2.F q.2) as bs → AllP (fun (q : Str × V) (d : Dat) => d.is Γ W2.F q.2) (as ++ [(f, v)]) (bs ++ [⟨z⟩]) := fun {as bs} r => by
    induction r with
    | nil => exact .cons i1 .nil
    | cons r _ ih => exact .cons r ih
  exact app h7⟩
end
end SR
end
section
set_option Elab.async false
set_option linter.all false
set_option maxRecDepth 100000
set_option maxHeartbeats 4000000
namespace SR
open PySem PySem.Spec PyProof.Rows L2

/-! ### a dict behind a star -/
section
variable {X : Cx} {pins : List (Addr × Obj)} {σ : L2.St} {H : Hp} {s : Shared}
theorem iadd_dct {prog : Program} {w : World} {A : Around} {s : Shared} {T : String} {r d S : Addr} {n : Nat} {P : Nat → Value → Prop} {OK : Heap → Prop} {R : Result → Shared → Prop} (K : PySem.W.KdlSrc prog w T r d n P OK) (hh : A.handled = none) (hok : OK s.heap) (hSr : S ≠ r) (hSd : S ≠ d) (hS : s.heap.get? S = some { cls := .type "list", data := .seq ([] : List Value).toArray }) (hn : n ≤ sizeLine)
    (hR : ∀ h' tk acc' c', (∀ b o, b ≠ S → s.heap.get? b = some o → h'.get? b = some o) → h'.get? S = some { cls := .type "list", dict := none, data := .seq acc' c', slots := #[] } → ItemsOf P acc' n → R (.ok (.ret (.ref S))) { s with heap := h', toks := tk }) :
    codeAny (model prog w) A (.builtin "list.__iadd__" ⟨[.ref S, .ref r], []⟩) R s := by
  refine codeAny_builtin PySem.F.entry_list_iadd ?_
  rw [Around.under_plainId PySem.F.plain_list_iadd _]
  show wpAny _ A.in1 (Builtin.List.listExtendWith (.ref S) (.ref r) (.ref S)) _ _ _
  exact PySem.W.kdl_extend (R := R) K hh hok S hSr hSd (.ref S) 0 hS hR hn
theorem star_dct (hc : X.calm = true) {a : Addr} {kvs : List (Key × V)} {E : Value → Shared → Prop} {Q : List Value → Shared → Prop} (I : Inv X pins σ H s) (h : Rd H a (.dK kvs)) (hQ : ∀ us s', Inv X pins σ H s' → Vals (kvs.map fun kv => kV kv.1) us → Q us s') : PySem.W.StarOf (model X.prog X.w) X.A E (.ref a) Q s := by
  obtain ⟨z, lo, vs, rel, dd⟩ := dk_rd I.hok h
  obtain ⟨ep, hat⟩ := dd.dictAt
  have ek : (kvs.map fun kv => kV kv.1) = vs.map fun p => kV p.1 := by
    have e := congrArg (List.map kV) rel.keys
    rw [List.map_map, List.map_map] at e
    exact e
  have K := PySem.W.kdl_dict (prog := X.prog) (w := X.w) (knd := mixKind X.prog X.w) (kvs := vs) (ep := ep) lo
  have hT : s.TypeIs (.ref a) "dict" := K.type s hat
  have hlt := K.there _ hat
  have col : wpAny (model X.prog X.w) X.A (collect (.ref a)) Q E s := by
    unfold collect
    refine wpAny_bind (wpAny_runValue (codeAny_builtin PySem.F.entry_proto_collect ?_))
    rw [Around.under_plainId PySem.F.plain_proto_collect _]
    show wpAny _ X.A.in1 (newList [] >>= fun l => again (.builtin "list.__iadd__" ⟨[l, .ref a], []⟩)) _ _ s
    refine wpAny_bind (wpAny_newObj_type ?_)
    have hS : (s.heap.push { cls := .type "list", data := .seq ([] : List Value).toArray }).get? s.heap.objs.size = some { cls := .type "list", data := .seq ([] : List Value).toArray } := Heap.get?_push_size _ rfl
    refine wpAny_pure ⟨plainId_quiet PySem.F.plain_list_iadd _, iadd_dct (s := { s with heap := s.heap.push { cls := .type "list", data := .seq ([] : List Value).toArray } }) K (I.ok.hd hc) (K.keep _ _ hat fun b _ o e => Heap.get?_push_of_some _ e) (Nat.ne_of_gt hlt.1) (Nat.ne_of_gt hlt.2) hS (by rw [← rel.length]; exact z) fun h' tk acc' c' hk hS' hacc => ?_⟩
    show wpAny _ X.A (load s.heap.objs.size >>= _) _ _ _
    refine wpAny_bind (wpAny_load hS' ?_)
    have hv : Vals (vs.map fun p => kV p.1) acc'.toList := keys_at (by rw [Array.length_toList]; exact hacc.1) fun j v e => hacc.2 j v (by rw [← Array.getElem?_toList]; exact e)
    exact wpAny_pure (hQ _ _ (I.kept (t' := tk) fun b o e => hk b o (Nat.ne_of_lt (Heap.lt_size e)) (Heap.get?_push_of_some _ e)) (by rw [ek]; exact hv))
  unfold PySem.W.StarOf notIterableAtAll
  exact wpAny_bind (wpAny_specialOf hT PySem.F.slot_dict_iter.lookup (wpAny_pure ⟨rfl, col⟩))
end

/-! ### displays with stars -/
section
variable {X : Cx} {Γ : Cs} {W0 : Wd} {ρ : List Slot}
def tStarD (te : TE) (t : TA) : TA := fun σ H Q => te σ H fun x H1 => ∃ a kvs, x = V.ref a ∧ Rd H1 a (.dK kvs) ∧ t σ H1 fun ys H2 => Q ((kvs.map fun kv => kV kv.1) ++ ys) H2
theorem pa_starD (hc : X.calm = true) {e : Expr} {es : List Expr} {te : TE} {t : TA} {p : Pos} (he : PE X e te) (hr : PA X es t) (hs : starEach (.Starred e p :: es) X.env = (true, eval e X.env) :: starEach es X.env := by rfl) : PA X (.Starred e p :: es) (tStarD te t) := by
  refine ⟨fun pos pins s σ H Q I h => ?_⟩
  refine PySem.W.items_star (thn (he.run pins s σ H _ I h) fun v s1 ⟨y, H1, I1, ry, a, kvs, ey, hx, q⟩ => ?_) hs
  subst ey
  obtain rfl : v = Value.ref a := ry
  refine star_dct hc I1 hx fun us s2 I2 rv => ?_
  exact thn (hr.run pos pins s2 σ H1 _ I2 q) fun ws s3 ⟨vs, H3, I3, r3, q3⟩ => ⟨_, H3, I3, rv.append r3, q3⟩
theorem a_star {α : Type} [Rep α] {e : Expr} {es : List Expr} {p : Pos} {m ms : Option (List α)} (h : LX X Γ W0 e ρ m) (hs : AX X Γ W0 es ρ ms) (he : starEach (.Starred e p :: es) X.env = (true, eval e X.env) :: starEach es X.env := by rfl) : AX X Γ W0 (.Starred e p :: es) ρ (M2 appM m ms) := ⟨fun xs hm W σ E Q k => by
  obtain ⟨x, h1, hm⟩ := bindo hm
  obtain ⟨ys, h2, hm⟩ := bindo hm
  cases hm
  refine wa_of (StX.pa_star pe_wp pa_wp he) ?_
  refine h.run x h1 W σ E _ fun a vs W2 le ok q i1 => ⟨a, vs, rfl, .inr (SqL.of q), ?_⟩
  exact hs.run ys h2 W2 σ (E.mono le ok) _ fun us W3 le2 ok2 i2 => k (vs ++ us) W3 (le.trans le2) ok2 ((i1.mono le2.f).append i2)⟩
def keysM {α : Type} (kvs : List (Int × α)) : Option (List Int) := some (kvs.map (·.1))
theorem keys_is {α : Type} [Rep α] {F F' : Hp} {kvs : List (Key × V)} {xs : List (Int × α)} (h : IsKvs Γ F kvs xs) : IsAll Γ F' (kvs.map fun kv => kV kv.1) (xs.map (·.1)) := by
  induction h with
  | nil => exact .nil
  | cons r _ ih => exact .cons (show kV _ = V.int _ by rw [r.1]; rfl) ih
theorem a_starD {α : Type} [Rep α] {e : Expr} {es : List Expr} {p : Pos} {m : Option (List (Int × α))} {ms : Option (List Int)} (h : DX X Γ W0 e ρ m) (hs : AX X Γ W0 es ρ ms) (hc : X.calm = true := by rfl) (he : starEach (.Starred e p :: es) X.env = (true, eval e X.env) :: starEach es X.env := by rfl) :
    AX X Γ W0 (.Starred e p :: es) ρ (M2 appM (M1 keysM m) ms) := ⟨fun xs hm W σ E Q k => by
  obtain ⟨x, h1, hm⟩ := bindo hm
  obtain ⟨ys, h2, hm⟩ := bindo hm
  cases hm
  obtain ⟨kvs, h3, h1⟩ := bindo h1
  cases h1
  refine wa_of (pa_starD hc pe_wp pa_wp he) ?_
  refine h.run kvs h3 W σ E _ fun a vs W2 le ok q i1 => ⟨a, vs, rfl, q, ?_⟩
  exact hs.run ys h2 W2 σ (E.mono le ok) _ fun us W3 le2 ok2 i2 => k _ W3 (le.trans le2) ok2 ((keys_is i1).append i2)⟩

/-! ### truth -/
def neL {α : Type} (xs : List α) : Option Bool := some (!xs.isEmpty)
theorem isEmpty_all {α : Type} [Rep α] {F : Hp} {vs : List V} {xs : List α} (h : IsAll Γ F vs xs) : vs.isEmpty = xs.isEmpty := by cases h <;> rfl
theorem t_truthL {α : Type} [Rep α] {e : Expr} {m : Option (List α)} (h : LX X Γ W0 e ρ m) (he : ∀ whole, isTrue e X.env whole = (do let v ← whole; standAt e.pos; holding [v] (truthy v)) := by intro _; rfl) : TX X Γ W0 e ρ (M1 neL m) := ⟨fun z hm W σ E Q k => by
  obtain ⟨xs, h1, hm⟩ := bindo hm
  cases hm
  refine wt_of (pt_truth pe_wp he) ?_
  refine h.run xs h1 W σ E _ fun a vs W2 le ok q i1 => ⟨_, .inl ⟨vs, SqL.of q, rfl⟩, ?_⟩
  rw [isEmpty_all i1]
  exact k W2 le ok⟩
theorem x_boolL {α : Type} [Rep α] {e : Expr} {p pos : Pos} {m : Option (List α)} (hM : X.mg "bool" = none) (h : LX X Γ W0 e ρ m) (hg : Gl X "bool" := by rfl)
    (hp : Gl X "bool" → X.mg "bool" = none → PE X (.Call (.Name "bool" p) [e] [] pos) (tCB (fun xs H Q => ∃ (a : Addr) (zs : List V), xs = [.ref a] ∧ SqL X.K H a zs ∧ Q (.bl (!zs.isEmpty)) H) (tCons (wpE X e) tNil)) := by intro hg hM; exact pe_callTy call_boolL hg hM (by decide +kernel) (pa_cons pe_wp pa_nil)) : EX X Γ W0 (.Call (.Name "bool" p) [e] [] pos) ρ (M1 neL m) := ⟨fun z hm W σ E Q k => by
  obtain ⟨xs, h1, hm⟩ := bindo hm
  cases hm
  refine wp_of (hp hg hM) ?_
  refine h.run xs h1 W σ E _ fun a vs W2 le ok q i1 => ⟨a, vs, rfl, SqL.of q, ?_⟩
  rw [isEmpty_all i1]
  exact k _ W2 le ok rfl⟩

/-! ### statements on what is one's own -/
def addL {α : Type} (xs : List α) (x : α) : Option (List α) := if (xs.length : Int) < cap then some (xs ++ [x]) else none
theorem s_append {α : Type} [Rep α] {e : Expr} {n : Str} {np ap cp pos : Pos} {m : Option α} {xs : List α} (i : Nat) (he : EX X Γ W0 e ρ m) (h : ρ[i]? = some (.owL xs) := by rfl) (hN : X.N[i]? = some n := by rfl)
    (hp : PE X (.Call (.Attribute (.Name n np) "append" ap) [e] [] cp) (tBM X.K "list" rAppend (tVar i) (tCons (wpE X e) tNil)) := by exact pe_bm PySem.F.plainAttrs_list PySem.F.slot_list_append PySem.F.type_list_append mt_append (pv _) (pa_cons pe_wp pa_nil))
    (hs : swapsWith (.Call (.Attribute (.Name n np) "append" ap) [e] [] cp) none pos.line X.env = pure false := by rfl) :
    SX X Γ W0 (.Expr (.Call (.Attribute (.Name n np) "append" ap) [e] [] cp) pos) ρ (M1 (addL xs) m) (fun ys => ρ.set i (.owL ys)) := ⟨fun z hm W σ E D k => by
  obtain ⟨x, h1, hm⟩ := bindo hm
  unfold addL at hm
  split at hm
  · rename_i hl
    cases hm
    refine ws_of (ps_expr hp hs) ?_
    obtain ⟨o, g1, a, vs, g2, g3, g4, g5, g6⟩ := E.slot h
    subst g2
    refine ⟨_, g1, .inl ⟨rfl, vs, SqL.of g5⟩, ?_⟩
    refine he.run x h1 W σ E _ fun v W2 le ok i1 => ?_
    refine ⟨a, vs, v, rfl, rfl, le.h _ _ g5, cap_ok (by rw [g6.len]; exact hl), ?_⟩
    have E2 := E.mono le ok
    obtain ⟨o', g1', a', vs', g2', g3', g4', g5', g6'⟩ := E2.slot h
    rw [g1] at g1'
    have ea : a' = a := by
      have q := (Option.some.inj g1').trans g2'
      injection q with q
      injection q with q
      exact q.symm
    subst ea
    have ev : vs' = vs := by
      have q := g5'.symm.trans (le.h _ _ g5)
      injection q with q
      injection q
    subst ev
    exact k ⟨W2.F, upd W2.H a' _⟩ σ le.f (E2.change h rfl g1 rfl ⟨a', vs' ++ [v], rfl, g3', g4', upd_same, Paired.snoc g6' i1⟩)
  · cases hm⟩
def extL {α : Type} (xs ys : List α) : Option (List α) := if ((xs.length + ys.length : Nat) : Int) < cap then some (xs ++ ys) else none
theorem s_extend {α : Type} [Rep α] {e : Expr} {n : Str} {np ap cp pos : Pos} {m : Option (List α)} {xs : List α} (i : Nat) (he : LX X Γ W0 e ρ m) (h : ρ[i]? = some (.owL xs) := by rfl) (hN : X.N[i]? = some n := by rfl)
    (hp : PE X (.Call (.Attribute (.Name n np) "extend" ap) [e] [] cp) (tBM X.K "list" rExtend (tVar i) (tCons (wpE X e) tNil)) := by exact pe_bm PySem.F.plainAttrs_list PySem.F.slot_list_extend PySem.F.type_list_extend mt_extend (pv _) (pa_cons pe_wp pa_nil))
    (hs : swapsWith (.Call (.Attribute (.Name n np) "extend" ap) [e] [] cp) none pos.line X.env = pure false := by rfl) :
    SX X Γ W0 (.Expr (.Call (.Attribute (.Name n np) "extend" ap) [e] [] cp) pos) ρ (M1 (extL xs) m) (fun ys => ρ.set i (.owL ys)) := ⟨fun z hm W σ E D k => by
  obtain ⟨ys, h1, hm⟩ := bindo hm
  unfold extL at hm
  split at hm
  · rename_i hl
    cases hm
    refine ws_of (ps_expr hp hs) ?_
    obtain ⟨o, g1, a, vs, g2, g3, g4, g5, g6⟩ := E.slot h
    subst g2
    refine ⟨_, g1, .inl ⟨rfl, vs, SqL.of g5⟩, ?_⟩
    refine he.run ys h1 W σ E _ fun b us W2 le ok q i1 => ?_
    refine ⟨a, b, vs, us, rfl, rfl, le.h _ _ g5, q, Nat.le_of_lt (cap_ok (by rw [g6.len, i1.len]; exact hl)), ?_⟩
    have E2 := E.mono le ok
    obtain ⟨o', g1', a', vs', g2', g3', g4', g5', g6'⟩ := E2.slot h
    rw [g1] at g1'
    have ea : a' = a := by
      have q := (Option.some.inj g1').trans g2'
      injection q with q
      injection q with q
      exact q.symm
    subst ea
    have ev : vs' = vs := by
      have q := g5'.symm.trans (le.h _ _ g5)
      injection q with q
      injection q
    subst ev
    exact k ⟨W2.F, upd W2.H a' _⟩ σ le.f (E2.change h rfl g1 rfl ⟨a', vs' ++ us, rfl, g3', g4', upd_same, g6'.append i1⟩)
  · cases hm⟩
/-- xs[j] = e -/
def setL {α : Type} (xs : List α) (j : Int) (x : α) : Option (List α) := (ixN xs.length j).bind fun k => some (xs.set k x)
theorem s_lset {α : Type} [Rep α] {e ie : Expr} {n : Str} {np sp_ pos : Pos} {m : Option α} {mi : Option Int} {xs : List α} (i : Nat) (he : EX X Γ W0 e ρ m) (hi : EX X Γ W0 ie ρ mi) (h : ρ[i]? = some (.owL xs) := by rfl) (hN : X.N[i]? = some n := by rfl)
    (hp : PS X (.Assign [.Subscript (.Name n np) ie sp_] e pos) (tAsg (wpE X e) (gSub (tVar i) (wpE X ie) rSetL)) := by exact ps_asg pe_wp (pg_sub (pv _) pe_wp set_list)) :
    SX X Γ W0 (.Assign [.Subscript (.Name n np) ie sp_] e pos) ρ (M2 (fun x j => setL xs j x) m mi) (fun ys => ρ.set i (.owL ys)) := ⟨fun z hm W σ E D k => by
  obtain ⟨x, h1, hm⟩ := bindo hm
  obtain ⟨j, h2, hm⟩ := bindo hm
  obtain ⟨jn, h3, hm⟩ := bindo hm
  cases hm
  refine ws_of hp ?_
  refine he.run x h1 W σ E _ fun v W2 le ok i1 => ?_
  obtain ⟨o, g1, a, vs, g2, g3, g4, g5, g6⟩ := (E.mono le ok).slot h
  subst g2
  refine ⟨_, g1, ?_⟩
  refine hi.run j h2 W2 σ (E.mono le ok) _ fun u W3 le2 ok2 i2 => ?_
  have e2 : u = .int j := i2
  subst e2
  refine ⟨a, vs, j, jn, rfl, rfl, le2.h _ _ g5, by rw [g6.len]; exact h3, ?_⟩
  have E2 := (E.mono le ok).mono le2 ok2
  exact k ⟨W3.F, upd W3.H a _⟩ σ (le.trans le2).f (E2.change h rfl g1 rfl ⟨a, _, rfl, g3, le2.own a (by rw [g5]; exact fun z => nomatch z) g4, upd_same, (g6.mono le2.f).set (Rep.mono le2.f i1) jn⟩)⟩
theorem keys_any {α : Type} [Rep α] {F : Hp} {kvs : List (Key × V)} {xs : List (Int × α)} (h : IsKvs Γ F kvs xs) (k : Int) : (kvs.any fun kv => decide (kv.1 = Sum.inl k)) = xs.any fun q => decide (q.1 = k) := by
  induction h with
  | nil => rfl
  | cons r _ ih =>
    rw [List.any_cons, List.any_cons, ih, r.1]
    congr 1
    exact decide_eq_decide.mpr ⟨fun q => by injection q, fun q => by rw [q]⟩
theorem putD_eq {α : Type} (k : Int) (v : α) : ∀ xs : List (Int × α), putD xs k v = if (xs.any fun q => decide (q.1 = k)) = true then xs.map (fun q => if q.1 = k then (q.1, v) else q) else xs ++ [(k, v)]
  | [] => rfl
  | (j, w) :: r => by
    unfold putD
    by_cases h : j = k
    · rw [if_pos h, List.any_cons, decide_eq_true h, Bool.true_or, if_pos rfl, List.map_cons, if_pos h]
    · rw [if_neg h, putD_eq k v r, List.any_cons, decide_eq_false h, Bool.false_or, List.map_cons, if_neg h]
      split <;> rfl
theorem put_is {α : Type} [Rep α] {F : Hp} {kvs : List (Key × V)} {xs : List (Int × α)} (h : IsKvs Γ F kvs xs) (k : Int) {v : V} {x : α} (r : Is Γ F v x) : IsKvs Γ F (putK kvs (Sum.inl k) v) (putD xs k x) := by
  rw [putD_eq]
  unfold putK
  rw [keys_any h k]
  split
  · rename_i z
    clear z
    induction h with
    | nil => exact .nil
    | @cons q y _ _ rr _ ih =>
      refine .cons ?_ ih
      obtain ⟨r1, r2⟩ := rr
      show (if q.1 = Sum.inl k then (q.1, v) else q).1 = Sum.inl (if y.1 = k then (y.1, x) else y).1 ∧ Is Γ F (if q.1 = Sum.inl k then (q.1, v) else q).2 (if y.1 = k then (y.1, x) else y).2
      by_cases z : y.1 = k
      · rw [if_pos z, if_pos (by rw [r1, z])]
        exact ⟨r1, r⟩
      · rw [if_neg z, if_neg (fun q => z (by rw [r1] at q; injection q))]
        exact ⟨r1, r2⟩
  · exact Paired.snoc h ⟨rfl, r⟩
def putM {α : Type} (kvs : List (Int × α)) (k : Int) (x : α) : Option (List (Int × α)) := if (kvs.length : Int) < cap then some (putD kvs k x) else none
theorem IsKvs.len {α : Type} [Rep α] {F : Hp} {kvs : List (Key × V)} {xs : List (Int × α)} (h : IsKvs Γ F kvs xs) : kvs.length = xs.length := Paired.length h
/-- d[k] = e -/
theorem s_dput {α : Type} [Rep α] {e ie : Expr} {n : Str} {np sp_ pos : Pos} {m : Option α} {mi : Option Int} {xs : List (Int × α)} {j : Nat} (i : Nat) (hr : Room j X.A) (he : EX X Γ W0 e ρ m) (hi : EX X Γ W0 ie ρ mi) (h : ρ[i]? = some (.owD xs) := by rfl) (hN : X.N[i]? = some n := by rfl)
    (hp : X.A.units + 1 < cLine → PS X (.Assign [.Subscript (.Name n np) ie sp_] e pos) (sDPut (tVar i) (wpE X ie) (wpE X e)) := by intro hu; exact ps_dput hu (pv _) pe_wp pe_wp (by rfl)) :
    SX X Γ W0 (.Assign [.Subscript (.Name n np) ie sp_] e pos) ρ (M2 (fun x k => putM xs k x) m mi) (fun ys => ρ.set i (.owD ys)) := ⟨fun z hm W σ E D k => by
  obtain ⟨x, h1, hm⟩ := bindo hm
  obtain ⟨jk, h2, hm⟩ := bindo hm
  unfold putM at hm
  split at hm
  · rename_i hl
    cases hm
    refine ws_of (hp (by have := hr.units; omega)) ?_
    refine he.run x h1 W σ E _ fun v W2 le ok i1 => ?_
    obtain ⟨o, g1, a, kvs, g2, g3, g4, g5, g6⟩ := (E.mono le ok).slot h
    subst g2
    refine ⟨_, g1, ?_⟩
    refine hi.run jk h2 W2 σ (E.mono le ok) _ fun u W3 le2 ok2 i2 => ?_
    have e2 : u = .int jk := i2
    subst e2
    refine ⟨a, _, rfl, .inl ⟨kvs, Sum.inl jk, le2.h _ _ g5, rfl, cap_ok (by rw [g6.len]; exact hl), rfl⟩, ?_⟩
    have E2 := (E.mono le ok).mono le2 ok2
    exact k ⟨W3.F, upd W3.H a _⟩ σ (le.trans le2).f (E2.change h rfl g1 rfl ⟨a, _, rfl, g3, le2.own a (by rw [g5]; exact fun z => nomatch z) g4, upd_same, put_is (g6.mono le2.f) jk (Rep.mono le2.f i1)⟩)
  · cases hm⟩
/-- {} -/
theorem o_dnil {α : Type} [Rep α] {pos : Pos} : OD X Γ W0 (.Dict [] [] pos) ρ (some ([] : List (Int × α))) := ⟨fun xs hm W σ E Q k => by
  cases hm
  refine wp_of pe_dnewK fun p hp => ?_
  exact k p [] ⟨W.F, upd W.H p _⟩ (.new hp) (ok_new E.ok hp) hp (E.ok.none_of hp) upd_same .nil⟩
theorem capM_nil {α : Type} : M1 capM (some ([] : List α)) = some [] := by simp [M1, capM, cap]
/-- [] -/
theorem o_nil {α : Type} [Rep α] {pos : Pos} : OX X Γ W0 (.List [] pos) ρ (some ([] : List α)) := ⟨fun xs hm W σ E Q k => by
  cases hm
  exact (o_lst (a_nil (α := α))).run [] capM_nil W σ E Q k⟩
end
end SR
end
section
set_option Elab.async false
set_option linter.all false
set_option maxRecDepth 100000
set_option maxHeartbeats 4000000
namespace SR
open PySem PySem.Spec PyProof.Rows L2

/-! ### a frozen dict is walked: locked meanwhile -/
theorem hle_upd_norm {F : Hp} {a : Addr} {o o' : HO} (h : F a = some o) (n : norm o' = norm o) : HLe F (upd F a o') := fun b u e => by
  by_cases z : b = a
  · subst z
    rw [h] at e
    cases e
    exact ⟨o', upd_same, n⟩
  · exact ⟨u, by rw [upd_ne z]; exact e, rfl⟩
def cutH (d : Addr) (W : Wd) : Wd := ⟨W.F, fun a => if a = d then none else W.H a⟩
theorem rd_norm {F : Hp} {d : Addr} {kvs : List (Key × V)} (h : Rd F d (.dK kvs)) : ∃ o, F d = some o ∧ norm o = .dK kvs := by
  rcases h with h | ⟨ob, h⟩
  · exact ⟨_, h, rfl⟩
  · exact ⟨_, h, rfl⟩
section
variable {Γ : Cs} {W0 W : Wd} {ρ : List Slot} {σ : St} {α : Type} [Rep α] {xs : List (Int × α)} {i : Nat} {d : Addr} {kvs : List (Key × V)}
theorem lock_env (E : EnvOk Γ W0 W ρ σ) (hi : ρ[i]? = some (fz (Dct.mk xs))) (hs : σ[i]? = some (some (.ref d))) (hF : Rd W.F d (.dK kvs)) (hk : IsKvs Γ W.F kvs xs) (hH : W.H d = some (.dK kvs)) (ob : Obj) :
    HLe W.F (upd W.F d (.frz ob (.dK kvs))) ∧ EnvOk Γ (cutH d W0) ⟨upd W.F d (.frz ob (.dK kvs)), upd W.H d (.frz ob (.dK kvs))⟩ (ρ.set i (.lk xs)) σ := by
  obtain ⟨o, e1, e2⟩ := rd_norm hF
  have le1 : HLe W.F (upd W.F d (.frz ob (.dK kvs))) := hle_upd_norm e1 (by rw [e2]; rfl)
  have nd : ∀ {a : Addr}, W.F a = none → a ≠ d := fun {a} z q => by rw [q, e1] at z; cases z
  have hin : i < ρ.length := (List.getElem?_eq_some_iff.mp hi).1
  refine ⟨le1, fun a u e => ?_, ⟨fun a u e => ?_, E.le.f.trans le1, fun a h1 h2 => ?_⟩, by rw [List.length_set, E.len], fun j s q h1 h2 => ?_, fun j k s t a h1 h2 h3 h4 h5 h6 => ?_⟩
  · show ∃ o', upd W.H d (.frz ob (.dK kvs)) a = some o' ∧ _
    by_cases z : a = d
    · subst z
      have e' : upd W.F a (.frz ob (.dK kvs)) a = some u := e
      rw [upd_same] at e'
      exact ⟨_, upd_same, by rw [Option.some.inj e']⟩
    · have e' : upd W.F d (.frz ob (.dK kvs)) a = some u := e
      rw [upd_ne z] at e' ⊢
      exact E.ok a u e'
  · have e' : (if a = d then none else W0.H a) = some u := e
    show upd W.H d (.frz ob (.dK kvs)) a = some u
    split at e'
    · cases e'
    · rename_i z
      rw [upd_ne z]
      exact E.le.h a u e'
  · have h1' : (if a = d then none else W0.H a) ≠ none := h1
    show upd W.F d (.frz ob (.dK kvs)) a = none
    split at h1'
    · exact absurd rfl h1'
    · rename_i z
      rw [upd_ne z]
      exact E.le.own a h1' h2
  · by_cases z : i = j
    · subst z
      rw [List.getElem?_set_self hin] at h1
      rw [hs] at h2
      rw [← Option.some.inj h1, ← Option.some.inj h2]
      exact ⟨d, ob, kvs, rfl, (by show upd W.F d (.frz ob (.dK kvs)) d ≠ none; rw [upd_same]; exact (fun z => nomatch z)), upd_same, hk.mono le1⟩
    · rw [List.getElem?_set_ne z] at h1
      have q' := E.at_ j s q h1 h2
      have c0 : ∀ {a : Addr}, W0.H a = none → (cutH d W0).H a = none := fun {a} h => by
        show (if a = d then none else W0.H a) = none
        split
        · rfl
        · exact h
      cases s with
      | un => trivial
      | fz x =>
        obtain ⟨v, g1, g2⟩ := q'
        exact ⟨v, g1, Dat.mono le1 g2⟩
      | owL ys =>
        obtain ⟨a, vs, g1, g2, g3, g4, g5⟩ := q'
        exact ⟨a, vs, g1, c0 g2, by show upd W.F d _ a = none; rw [upd_ne (nd g3)]; exact g3, by show upd W.H d _ a = _; rw [upd_ne (nd g3)]; exact g4, g5.mono le1⟩
      | owD ys =>
        obtain ⟨a, vs, g1, g2, g3, g4, g5⟩ := q'
        exact ⟨a, vs, g1, c0 g2, by show upd W.F d _ a = none; rw [upd_ne (nd g3)]; exact g3, by show upd W.H d _ a = _; rw [upd_ne (nd g3)]; exact g4, g5.mono le1⟩
      | slf p C ks ds =>
        obtain ⟨a, dx, vs, g1, g2, g3, g4, g5, g6, g7⟩ := q'
        exact ⟨a, dx, vs, g1, c0 g2, by show upd W.F d _ a = none; rw [upd_ne (nd g3)]; exact g3, by show upd W.H d _ a = _; rw [upd_ne (nd g3)]; exact g4, g5, g6, g7.imp fun _ _ q => Dat.mono le1 q⟩
      | rd ys =>
        obtain ⟨a, vs, g1, g2, g3⟩ := q'
        have ne : a ≠ d := fun z => by
          have g4 := E.le.h _ _ g2
          rw [z, hH] at g4
          cases g4
        exact ⟨a, vs, g1, by show (if a = d then none else W0.H a) = _; rw [if_neg ne]; exact g2, g3.mono le1⟩
      | lk ys =>
        obtain ⟨a, ob', vs, g1, g2, g3, g4⟩ := q'
        have ne : a ≠ d := fun z => by rw [z, hH] at g3; cases g3
        exact ⟨a, ob', vs, g1, by show upd W.F d _ a ≠ none; rw [upd_ne ne]; exact g2, by show upd W.H d _ a = _; rw [upd_ne ne]; exact g3, g4.mono le1⟩
  · have old : ∀ {j : Nat} {s : Slot}, (ρ.set i (.lk xs))[j]? = some s → s.own = true → ρ[j]? = some s := fun {j s} e e' => by
      by_cases z : i = j
      · subst z
        rw [List.getElem?_set_self hin] at e
        rw [← Option.some.inj e] at e'
        cases e'
      · rw [List.getElem?_set_ne z] at e
        exact e
    exact E.dis j k s t a (old h1 h3) (old h2 h4) h3 h4 h5 h6
theorem locked_env (E : EnvOk Γ W0 W ρ σ) {ob : Obj} (hi : ρ[i]? = some (fz (Dct.mk xs))) (hs : σ[i]? = some (some (.ref d))) (hF : Rd W.F d (.dK kvs)) (hk : IsKvs Γ W.F kvs xs) (hH : W.H d = some (.frz ob (.dK kvs))) : EnvOk Γ W0 W (ρ.set i (.lk xs)) σ := by
  obtain ⟨o, e1, e2⟩ := rd_norm hF
  have hin : i < ρ.length := (List.getElem?_eq_some_iff.mp hi).1
  refine ⟨E.ok, E.le, by rw [List.length_set, E.len], fun j s q h1 h2 => ?_, fun j k s t a h1 h2 h3 h4 h5 h6 => ?_⟩
  · by_cases z : i = j
    · subst z
      rw [List.getElem?_set_self hin] at h1
      rw [hs] at h2
      rw [← Option.some.inj h1, ← Option.some.inj h2]
      exact ⟨d, ob, kvs, rfl, (by rw [e1]; exact (fun z => nomatch z)), hH, hk⟩
    · rw [List.getElem?_set_ne z] at h1
      exact E.at_ j s q h1 h2
  · have old : ∀ {j : Nat} {s : Slot}, (ρ.set i (.lk xs))[j]? = some s → s.own = true → ρ[j]? = some s := fun {j s} e e' => by
      by_cases z : i = j
      · subst z
        rw [List.getElem?_set_self hin] at e
        rw [← Option.some.inj e] at e'
        cases e'
      · rw [List.getElem?_set_ne z] at e
        exact e
    exact E.dis j k s t a (old h1 h3) (old h2 h4) h3 h4 h5 h6
/-- the lock is taken off: all else stands as it came -/
theorem unlock {W W2 : Wd} {ob : Obj} (hH : W.H d = some (.dK kvs)) (hF : Rd W.F d (.dK kvs)) (le : Wd.le ⟨upd W.F d (.frz ob (.dK kvs)), upd W.H d (.frz ob (.dK kvs))⟩ W2) (ok : HLe W2.F W2.H) :
    W.le ⟨W2.F, upd W2.H d (.dK kvs)⟩ ∧ HLe W2.F (upd W2.H d (.dK kvs)) ∧ W2.H d = some (.frz ob (.dK kvs)) := by
  obtain ⟨o, e1, e2⟩ := rd_norm hF
  have le1 : HLe W.F (upd W.F d (.frz ob (.dK kvs))) := hle_upd_norm e1 (by rw [e2]; rfl)
  have hd : W2.H d = some (.frz ob (.dK kvs)) := le.h _ _ upd_same
  refine ⟨⟨fun a u e => ?_, le1.trans le.f, fun a h1 h2 => ?_⟩, fun a u e => ?_, hd⟩
  · show upd W2.H d (.dK kvs) a = some u
    by_cases z : a = d
    · subst z
      rw [upd_same, ← e, hH]
    · rw [upd_ne z]
      exact le.h a u (by show upd W.H d _ a = some u; rw [upd_ne z]; exact e)
  · have z : a ≠ d := fun q => by rw [q, e1] at h2; cases h2
    exact le.own a (by show upd W.H d _ a ≠ none; rw [upd_ne z]; exact h1) (by show upd W.F d _ a = none; rw [upd_ne z]; exact h2)
  · by_cases z : a = d
    · subst z
      obtain ⟨o', g1, g2⟩ := ok a u e
      rw [hd] at g1
      cases g1
      exact ⟨_, upd_same, by rw [← g2]; rfl⟩
    · rw [upd_ne z]
      exact ok a u e
end
section
variable {X : Cx} {Γ : Cs} {W0 : Wd} {ρ : List Slot} {α β : Type} [Rep α] [Rep β] {xs : List (Int × α)} {e : Expr}
theorem x_lock {m : Option β} (i : Nat) (inner : ∀ W0', EX X Γ W0' e (ρ.set i (.lk xs)) m) (hi : ρ[i]? = some (fz (Dct.mk xs)) := by rfl) : EX X Γ W0 e ρ m := ⟨fun x hm W σ E Q k => by
  obtain ⟨v, g1, d, kvs, g2, g3, g4⟩ := E.get hi
  subst g2
  rcases E.ok.dK g3 with hH | ⟨ob, hH⟩
  · refine wp_of (pe_lock pe_wp) ⟨d, _, hH, trivial, fun od => ?_⟩
    obtain ⟨le1, E1⟩ := lock_env E hi g1 g3 g4 hH od
    refine (inner _).run x hm _ σ E1 _ fun v W2 le2 ok2 i2 => ?_
    obtain ⟨l1, l2, l3⟩ := unlock hH g3 le2 ok2
    exact ⟨l3, k v ⟨W2.F, upd W2.H d _⟩ l1 l2 i2⟩
  · exact (inner W0).run x hm W σ (locked_env E hi g1 g3 g4 hH) Q k⟩
theorem o_lock {m : Option (List β)} (i : Nat) (inner : ∀ W0', OX X Γ W0' e (ρ.set i (.lk xs)) m) (hi : ρ[i]? = some (fz (Dct.mk xs)) := by rfl) : OX X Γ W0 e ρ m := ⟨fun x hm W σ E Q k => by
  obtain ⟨v, g1, d, kvs, g2, g3, g4⟩ := E.get hi
  subst g2
  rcases E.ok.dK g3 with hH | ⟨ob, hH⟩
  · refine wp_of (pe_lock pe_wp) ⟨d, _, hH, trivial, fun od => ?_⟩
    obtain ⟨le1, E1⟩ := lock_env E hi g1 g3 g4 hH od
    refine (inner _).run x hm _ σ E1 _ fun p vs W2 le2 ok2 h1 h2 h3 h4 => ?_
    obtain ⟨l1, l2, l3⟩ := unlock hH g3 le2 ok2
    have np : p ≠ d := fun z => by rw [z, l3] at h3; cases h3
    have h1' : upd W.H d (.frz od (.dK kvs)) p = none := h1
    rw [upd_ne np] at h1'
    exact ⟨l3, k p vs ⟨W2.F, upd W2.H d _⟩ l1 l2 h1' h2 (by show upd W2.H d _ p = _; rw [upd_ne np]; exact h3) h4⟩
  · exact (inner W0).run x hm W σ (locked_env E hi g1 g3 g4 hH) Q k⟩
theorem od_lock {m : Option (List (Int × β))} (i : Nat) (inner : ∀ W0', OD X Γ W0' e (ρ.set i (.lk xs)) m) (hi : ρ[i]? = some (fz (Dct.mk xs)) := by rfl) : OD X Γ W0 e ρ m := ⟨fun x hm W σ E Q k => by
  obtain ⟨v, g1, d, kvs, g2, g3, g4⟩ := E.get hi
  subst g2
  rcases E.ok.dK g3 with hH | ⟨ob, hH⟩
  · refine wp_of (pe_lock pe_wp) ⟨d, _, hH, trivial, fun od => ?_⟩
    obtain ⟨le1, E1⟩ := lock_env E hi g1 g3 g4 hH od
    refine (inner _).run x hm _ σ E1 _ fun p vs W2 le2 ok2 h1 h2 h3 h4 => ?_
    obtain ⟨l1, l2, l3⟩ := unlock hH g3 le2 ok2
    have np : p ≠ d := fun z => by rw [z, l3] at h3; cases h3
    have h1' : upd W.H d (.frz od (.dK kvs)) p = none := h1
    rw [upd_ne np] at h1'
    exact ⟨l3, k p vs ⟨W2.F, upd W2.H d _⟩ l1 l2 h1' h2 (by show upd W2.H d _ p = _; rw [upd_ne np]; exact h3) h4⟩
  · exact (inner W0).run x hm W σ (locked_env E hi g1 g3 g4 hH) Q k⟩
/-- the locked dict itself -/
theorem x_lk (i : Nat) {n : Str} {pos : Pos} (h : ρ[i]? = some (.lk xs) := by rfl) (hN : X.N[i]? = some n := by rfl)
    (hv : Vis X.env.scope n := by first | exact Or.inl rfl | exact Or.inr (Or.inl rfl) | exact Or.inr (Or.inr rfl)) (hd : (n == ("__debug__" : Str)) = false := by decide)
    (hcd : (n == ("__classdict__" : Str)) = false := by decide) : DX X Γ W0 (.Name n pos) ρ (some xs) := ⟨fun y hm W σ E Q k => by
  cases hm
  obtain ⟨o, h1, a, ob, kvs, h2, h3, h4, h5⟩ := E.slot h
  subst h2
  exact wp_of (pv i hN hv hd hcd) ⟨_, h1, k a kvs W .refl E.ok (.inr ⟨ob, h4⟩) h5⟩⟩
theorem kvs_at {F : Hp} {kvs : List (Key × V)} {xs : List (Int × α)} (h : IsKvs Γ F kvs xs) : ∀ {i : Nat} {q : Int × α}, xs[i]? = some q → ∃ v, kvs[i]? = some (Sum.inl q.1, v) ∧ Is Γ F v q.2 := by
  induction h with
  | nil => intro i q h; simp at h
  | @cons p x _ _ r _ ih =>
    intro i q h
    cases i with
    | zero =>
      have e := Option.some.inj (by simpa using h)
      subst e
      obtain ⟨k, v⟩ := p
      obtain ⟨r1, r2⟩ := r
      have r1' : k = Sum.inl x.1 := r1
      exact ⟨v, by rw [r1']; rfl, r2⟩
    | succ i => exact ih (by simpa using h)
theorem iw_keys {tg : Expr} (i : Nat) {n : Str} {pos : Pos} (h : ρ[i]? = some (.lk xs) := by rfl) (hN : X.N[i]? = some n := by rfl)
    (hv : Vis X.env.scope n := by first | exact Or.inl rfl | exact Or.inr (Or.inl rfl) | exact Or.inr (Or.inr rfl)) (hd : (n == ("__debug__" : Str)) = false := by decide)
    (hcd : (n == ("__classdict__" : Str)) = false := by decide) : IXc X Γ W0 tg (.Name n pos) ρ (some (xs.map (·.1))) := ⟨fun y hm W σ E R k => by
  cases hm
  obtain ⟨o, h1, a, ob, kvs, h2, h3, h4, h5⟩ := E.slot h
  subst h2
  refine wi_of (pi_keys (pv i hN hv hd hcd)) ⟨_, h1, a, ob, rfl, .inl ⟨kvs, h4, k _ W .refl E.ok fun W2 le ok2 j => ?_⟩⟩
  have hl : kvs.length = xs.length := h5.len
  have hH := le.h _ _ h4
  refine ⟨fun hj => ⟨hH, by rw [List.length_map] at hj; omega⟩, fun x hx => ?_⟩
  have hx' : (xs.map (·.1))[j]? = some x := hx
  rw [List.getElem?_map] at hx'
  cases q : xs[j]? with
  | none =>
    rw [q] at hx'
    cases hx'
  | some p =>
    rw [q] at hx'
    have ex : p.1 = x := Option.some.inj hx'
    obtain ⟨v, g1, g2⟩ := kvs_at h5 q
    have hj : j < xs.length := (List.getElem?_eq_some_iff.mp q).1
    refine ⟨⟨hH, by omega⟩, fun u H' ⟨z1, kk, vv, z2, z3⟩ => ⟨W2, z1.symm, .refl, ok2, ?_⟩⟩
    rw [g1] at z2
    have z4 := Option.some.inj z2
    injection z4 with z5 z6
    show u = V.int x
    rw [z3, ← z5, ← ex]
    rfl⟩
theorem iw_items {elts : List Expr} {kk : Nat} {tpos apos cpos : Pos} (i : Nat) {n : Str} {pos : Pos} (h : ρ[i]? = some (.lk xs) := by rfl) (hN : X.N[i]? = some n := by rfl)
    (hv : Vis X.env.scope n := by first | exact Or.inl rfl | exact Or.inr (Or.inl rfl) | exact Or.inr (Or.inr rfl)) (hd : (n == ("__debug__" : Str)) = false := by decide)
    (hcd : (n == ("__classdict__" : Str)) = false := by decide) (hbase : attributeBase (.Name n pos) "items" X.env (eval (.Name n pos) X.env) = eval (.Name n pos) X.env := by rfl) (hline : (apos.endLine == cpos.line) = true := by rfl) : IXc X Γ W0 (.Tuple elts kk tpos) (.Call (.Attribute (.Name n pos) "items" apos) [] [] cpos) ρ (some xs) := ⟨fun y hm W σ E R k => by
  cases hm
  obtain ⟨o, h1, a, ob, kvs, h2, h3, h4, h5⟩ := E.slot h
  subst h2
  refine wi_of (pi_items (pv i hN hv hd hcd) hbase hline) ⟨_, h1, a, ob, kvs, rfl, h4, k _ W .refl E.ok fun W2 le ok2 j => ?_⟩
  have hl : kvs.length = xs.length := h5.len
  have hH := le.h _ _ h4
  refine ⟨fun hj => ⟨hH, by omega⟩, fun x hx => ?_⟩
  obtain ⟨v, g1, g2⟩ := kvs_at h5 hx
  have hj : j < xs.length := (List.getElem?_eq_some_iff.mp hx).1
  refine ⟨⟨hH, by omega⟩, fun u H' ⟨T, kk, vv, z1, z2, z3, z4⟩ => ?_⟩
  rw [g1] at z1
  have z5 := Option.some.inj z1
  injection z5 with z6 z7
  subst z6 z7
  obtain ⟨p1, p2, p3⟩ := tup_new (vs := [kV (Sum.inl x.1), v]) ok2 z3
  refine ⟨⟨upd W2.F T (.tup [kV (Sum.inl x.1), v]), upd W2.H T (.tup [kV (Sum.inl x.1), v])⟩, z4.symm, p1, p2, T, kV (Sum.inl x.1), v, z2, upd_same, ?_, ?_⟩
  · rfl
  · exact Rep.mono (le.f.trans p3) g2⟩
end
end SR
end
section
set_option Elab.async false
set_option linter.all false
set_option maxRecDepth 100000
set_option maxHeartbeats 4000000
namespace SR
open PySem PySem.Spec PyProof.Rows L2

/-! ### {k: v for ..} -/
def dcGo {α β : Type} (t : α → Option Bool) (fk : α → Option Int) (fv : α → Option β) : List (Int × β) → List α → Option (List (Int × β))
  | acc, [] => some acc
  | acc, x :: xs => (t x).bind fun b => if b = true then (fk x).bind fun k => (fv x).bind fun v => dcGo t fk fv (putD acc k v) xs else dcGo t fk fv acc xs
def dcM {α β : Type} (t : α → Option Bool) (fk : α → Option Int) (fv : α → Option β) (ml : Option (List α)) : Option (List (Int × β)) := ml.bind fun xs => if (xs.length : Int) < cap then dcGo t fk fv [] xs else none
theorem putD_len {α : Type} (k : Int) (v : α) : ∀ xs : List (Int × α), (putD xs k v).length ≤ xs.length + 1
  | [] => Nat.le_refl _
  | (j, w) :: r => by
    unfold putD
    split
    · simp
    · simp only [List.length_cons]
      have := putD_len k v r
      omega
theorem wipe_wipe : ∀ (vs : List Nat) (σ : St), L2.wipe (L2.wipe σ vs) vs = L2.wipe σ vs := by
  intro vs σ
  apply List.ext_getElem?
  intro j
  have look : ∀ (vs : List Nat) (σ : St), (L2.wipe σ vs)[j]? = if j ∈ vs then (if j < σ.length then some none else none) else σ[j]? := by
    intro vs
    induction vs with
    | nil => intro σ; simp [L2.wipe]
    | cons a r ih =>
      intro σ
      show ((L2.wipe σ r).set a none)[j]? = _
      rw [List.getElem?_set, ih σ, L2.wipe_length]
      by_cases h1 : a = j
      · subst h1
        by_cases h2 : a < σ.length <;> simp [h2]
      · have h1' : ¬ j = a := fun z => h1 z.symm
        simp [h1, h1']
  rw [look, look, L2.wipe_length]
  split <;> rfl
section
variable {X : Cx} {Γ : Cs} {W0 : Wd} {ρ : List Slot}
/-- the reading of such a one -/
theorem rd_dc {α β : Type} [Rep α] [Rep β] {tg iter kx vx : Expr} {ifs : List Expr} {scope : Scope} {own : List (Str × Nat)} {g : TG} {put : List Slot → α → List Slot} {ml : Option (List α)} {t : α → Option Bool} {fk : α → Option Int} {fv : α → Option β}
    (hi : IXc X Γ W0 tg iter ρ ml) (ts : TgS Γ g put (own.map (·.2)))
    (ht : ∀ (s : Shared) (H : Hp) (C : Addr) (cl : List (Str × Addr)) (fp : List Addr) (x : α), TsX (X.blk s H scope (compEnvC scope cl C X.env) fp) Γ W0 ifs (put (wipeS ρ (own.map (·.2))) x) (t x))
    (hk : ∀ (s : Shared) (H : Hp) (C : Addr) (cl : List (Str × Addr)) (fp : List Addr) (x : α), EX (X.blk s H scope (compEnvC scope cl C X.env) fp) Γ W0 kx (put (wipeS ρ (own.map (·.2))) x) (fk x))
    (he : ∀ (s : Shared) (H : Hp) (C : Addr) (cl : List (Str × Addr)) (fp : List Addr) (x : α), EX (X.blk s H scope (compEnvC scope cl C X.env) fp) Γ W0 vx (put (wipeS ρ (own.map (·.2))) x) (fv x))
    {ys : List (Int × β)} (hm : dcM t fk fv ml = some ys) {W : Wd} {σ : St} (E : EnvOk Γ W0 W ρ σ) {Q : VK} (k : ∀ p kvs W2, W.le W2 → HLe W2.F W2.H → W.H p = none → W2.F p = none → W2.H p = some (.dK kvs) → IsKvs Γ W2.F kvs ys → Q (.ref p) W2.H) :
    tDc (wpI X tg iter) g (fun σ H Q => ∀ (s : Shared) (H0 : Hp) (C : Addr) (cl : List (Str × Addr)) (fp : List Addr) pins s1, Inv (X.blk s H0 scope (compEnvC scope cl C X.env) fp) pins σ H s1 →
        wpAny (model X.prog X.w) X.A (forIn ifs true fun c r => if r = true then do let ok ← isTrue c (compEnvC scope cl C X.env) (eval c (compEnvC scope cl C X.env)); pure (ForInStep.yield ok) else pure (ForInStep.yield r)) (TP (X.blk s H0 scope (compEnvC scope cl C X.env) fp) pins σ Q) (fun _ _ => False) s1)
      (fun σ H Q => ∀ (s : Shared) (H0 : Hp) (C : Addr) (cl : List (Str × Addr)) (fp : List Addr), wpE (X.blk s H0 scope (compEnvC scope cl C X.env) fp) kx σ H Q)
      (fun σ H Q => ∀ (s : Shared) (H0 : Hp) (C : Addr) (cl : List (Str × Addr)) (fp : List Addr), wpE (X.blk s H0 scope (compEnvC scope cl C X.env) fp) vx σ H Q) (own.map (·.2)) σ W.H Q := by
  obtain ⟨xs, e1, hm⟩ := bindo hm
  split at hm
  · rename_i hcap
    refine hi.run xs e1 W σ E _ fun J W2 le ok hw => ?_
    intro D hD
    refine ⟨fun i m H' => m = xs.length - i ∧ i ≤ xs.length ∧ ∃ (W3 : Wd) (acc : List (Key × V)) (as : List (Int × β)), W3.H = H' ∧ W2.le W3 ∧ HLe W2.F W3.F ∧ EnvOk Γ W0 W3 (wipeS ρ (own.map (·.2))) (L2.wipe σ (own.map (·.2))) ∧ W3.F D = none ∧ W3.H D = some (.dK acc) ∧ IsKvs Γ W3.F acc as ∧ as.length ≤ i ∧ dcGo t fk fv as (xs.drop i) = some ys, ?_, ?_⟩
    · have hDF : W2.F D = none := ok.none_of hD
      refine ⟨xs.length, by omega, Nat.zero_le _, ⟨W2.F, upd W2.H D (.dK [])⟩, [], [], rfl, le_poke .refl hD, .refl, ?_, hDF, upd_same, .nil, Nat.le_refl _, hm⟩
      have E2 := (E.mono le ok).wipe (own.map (·.2))
      exact E2.poke (E2.le.free hD) hDF (E2.notOwned hD)
    · rintro i m H' ⟨rfl, hi', W3, acc, as, rfl, le3, hF, E3, hDF, hDH, ha, hal, h3⟩
      obtain ⟨w1, w2⟩ := hw W3 le3 E3.ok i
      have hD0 : W.H D = none := le.free hD
      have hDW0 : W0.H D = none := E.le.free hD0
      by_cases hlt : i < xs.length
      · have hx : xs[i]? = some xs[i] := List.getElem?_eq_getElem hlt
        obtain ⟨go, w3⟩ := w2 _ hx
        rw [drop_at hx] at h3
        obtain ⟨b, h5, h3⟩ := bindo (show (t xs[i]).bind (fun b => if b = true then (fk xs[i]).bind fun k => (fv xs[i]).bind fun v => dcGo t fk fv (putD as k v) (xs.drop (i + 1)) else dcGo t fk fv as (xs.drop (i + 1))) = some ys from h3)
        refine .inr ⟨go, fun H4 => ∃ (W4 : Wd) (acc : List (Key × V)) (as : List (Int × β)), W4.H = H4 ∧ W2.le W4 ∧ HLe W2.F W4.F ∧ EnvOk Γ W0 W4 (wipeS ρ (own.map (·.2))) (L2.wipe σ (own.map (·.2))) ∧ W4.F D = none ∧ W4.H D = some (.dK acc) ∧ IsKvs Γ W4.F acc as ∧ as.length ≤ i + 1 ∧ dcGo t fk fv as (xs.drop (i + 1)) = some ys,
          fun H4 k4 => ⟨xs.length - (i + 1), by omega, rfl, hlt, k4⟩, fun v H4 y => ?_⟩
        obtain ⟨W4, rfl, le4, ok4, is4⟩ := w3 v H4 y
        refine ts W0 W4 v _ _ _ _ (E3.mono le4 ok4) is4 fun σ5 E5 hwp => ⟨?_, ?_⟩
        · have e : L2.wipe σ5 (own.map (·.2)) = L2.wipe (L2.wipe σ (own.map (·.2))) (own.map (·.2)) := hwp
          rw [e]
          exact wipe_wipe _ _
        · intro s H0 C cl fp pins s1 I1
          refine (ht s H0 C cl fp xs[i]).run b h5 W4 σ5 E5 _ (fun W6 le6 ok6 => ?_) pins s1 I1
          have hDH4 : W6.H D = some (.dK acc) := le6.h D _ (le4.h D _ hDH)
          have hDF4 : W6.F D = none := le6.own D (by rw [le4.h D _ hDH]; exact fun z => nomatch z) (le4.own D (by rw [hDH]; exact fun z => nomatch z) hDF)
          cases b with
          | true =>
            obtain ⟨z, h6, h3⟩ := bindo (show ((fk xs[i]).bind fun k => (fv xs[i]).bind fun v => dcGo t fk fv (putD as k v) (xs.drop (i + 1))) = some ys from h3)
            obtain ⟨zv, h7, h3⟩ := bindo h3
            refine iteT fun s H0 C cl fp => ?_
            refine (hk s H0 C cl fp xs[i]).run z h6 W6 σ5 (E5.mono le6 ok6) _ fun u W7 le7 ok7 is7 => ?_
            intro s H0 C cl fp
            refine (he s H0 C cl fp xs[i]).run zv h7 W7 σ5 ((E5.mono le6 ok6).mono le7 ok7) _ fun uv W8 le8 ok8 is8 => ?_
            have le48 := ((le4.trans le6).trans le7).trans le8
            have hDH8 : W8.H D = some (.dK acc) := le48.h D _ hDH
            have hDF8 : W8.F D = none := le48.own D (by rw [hDH]; exact fun z => nomatch z) hDF
            have hE8 := E3.mono le48 ok8
            have eu : u = V.int z := is7
            subst eu
            refine ⟨acc, Sum.inl z, rfl, hDH8, ?_, ⟨W8.F, upd W8.H D (.dK (putK acc (Sum.inl z) uv))⟩, _, putD as z zv, rfl, le_poke (le3.trans le48) hD, hF.trans le48.f, ?_, hDF8, upd_same, put_is (ha.mono le48.f) z is8, ?_, h3⟩
            · have := ha.len
              refine Nat.lt_of_le_of_lt ?_ (cap_ok hcap)
              omega
            · exact hE8.poke hDW0 hDF8 (fun j sl e1 e2 e3 => (E.mono le ok).wipe (own.map (·.2)) |>.notOwned hD j sl e1 e2 e3)
            · have := putD_len z zv as
              omega
          | false =>
            refine iteF ⟨W6, acc, as, rfl, le3.trans (le4.trans le6), hF.trans (le4.trans le6).f, E3.mono (le4.trans le6) ok6, hDF4, hDH4, ha.mono (le4.trans le6).f, by omega, h3⟩
      · have e : i = xs.length := by omega
        subst e
        rw [List.drop_length] at h3
        cases h3
        exact .inl ⟨w1 (Nat.le_refl _), k D acc W3 (le.trans le3) E3.ok hD0 hDF hDH ha⟩
  · cases hm
theorem od_dc {α β : Type} [Rep α] [Rep β] {tg iter kx vx : Expr} {ifs : List Expr} {scope : Scope} {own : List (Str × Nat)} {pos : Pos} {g : TG} {put : List Slot → α → List Slot} {ml : Option (List α)} {t : α → Option Bool} {fk : α → Option Int} {fv : α → Option β}
    (own_ : own = own) (nd : X.N.Nodup) (ok : BlkOk X.N X.env.scope scope own) (hg : ∀ (s : Shared) (H : Hp) (C : Addr) (cl : List (Str × Addr)) (fp : List Addr), PG (X.blk s H scope (compEnvC scope cl C X.env) fp) tg g)
    (hi : IXc X Γ W0 tg iter ρ ml) (ts : TgS Γ g put (own.map (·.2)))
    (ht : ∀ (s : Shared) (H : Hp) (C : Addr) (cl : List (Str × Addr)) (fp : List Addr) (x : α), TsX (X.blk s H scope (compEnvC scope cl C X.env) fp) Γ W0 ifs (put (wipeS ρ (own.map (·.2))) x) (t x))
    (hk : ∀ (s : Shared) (H : Hp) (C : Addr) (cl : List (Str × Addr)) (fp : List Addr) (x : α), EX (X.blk s H scope (compEnvC scope cl C X.env) fp) Γ W0 kx (put (wipeS ρ (own.map (·.2))) x) (fk x))
    (he : ∀ (s : Shared) (H : Hp) (C : Addr) (cl : List (Str × Addr)) (fp : List Addr) (x : α), EX (X.blk s H scope (compEnvC scope cl C X.env) fp) Γ W0 vx (put (wipeS ρ (own.map (·.2))) x) (fv x))
    (hc : X.calm = true := by rfl) (hs : ∀ x, foldedSetIterable iter X.env x = pure x := by intro _; rfl) : OD X Γ W0 (.DictComp kx vx [⟨tg, iter, ifs, 0⟩] scope pos) ρ (dcM t fk fv ml) := ⟨fun ys hm W σ E Q k => by
  refine wp_of (pe_dc (own := own) (tt := (fun σ H Q => ∀ (s : Shared) (H0 : Hp) (C : Addr) (cl : List (Str × Addr)) (fp : List Addr) pins s1, Inv (X.blk s H0 scope (compEnvC scope cl C X.env) fp) pins σ H s1 →
        wpAny (model X.prog X.w) X.A (forIn ifs true fun c r => if r = true then do let ok ← isTrue c (compEnvC scope cl C X.env) (eval c (compEnvC scope cl C X.env)); pure (ForInStep.yield ok) else pure (ForInStep.yield r)) (TP (X.blk s H0 scope (compEnvC scope cl C X.env) fp) pins σ Q) (fun _ _ => False) s1))
      (tk := (fun σ H Q => ∀ (s : Shared) (H0 : Hp) (C : Addr) (cl : List (Str × Addr)) (fp : List Addr), wpE (X.blk s H0 scope (compEnvC scope cl C X.env) fp) kx σ H Q))
      (tv := (fun σ H Q => ∀ (s : Shared) (H0 : Hp) (C : Addr) (cl : List (Str × Addr)) (fp : List Addr), wpE (X.blk s H0 scope (compEnvC scope cl C X.env) fp) vx σ H Q)) hc nd pi_wp ok hg
      (fun s H C cl fp => ⟨fun pins s1 σ1 H1 Q1 I1 h1 => h1 s H C cl fp pins s1 I1⟩) (fun s H C cl fp => ⟨fun pins s1 σ1 H1 Q1 I1 h1 => h1 s H C cl fp pins s1 I1⟩) (fun s H C cl fp => ⟨fun pins s1 σ1 H1 Q1 I1 h1 => h1 s H C cl fp pins s1 I1⟩) hs) ?_
  exact rd_dc hi ts ht hk he hm E k⟩
/-- name = {..} on one line, the name a local -/
theorem ps_setDc {i : Nat} {y : Str} {py : Pos} {kx vx tg iter : Expr} {ifs : List Expr} {scope : Scope} {own : List (Str × Nat)} {pos spos : Pos} {wi : TI} {g : TG} {tt : TT} {tk tv : TE} (hc : X.calm = true) (hN : X.N.Nodup) (hy : X.N[i]? = some y) (hyl : X.env.scope.names.lookup y = some .local)
    (hsw : swapsWith (.DictComp kx vx [⟨tg, iter, ifs, 0⟩] scope pos) (some (.Name y py)) spos.line X.env = pure true) (hi : PI X tg iter wi) (ok : BlkOk X.N X.env.scope scope own)
    (hg : ∀ (s : Shared) (H : Hp) (C : Addr) (cl : List (Str × Addr)) (fp : List Addr), PG (X.blk s H scope (compEnvC scope cl C X.env) fp) tg g) (ht : ∀ (s : Shared) (H : Hp) (C : Addr) (cl : List (Str × Addr)) (fp : List Addr), PTs (X.blk s H scope (compEnvC scope cl C X.env) fp) ifs tt)
    (hk : ∀ (s : Shared) (H : Hp) (C : Addr) (cl : List (Str × Addr)) (fp : List Addr), PE (X.blk s H scope (compEnvC scope cl C X.env) fp) kx tk) (he : ∀ (s : Shared) (H : Hp) (C : Addr) (cl : List (Str × Addr)) (fp : List Addr), PE (X.blk s H scope (compEnvC scope cl C X.env) fp) vx tv)
    (hs : ∀ x, foldedSetIterable iter X.env x = pure x) : PS X (.Assign [.Name y py] (.DictComp kx vx [⟨tg, iter, ifs, 0⟩] scope pos) spos) (tAsg (tDc wi g tt tk tv (own.map (·.2))) (gName i)) := by
  refine ⟨fun pins s σ H D I h => ?_⟩
  rw [exec_Assign_Name_used _ _ _ _ hsw]
  refine wpAny_bind (wpAny_standAt (wpAny_bind ?_))
  show wpAny _ X.A (do let _ ← comprehension (.DictComp kx vx [⟨tg, iter, ifs, 0⟩] scope pos) scope X.env (firstIterPos [⟨tg, iter, ifs, 0⟩] pos) newDict false (eval iter X.env) (some (assign (.Name y py) X.env))) _ _ s
  have h : tDc wi g tt tk tv (own.map (·.2)) σ H (fun x H1 => gName i x σ H1 D.nx) := h
  refine wpAny_bind (thn (dc_core (Qf := fun _ s' => SP X pins D .next s') hc hN I hi ok hg ht hk he hs h fun L C s' m H' I' q hn f => ?_) fun _ s' hq => wpAny_pure (wpAny_pure hq))
  show wpAny _ _ (assign (.Name y py) X.env (.ref L)) _ _ _
  refine wpAny_assign_Name (store_ok2 (v := V.ref L) I' hN hy (.inl hyl) rfl (fun s2 I2 ⟨a, sb, ha⟩ => ?_) (.inr hyl))
  obtain ⟨f0, f1, f2, f3, f4, f5⟩ := f
  have haC : C ≠ a := by
    rcases ha with z | z
    · rw [z]; exact f1
    · exact fun e => f4 y a z e.symm
  refine ⟨m, hn.sameBut sb haC, fun h3 sb3 => ?_⟩
  exact ⟨_, H', I2.turned (t' := s2.toks) (fun b o hb e => (sb3.2 b hb).trans e) f0 f1 f3 f4 f5, q⟩
theorem s_dc {α β : Type} [Rep α] [Rep β] {tg iter kx vx : Expr} {ifs : List Expr} {scope : Scope} {own : List (Str × Nat)} {pos spos py : Pos} {y : Str} {g : TG} {put : List Slot → α → List Slot} {ml : Option (List α)} {t : α → Option Bool} {fk : α → Option Int} {fv : α → Option β} (i : Nat)
    (own_ : own = own) (nd : X.N.Nodup) (ok : BlkOk X.N X.env.scope scope own) (hg : ∀ (s : Shared) (H : Hp) (C : Addr) (cl : List (Str × Addr)) (fp : List Addr), PG (X.blk s H scope (compEnvC scope cl C X.env) fp) tg g)
    (hi : IXc X Γ W0 tg iter ρ ml) (ts : TgS Γ g put (own.map (·.2)))
    (ht : ∀ (s : Shared) (H : Hp) (C : Addr) (cl : List (Str × Addr)) (fp : List Addr) (x : α), TsX (X.blk s H scope (compEnvC scope cl C X.env) fp) Γ W0 ifs (put (wipeS ρ (own.map (·.2))) x) (t x))
    (hk : ∀ (s : Shared) (H : Hp) (C : Addr) (cl : List (Str × Addr)) (fp : List Addr) (x : α), EX (X.blk s H scope (compEnvC scope cl C X.env) fp) Γ W0 kx (put (wipeS ρ (own.map (·.2))) x) (fk x))
    (he : ∀ (s : Shared) (H : Hp) (C : Addr) (cl : List (Str × Addr)) (fp : List Addr) (x : α), EX (X.blk s H scope (compEnvC scope cl C X.env) fp) Γ W0 vx (put (wipeS ρ (own.map (·.2))) x) (fv x))
    (hsw : swapsWith (.DictComp kx vx [⟨tg, iter, ifs, 0⟩] scope pos) (some (.Name y py)) spos.line X.env = pure true) (hy : X.N[i]? = some y := by rfl) (hyl : X.env.scope.names.lookup y = some .local := by rfl)
    (hc : X.calm = true := by rfl) (hs : ∀ x, foldedSetIterable iter X.env x = pure x := by intro _; rfl) : SX X Γ W0 (.Assign [.Name y py] (.DictComp kx vx [⟨tg, iter, ifs, 0⟩] scope pos) spos) ρ (dcM t fk fv ml) (fun ys => ρ.set i (.owD ys)) := ⟨fun ys hm W σ E D q => by
  refine ws_of (ps_setDc (i := i) (own := own) (tt := (fun σ H Q => ∀ (s : Shared) (H0 : Hp) (C : Addr) (cl : List (Str × Addr)) (fp : List Addr) pins s1, Inv (X.blk s H0 scope (compEnvC scope cl C X.env) fp) pins σ H s1 →
        wpAny (model X.prog X.w) X.A (forIn ifs true fun c r => if r = true then do let ok ← isTrue c (compEnvC scope cl C X.env) (eval c (compEnvC scope cl C X.env)); pure (ForInStep.yield ok) else pure (ForInStep.yield r)) (TP (X.blk s H0 scope (compEnvC scope cl C X.env) fp) pins σ Q) (fun _ _ => False) s1))
      (tk := (fun σ H Q => ∀ (s : Shared) (H0 : Hp) (C : Addr) (cl : List (Str × Addr)) (fp : List Addr), wpE (X.blk s H0 scope (compEnvC scope cl C X.env) fp) kx σ H Q))
      (tv := (fun σ H Q => ∀ (s : Shared) (H0 : Hp) (C : Addr) (cl : List (Str × Addr)) (fp : List Addr), wpE (X.blk s H0 scope (compEnvC scope cl C X.env) fp) vx σ H Q)) hc nd hy hyl hsw pi_wp ok hg
      (fun s H C cl fp => ⟨fun pins s1 σ1 H1 Q1 I1 h1 => h1 s H C cl fp pins s1 I1⟩) (fun s H C cl fp => ⟨fun pins s1 σ1 H1 Q1 I1 h1 => h1 s H C cl fp pins s1 I1⟩) (fun s H C cl fp => ⟨fun pins s1 σ1 H1 Q1 I1 h1 => h1 s H C cl fp pins s1 I1⟩) hs) ?_
  exact rd_dc hi ts ht hk he hm E fun p vs W2 le ok2 h1 h2 h3 h4 => q W2 _ le.f ((E.mono le ok2).setOwn i (fun j s e1 e2 => E.notOwned h1 j s e1 e2) rfl ⟨p, vs, rfl, E.le.free h1, h2, h3, h4⟩)⟩
/-- .. over a frozen dict, locked meanwhile -/
theorem s_dcL {α β : Type} [Rep α] [Rep β] {tg iter kx vx : Expr} {ifs : List Expr} {scope : Scope} {own : List (Str × Nat)} {γ : Type} [Rep γ] {zs : List (Int × γ)} {pos spos py : Pos} {y : Str} {g : TG} {put : List Slot → α → List Slot} {ml : Option (List α)} {t : α → Option Bool} {fk : α → Option Int} {fv : α → Option β} (i l : Nat)
    (own_ : own = own) (nd : X.N.Nodup) (ok : BlkOk X.N X.env.scope scope own) (hg : ∀ (s : Shared) (H : Hp) (C : Addr) (cl : List (Str × Addr)) (fp : List Addr), PG (X.blk s H scope (compEnvC scope cl C X.env) fp) tg g)
    (hi : ∀ W0', IXc X Γ W0' tg iter (ρ.set l (.lk zs)) ml) (ts : TgS Γ g put (own.map (·.2)))
    (ht : ∀ (W0' : Wd) (s : Shared) (H : Hp) (C : Addr) (cl : List (Str × Addr)) (fp : List Addr) (x : α), TsX (X.blk s H scope (compEnvC scope cl C X.env) fp) Γ W0' ifs (put (wipeS (ρ.set l (.lk zs)) (own.map (·.2))) x) (t x))
    (hk : ∀ (W0' : Wd) (s : Shared) (H : Hp) (C : Addr) (cl : List (Str × Addr)) (fp : List Addr) (x : α), EX (X.blk s H scope (compEnvC scope cl C X.env) fp) Γ W0' kx (put (wipeS (ρ.set l (.lk zs)) (own.map (·.2))) x) (fk x))
    (he : ∀ (W0' : Wd) (s : Shared) (H : Hp) (C : Addr) (cl : List (Str × Addr)) (fp : List Addr) (x : α), EX (X.blk s H scope (compEnvC scope cl C X.env) fp) Γ W0' vx (put (wipeS (ρ.set l (.lk zs)) (own.map (·.2))) x) (fv x))
    (hsw : swapsWith (.DictComp kx vx [⟨tg, iter, ifs, 0⟩] scope pos) (some (.Name y py)) spos.line X.env = pure true) (hy : X.N[i]? = some y := by rfl) (hyl : X.env.scope.names.lookup y = some .local := by rfl)
    (hc : X.calm = true := by rfl) (hs : ∀ x, foldedSetIterable iter X.env x = pure x := by intro _; rfl) (hl : ρ[l]? = some (fz (Dct.mk zs)) := by rfl) : SX X Γ W0 (.Assign [.Name y py] (.DictComp kx vx [⟨tg, iter, ifs, 0⟩] scope pos) spos) ρ (dcM t fk fv ml) (fun ys => ρ.set i (.owD ys)) := ⟨fun ys hm W σ E D q => by
  obtain ⟨v, g1, d, kvs, g2, g3, g4⟩ := E.get hl
  subst g2
  rcases E.ok.dK g3 with hH | ⟨ob, hH⟩
  · refine ws_of (ps_lock (ps_setDc (i := i) (own := own) (tt := (fun σ H Q => ∀ (s : Shared) (H0 : Hp) (C : Addr) (cl : List (Str × Addr)) (fp : List Addr) pins s1, Inv (X.blk s H0 scope (compEnvC scope cl C X.env) fp) pins σ H s1 →
        wpAny (model X.prog X.w) X.A (forIn ifs true fun c r => if r = true then do let ok ← isTrue c (compEnvC scope cl C X.env) (eval c (compEnvC scope cl C X.env)); pure (ForInStep.yield ok) else pure (ForInStep.yield r)) (TP (X.blk s H0 scope (compEnvC scope cl C X.env) fp) pins σ Q) (fun _ _ => False) s1))
      (tk := (fun σ H Q => ∀ (s : Shared) (H0 : Hp) (C : Addr) (cl : List (Str × Addr)) (fp : List Addr), wpE (X.blk s H0 scope (compEnvC scope cl C X.env) fp) kx σ H Q))
      (tv := (fun σ H Q => ∀ (s : Shared) (H0 : Hp) (C : Addr) (cl : List (Str × Addr)) (fp : List Addr), wpE (X.blk s H0 scope (compEnvC scope cl C X.env) fp) vx σ H Q)) hc nd hy hyl hsw pi_wp ok hg
      (fun s H C cl fp => ⟨fun pins s1 σ1 H1 Q1 I1 h1 => h1 s H C cl fp pins s1 I1⟩) (fun s H C cl fp => ⟨fun pins s1 σ1 H1 Q1 I1 h1 => h1 s H C cl fp pins s1 I1⟩) (fun s H C cl fp => ⟨fun pins s1 σ1 H1 Q1 I1 h1 => h1 s H C cl fp pins s1 I1⟩) hs)) ⟨d, _, hH, trivial, fun od => ?_⟩
    obtain ⟨le1, E1⟩ := lock_env E hl g1 g3 g4 hH od
    refine rd_dc (hi _) ts (ht _) (hk _) (he _) hm E1 fun p vs W2 le2 ok2 h1 h2 h3 h4 => ?_
    obtain ⟨l1, l2, l3⟩ := unlock hH g3 le2 ok2
    have np : p ≠ d := fun z => by rw [z, l3] at h3; cases h3
    have h1' : upd W.H d (.frz od (.dK kvs)) p = none := h1
    rw [upd_ne np] at h1'
    refine ⟨l3, q ⟨W2.F, upd W2.H d _⟩ _ l1.f ((E.mono l1 l2).setOwn i (fun j s e1 e2 => E.notOwned h1' j s e1 e2) rfl ⟨p, vs, rfl, E.le.free h1', h2, ?_, h4⟩)⟩
    show upd W2.H d _ p = _
    rw [upd_ne np]
    exact h3
  · refine ws_of (ps_setDc (i := i) (own := own) (tt := (fun σ H Q => ∀ (s : Shared) (H0 : Hp) (C : Addr) (cl : List (Str × Addr)) (fp : List Addr) pins s1, Inv (X.blk s H0 scope (compEnvC scope cl C X.env) fp) pins σ H s1 →
        wpAny (model X.prog X.w) X.A (forIn ifs true fun c r => if r = true then do let ok ← isTrue c (compEnvC scope cl C X.env) (eval c (compEnvC scope cl C X.env)); pure (ForInStep.yield ok) else pure (ForInStep.yield r)) (TP (X.blk s H0 scope (compEnvC scope cl C X.env) fp) pins σ Q) (fun _ _ => False) s1))
      (tk := (fun σ H Q => ∀ (s : Shared) (H0 : Hp) (C : Addr) (cl : List (Str × Addr)) (fp : List Addr), wpE (X.blk s H0 scope (compEnvC scope cl C X.env) fp) kx σ H Q))
      (tv := (fun σ H Q => ∀ (s : Shared) (H0 : Hp) (C : Addr) (cl : List (Str × Addr)) (fp : List Addr), wpE (X.blk s H0 scope (compEnvC scope cl C X.env) fp) vx σ H Q)) hc nd hy hyl hsw pi_wp ok hg
      (fun s H C cl fp => ⟨fun pins s1 σ1 H1 Q1 I1 h1 => h1 s H C cl fp pins s1 I1⟩) (fun s H C cl fp => ⟨fun pins s1 σ1 H1 Q1 I1 h1 => h1 s H C cl fp pins s1 I1⟩) (fun s H C cl fp => ⟨fun pins s1 σ1 H1 Q1 I1 h1 => h1 s H C cl fp pins s1 I1⟩) hs) ?_
    have E1 := locked_env E hl g1 g3 g4 hH
    exact rd_dc (hi _) ts (ht _) (hk _) (he _) hm E1 fun p vs W2 le ok2 h1 h2 h3 h4 => q W2 _ le.f ((E.mono le ok2).setOwn i (fun j s e1 e2 => E.notOwned h1 j s e1 e2) rfl ⟨p, vs, rfl, E.le.free h1, h2, h3, h4⟩)⟩

/-! ### d == {} -/
def rEqNil : R2 := fun x y H Q => ∃ a b ks, x = .ref a ∧ y = .ref b ∧ Rd H a (.dK ks) ∧ H b = some (.dK []) ∧ Q (.bl ks.isEmpty) H
theorem op_eqNil (hu : X.A.units < cLine) : OpR X (compareOp .Eq) rEqNil := by
  intro pins s σ H x y v u Q I rx ry h
  obtain ⟨a, b, ks, rfl, rfl, ea, eb, q⟩ := h
  cases rx
  cases ry
  obtain ⟨_, ya, va, ra, da⟩ := dk_rd I.hok ea
  obtain ⟨_, yb, vb, rb, db⟩ := dk_of I.hok eb
  cases rb
  refine PySem.W.keq_eq (knd := mixKind X.prog X.w) (r := true) ya yb da db hu (fun hl => ?_) ⟨.bl _, H, I, rfl, ?_⟩
  · cases ra with
    | nil => exact hits_all .nil .nil (fun p hp => nomatch hp)
    | cons _ _ => cases hl
  · have e : (va.length == ([] : List (Key × Value)).length && true) = ks.isEmpty := by cases ra <;> rfl
    rw [e]
    exact q
def dnilM {α : Type} (kvs : List (Int × α)) : Option Bool := some kvs.isEmpty
theorem isEmpty_kvs {α : Type} [Rep α] {F : Hp} {kvs : List (Key × V)} {xs : List (Int × α)} (h : IsKvs Γ F kvs xs) : kvs.isEmpty = xs.isEmpty := by cases h <;> rfl
theorem t_dnil {α : Type} [Rep α] {e : Expr} {p2 pos : Pos} {m : Option (List (Int × α))} {j : Nat} (hr : Room j X.A) (h : DX X Γ W0 e ρ m) : TX X Γ W0 (.Compare e [.Eq] [.Dict [] [] p2] pos) ρ (M1 dnilM m) := ⟨fun z hm W σ E Q k => by
  obtain ⟨xs, h1, hm⟩ := bindo hm
  cases hm
  refine wt_of (pt_cmpR (op_eqNil hr.units0) pe_wp pe_dnewK (by first | exact nomark _ | rfl)) ?_
  refine h.run xs h1 W σ E _ fun a kvs W2 le ok q i1 => ?_
  intro p hp
  refine ⟨a, p, kvs, rfl, rfl, Rd.mono q fun b o e => by rw [upd_ne (ne_of_none e hp)]; exact e, upd_same, ?_⟩
  rw [isEmpty_kvs i1]
  exact ⟨_, rfl, k ⟨W2.F, upd W2.H p _⟩ (le.trans (.new hp)) (ok_new ok hp)⟩⟩
/-! ### dict(pairs) -/
def mergeM {α : Type} (xs : List (Int × α)) : Option (List (Int × α)) := some (xs.foldl (fun acc q => putD acc q.1 q.2) [])
theorem merge_is {α : Type} [Rep α] {F : Hp} {kvs : List (Key × V)} {xs : List (Int × α)} (h : IsKvs Γ F kvs xs) : ∀ {acc : List (Key × V)} {as : List (Int × α)}, IsKvs Γ F acc as → IsKvs Γ F (mergeK acc kvs) (xs.foldl (fun acc q => putD acc q.1 q.2) as) := by
  induction h with
  | nil => intro acc as h; exact h
  | @cons p x _ _ r _ ih =>
    intro acc as h
    obtain ⟨r1, r2⟩ := r
    have := ih (put_is h x.1 r2)
    rw [← r1] at this
    exact this
theorem o_dictP {α : Type} [Rep α] {e : Expr} {p pos : Pos} {m : Option (List (Int × α))} (hM : X.mg "dict" = none) (h : LX X Γ W0 e ρ m) (hg : Gl X "dict" := by rfl) (hc : X.calm = true := by rfl)
    (hp : X.calm = true → Gl X "dict" → X.mg "dict" = none → PE X (.Call (.Name "dict" p) [e] [] pos) (tCB (fun xs H Q => ∃ (a : Addr) (ps : List Addr) (kvs : List (Key × V)), xs = [.ref a] ∧ SqL X.K H a (ps.map V.ref) ∧ Paired (fun p kv => SqT X.K H p [kV kv.1, kv.2]) ps kvs ∧
    ∀ p, H p = none → Q (.ref p) (upd H p (.dK (mergeK [] kvs)))) (tCons (wpE X e) tNil)) := by intro hc hg hM; exact pe_callTy (call_dictP hc) hg hM (by decide +kernel) (pa_cons pe_wp pa_nil)) : OD X Γ W0 (.Call (.Name "dict" p) [e] [] pos) ρ (M1 mergeM m) := ⟨fun xs hm W σ E Q k => by
  obtain ⟨ys, h1, hm⟩ := bindo hm
  cases hm
  refine wp_of (hp hc hg hM) ?_
  refine h.run ys h1 W σ E _ fun a vs W2 le ok q i1 => ?_
  have key : ∀ {vs : List V} {ys : List (Int × α)}, IsAll Γ W2.F vs ys → ∃ (ps : List Addr) (kvs : List (Key × V)), vs = ps.map V.ref ∧ Paired (fun p kv => SqT X.K W2.H p [kV kv.1, kv.2]) ps kvs ∧ IsKvs Γ W2.F kvs ys := by
    intro vs ys h
    induction h with
    | nil => exact ⟨[], [], rfl, .nil, .nil⟩
    | @cons v y _ _ r _ ih =>
      obtain ⟨ps, kvs, g1, g2, g3⟩ := ih
      obtain ⟨b, v1, v2, r1, r2, r3, r4⟩ := r
      have r3' : v1 = V.int y.1 := r3
      subst r1 r3' g1
      exact ⟨b :: ps, (Sum.inl y.1, v2) :: kvs, rfl, .cons (SqT.of (ok.tup r2)) g2, .cons ⟨rfl, r4⟩ g3⟩
  obtain ⟨ps, kvs, g1, g2, g3⟩ := key i1
  subst g1
  refine ⟨a, ps, kvs, rfl, SqL.of q, g2, fun p' hp' => ?_⟩
  exact k p' _ ⟨W2.F, upd W2.H p' _⟩ (le.trans (.new hp')) (ok_new ok hp') (le.free hp') (ok.none_of hp') upd_same (merge_is g3 .nil)⟩
end
end SR
end
section
set_option Elab.async false
set_option linter.all false
set_option maxRecDepth 100000
set_option maxHeartbeats 4000000
namespace SR
open PySem PySem.Spec PyProof.Rows L2

/-! ### isinstance -/
/-- what isinstance tells of values of the type -/
structure IsiF (K : PySem.W.Frag) (Γ : Cs) {α : Type} [Rep α] (u : Value) (f : α → Bool) : Prop where
  run : ∀ (W : Wd) (v : V) (x : α), HLe W.F W.H → Is Γ W.F v x → ∃ t, TyX K W.H v t ∧ PySem.W.kitOne K t u = some (f x)
structure IsiT (K : PySem.W.Frag) (Γ : Cs) {α : Type} [Rep α] (us : List Value) (f : α → Bool) : Prop where
  run : ∀ (W : Wd) (v : V) (x : α), HLe W.F W.H → Is Γ W.F v x → ∃ t, TyX K W.H v t ∧ PySem.W.kitAny K t us = some (f x)
theorem kit_self {K : PySem.W.Frag} {t : Value} : PySem.W.kitOne K t t = some true := by
  unfold PySem.W.kitOne
  rw [if_pos (beq_self_eq_true t)]
theorem isi_int {K : PySem.W.Frag} {Γ : Cs} {u : Value} {b : Bool} (h : PySem.W.kitOne K (.type "int") u = some b) : IsiF K Γ (α := Int) u (fun _ => b) :=
  ⟨fun W v x ok i => by
    have e : v = .int x := i
    subst e
    exact ⟨_, .base (.int x), h⟩⟩
theorem isi_bool {K : PySem.W.Frag} {Γ : Cs} {u : Value} {b : Bool} (h : PySem.W.kitOne K (.type "bool") u = some b) : IsiF K Γ (α := Bool) u (fun _ => b) :=
  ⟨fun W v x ok i => by
    have e : v = .bl x := i
    subst e
    exact ⟨_, .base (.bl x), h⟩⟩
theorem isi_str {K : PySem.W.Frag} {Γ : Cs} {u : Value} {b : Bool} (h : PySem.W.kitOne K (.type "str") u = some b) : IsiF K Γ (α := Str) u (fun _ => b) :=
  ⟨fun W v x ok i => by
    have e : v = .str x := i
    subst e
    exact ⟨_, .base (.str x), h⟩⟩
theorem isi_rec {K : PySem.W.Frag} {Γ : Cs} {R : Type} [Rec R] {u : Value} {b : Bool} (c : C8.InsC K (Rec.c (R := R) Γ)) (h : PySem.W.kitOne K (.ref (Rec.c (R := R) Γ)) u = some b) : IsiF K Γ (α := R) u (fun _ => b) :=
  ⟨fun W v x ok ⟨a, dx, vs, e1, e2, _⟩ => by
    subst e1
    exact ⟨_, .base (.ins (ok.ins e2) c.cl c.ha c.hn c.htk c.hm), h⟩⟩
theorem isi_lst {K : PySem.W.Frag} {Γ : Cs} {α : Type} [Rep α] {u : Value} {b : Bool} (h : PySem.W.kitOne K (.type "list") u = some b) : IsiF K Γ (α := List α) u (fun _ => b) :=
  ⟨fun W v x ok ⟨a, vs, e1, e2, _⟩ => by
    subst e1
    exact ⟨_, .base (.lst (ok.lst e2)), h⟩⟩
theorem isi_tup {K : PySem.W.Frag} {Γ : Cs} {α β : Type} [Rep α] [Rep β] {u : Value} {b : Bool} (h : PySem.W.kitOne K (.type "tuple") u = some b) : IsiF K Γ (α := α × β) u (fun _ => b) :=
  ⟨fun W v x ok ⟨a, v1, v2, e1, e2, _⟩ => by
    subst e1
    exact ⟨_, .base (.tup (ok.tup e2)), h⟩⟩
/-- values that are lists or tuples -/
class SeqLike (α : Type) [Rep α] : Prop where
  sq : ∀ {Γ : Cs} {F : Hp} {v : V} {x : α}, Is Γ F v x → ∃ a, v = .ref a ∧ ((∃ vs, F a = some (.lst vs)) ∨ ∃ vs, F a = some (.tup vs))
/-- a list or a tuple -/
structure LT (α : Type) where
  xs : List α
instance {α : Type} [Rep α] : Rep (LT α) := ⟨fun Γ F v x => ∃ a vs, v = .ref a ∧ (F a = some (.lst vs) ∨ F a = some (.tup vs)) ∧ IsAll Γ F vs x.xs,
  fun e ⟨a, vs, h1, h2, h3⟩ => ⟨a, vs, h1, h2.imp (fun h => e.lst h) (fun h => e.tup h), h3.mono e⟩⟩
instance {α : Type} [Rep α] : SeqLike (List α) := ⟨fun ⟨a, vs, h1, h2, _⟩ => ⟨a, h1, .inl ⟨vs, h2⟩⟩⟩
instance {α : Type} [Rep α] : SeqLike (Tup α) := ⟨fun ⟨a, vs, h1, h2, _⟩ => ⟨a, h1, .inr ⟨vs, h2⟩⟩⟩
instance {α : Type} [Rep α] : SeqLike (LT α) := ⟨fun ⟨a, vs, h1, h2, _⟩ => ⟨a, h1, h2.imp (fun h => ⟨vs, h⟩) fun h => ⟨vs, h⟩⟩⟩
instance {α β : Type} [Rep α] [Rep β] : SeqLike (α × β) := ⟨fun ⟨a, v1, v2, h1, h2, _⟩ => ⟨a, h1, .inr ⟨_, h2⟩⟩⟩
instance {α β γ : Type} [Rep α] [Rep β] [Rep γ] : SeqLike (T3 α β γ) := ⟨fun ⟨a, v1, v2, v3, h1, h2, _⟩ => ⟨a, h1, .inr ⟨_, h2⟩⟩⟩
theorem isi_seq {K : PySem.W.Frag} {Γ : Cs} {α : Type} [Rep α] [SeqLike α] (h : PySem.W.kitOne K (.type "tuple") (.type "list") = some false) : IsiT K Γ (α := α) [.type "list", .type "tuple"] (fun _ => true) :=
  ⟨fun W v x ok i => by
    obtain ⟨a, e, q⟩ := SeqLike.sq i
    subst e
    rcases q with ⟨vs, q⟩ | ⟨vs, q⟩
    · refine ⟨_, .base (.lst (ok.lst q)), ?_⟩
      unfold PySem.W.kitAny
      rw [kit_self]
    · refine ⟨_, .base (.tup (ok.tup q)), ?_⟩
      unfold PySem.W.kitAny
      rw [h]
      unfold PySem.W.kitAny
      simp only [kit_self]⟩
section
variable {X : Cx} {Γ : Cs} {W0 : Wd} {ρ : List Slot}
/-- isinstance(e, c), c a built-in type -/
theorem x_isi {α : Type} [Rep α] {e : Expr} {n : Str} {T : String} {p p2 pos : Pos} {m : Option α} {f : α → Bool} (hM : X.mg "isinstance" = none) (hm2 : X.mg n = none) (hf : IsiF X.K Γ (α := α) (.type T) f) (h : EX X Γ W0 e ρ m) (hg : Gl X "isinstance" := by rfl) (hg2 : Gl X n := by rfl) (hb : bootBuiltins n = some (.type T) := by decide +kernel)
    (hp : Gl X "isinstance" → X.mg "isinstance" = none → PE X (.Name n p2) (tC (.ty T)) → PE X (.Call (.Name "isinstance" p) [e, .Name n p2] [] pos) (tCB (rIsi X.K) (tCons (wpE X e) (tCons (tC (.ty T)) tNil))) := by intro hg hM q; exact pe_callB call_isi hg hM (by decide +kernel) (pa_cons pe_wp (pa_cons q pa_nil)))
    (hn : n ≠ "__name__" := by decide) (hd : (n == ("__debug__" : Str)) = false := by decide) :
    EX X Γ W0 (.Call (.Name "isinstance" p) [e, .Name n p2] [] pos) ρ (m.bind fun x => some (f x)) := ⟨fun z hz W σ E Q k => by
  obtain ⟨x, h1, hz⟩ := bindo hz
  cases hz
  refine wp_of (hp hg hM (pe_bltn hg2 hm2 hb (show RelV (.ty T) (.type T) from rfl) hn hd)) ?_
  refine h.run x h1 W σ E _ fun v W2 le ok i1 => ?_
  obtain ⟨t, ty, ht⟩ := hf.run W2 v x ok i1
  exact ⟨v, .ty T, t, _, f x, rfl, .ty T, ty, ht, k _ W2 le ok rfl⟩⟩
/-- isinstance(e, C), C a class of the text -/
theorem x_isiC {α : Type} [Rep α] {e : Expr} {n : Str} {C : Addr} {p p2 pos : Pos} {m : Option α} {f : α → Bool} (hM : X.mg "isinstance" = none) (hm2 : X.mg n = some (.ref C)) (hf : IsiF X.K Γ (α := α) (.ref C) f) (h : EX X Γ W0 e ρ m) (hg : Gl X "isinstance" := by rfl) (hg2 : Gl X n := by rfl)
    (hp : Gl X "isinstance" → X.mg "isinstance" = none → PE X (.Name n p2) (tC (.ref C)) → PE X (.Call (.Name "isinstance" p) [e, .Name n p2] [] pos) (tCB (rIsi X.K) (tCons (wpE X e) (tCons (tC (.ref C)) tNil))) := by intro hg hM q; exact pe_callB call_isi hg hM (by decide +kernel) (pa_cons pe_wp (pa_cons q pa_nil)))
    (hd : (n == ("__debug__" : Str)) = false := by decide) :
    EX X Γ W0 (.Call (.Name "isinstance" p) [e, .Name n p2] [] pos) ρ (m.bind fun x => some (f x)) := ⟨fun z hz W σ E Q k => by
  obtain ⟨x, h1, hz⟩ := bindo hz
  cases hz
  refine wp_of (hp hg hM (pe_glob hg2 hm2 (show RelV (.ref C) (.ref C) from rfl) hd)) ?_
  refine h.run x h1 W σ E _ fun v W2 le ok i1 => ?_
  obtain ⟨t, ty, ht⟩ := hf.run W2 v x ok i1
  exact ⟨v, .ref C, t, _, f x, rfl, .own C, ty, ht, k _ W2 le ok rfl⟩⟩
/-- isinstance(e, (T1, T2)) -/
theorem x_isiT {α : Type} [Rep α] {e : Expr} {n1 n2 : Str} {T1 T2 : String} {p p1 p2 p3 pos : Pos} {kk : Nat} {m : Option α} {f : α → Bool} (hM : X.mg "isinstance" = none) (hm1 : X.mg n1 = none) (hm2 : X.mg n2 = none) (hf : IsiT X.K Γ (α := α) [.type T1, .type T2] f) (h : EX X Γ W0 e ρ m)
    (hg : Gl X "isinstance" := by rfl) (hg1 : Gl X n1 := by rfl) (hg2 : Gl X n2 := by rfl) (hb1 : bootBuiltins n1 = some (.type T1) := by decide +kernel) (hb2 : bootBuiltins n2 = some (.type T2) := by decide +kernel)
    (hp : Gl X "isinstance" → X.mg "isinstance" = none → PE X (.Name n1 p1) (tC (.ty T1)) → PE X (.Name n2 p2) (tC (.ty T2)) → PE X (.Call (.Name "isinstance" p) [e, .Tuple [.Name n1 p1, .Name n2 p2] kk p3] [] pos) (tCB (rIsiT X.K) (tCons (wpE X e) (tCons (tTup (tCons (tC (.ty T1)) (tCons (tC (.ty T2)) tNil))) tNil))) := by intro hg hM q1 q2; exact pe_callB call_isiT hg hM (by decide +kernel) (pa_cons pe_wp (pa_cons (pe_tup (pa_cons q1 (pa_cons q2 pa_nil))) pa_nil)))
    (hn1 : n1 ≠ "__name__" := by decide) (hd1 : (n1 == ("__debug__" : Str)) = false := by decide) (hn2 : n2 ≠ "__name__" := by decide) (hd2 : (n2 == ("__debug__" : Str)) = false := by decide) :
    EX X Γ W0 (.Call (.Name "isinstance" p) [e, .Tuple [.Name n1 p1, .Name n2 p2] kk p3] [] pos) ρ (m.bind fun x => some (f x)) := ⟨fun z hz W σ E Q k => by
  obtain ⟨x, h1, hz⟩ := bindo hz
  cases hz
  refine wp_of (hp hg hM (pe_bltn hg1 hm1 hb1 (show RelV (.ty T1) (.type T1) from rfl) hn1 hd1) (pe_bltn hg2 hm2 hb2 (show RelV (.ty T2) (.type T2) from rfl) hn2 hd2)) ?_
  refine h.run x h1 W σ E _ fun v W2 le ok i1 => ?_
  refine ⟨by show 2 ≤ sizeLine; decide, fun tp htp => ?_⟩
  obtain ⟨t, ty, ht⟩ := hf.run ⟨W2.F, upd W2.H tp (.tup [.ty T1, .ty T2])⟩ v x (ok_new ok htp) i1
  exact ⟨v, tp, [.ty T1, .ty T2], t, _, f x, rfl, upd_same, .cons (.ty T1) (.cons (.ty T2) .nil), ty, ht, k _ ⟨W2.F, upd W2.H tp _⟩ (le.trans (.new htp)) (ok_new ok htp) rfl⟩⟩
/-- e in NAME, a tuple of whole numbers of the module -/
theorem inV_ints (x : Int) : ∀ ns : List Int, inV (.int x) (ns.map V.int) = ns.contains x
  | [] => rfl
  | n :: ns => by
    have ih := inV_ints x ns
    unfold inV at ih ⊢
    rw [List.map_cons, List.any_cons, ih, List.contains_cons]
    congr 1
    show (n == x) = (x == n)
    by_cases h : n = x
    · subst h; rfl
    · rw [beq_eq_false_iff_ne.mpr h, beq_eq_false_iff_ne.mpr fun q => h q.symm]
theorem all_flat : ∀ ns : List Int, (ns.map V.int).all flatV = true
  | [] => rfl
  | n :: ns => by rw [List.map_cons, List.all_cons, all_flat ns]; rfl
theorem x_inG {e : Expr} {n : Str} {p pos : Pos} {m : Option Int} {D : Addr} {ns : List Int} (hm : X.mg n = some (.ref D)) (hs : ∀ H, SqT X.K H D (ns.map V.int)) (h : EX X Γ W0 e ρ m) (hg : Gl X n := by rfl) (hd : (n == ("__debug__" : Str)) = false := by decide) (hk : behindInMarks .In (.Name n p) = false := by rfl) :
    EX X Γ W0 (.Compare e [.In] [.Name n p] pos) ρ (m.bind fun x => some (ns.contains x)) := ⟨fun z hz W σ E Q k => by
  obtain ⟨x, h1, hz⟩ := bindo hz
  cases hz
  refine wp_of (pe_cmpR op_in_seq pe_wp (pe_glob hg hm (show RelV (.ref D) (.ref D) from rfl) hd) hk) ?_
  refine h.run x h1 W σ E _ fun v W2 le ok i1 => ?_
  have e1 : v = .int x := i1
  subst e1
  refine ⟨D, _, rfl, .inr (hs _), rfl, all_flat ns, ?_⟩
  rw [inV_ints]
  exact k _ W2 le ok rfl⟩

/-! ### lists or tuples -/
def ltM {α : Type} (xs : List α) : Option (LT α) := some ⟨xs⟩
def ltT {α : Type} (t : Tup α) : Option (LT α) := some ⟨t.xs⟩
theorem EX.lt {α : Type} [Rep α] {e : Expr} {m : Option (List α)} (h : EX X Γ W0 e ρ m) : EX X Γ W0 e ρ (M1 ltM m) := ⟨fun x hm W σ E Q k => by
  obtain ⟨xs, h1, hm⟩ := bindo hm
  cases hm
  exact h.run xs h1 W σ E Q fun v W2 le ok ⟨a, vs, e1, e2, e3⟩ => k v W2 le ok ⟨a, vs, e1, .inl e2, e3⟩⟩
theorem EX.ltT {α : Type} [Rep α] {e : Expr} {m : Option (Tup α)} (h : EX X Γ W0 e ρ m) : EX X Γ W0 e ρ (M1 ltT m) := ⟨fun x hm W σ E Q k => by
  obtain ⟨xs, h1, hm⟩ := bindo hm
  cases hm
  exact h.run xs h1 W σ E Q fun v W2 le ok ⟨a, vs, e1, e2, e3⟩ => k v W2 le ok ⟨a, vs, e1, .inr e2, e3⟩⟩
theorem lt_sq {α : Type} {W : Wd} {a : Addr} {vs : List V} {K : PySem.W.Frag} (ok : HLe W.F W.H) (h : W.F a = some (.lst vs) ∨ W.F a = some (.tup vs)) : SqL K W.H a vs ∨ SqT K W.H a vs := h.imp (fun h => SqL.of (ok.lst h)) fun h => SqT.of (ok.tup h)
def ltLen {α : Type} (t : LT α) : Option Int := some t.xs.length
theorem x_lenLT {α : Type} [Rep α] {e : Expr} {p pos : Pos} {m : Option (LT α)} (hM : X.mg "len" = none) (h : EX X Γ W0 e ρ m) (hg : Gl X "len" := by rfl) (he : starEach [e] X.env = [(false, eval e X.env)] := by rfl)
    (hp : Gl X "len" → X.mg "len" = none → PE X (.Call (.Name "len" p) [e] [] pos) (tCB (fun xs H Q => ∃ p ys, xs = [.ref p] ∧ (SqL X.K H p ys ∨ SqT X.K H p ys) ∧ Q (.int ys.length) H) (tCons (wpE X e) tNil)) := by intro hg hM; exact pe_callB call_len_seq hg hM PySem.boot_len (pa_cons pe_wp pa_nil)) : EX X Γ W0 (.Call (.Name "len" p) [e] [] pos) ρ (M1 ltLen m) := ⟨fun z hm W σ E Q k => by
  obtain ⟨xs, h1, hm⟩ := bindo hm
  cases hm
  refine wp_of (hp hg hM) ?_
  refine h.run xs h1 W σ E _ fun v W2 le ok ⟨a, vs, e1, q, i1⟩ => ?_
  subst e1
  exact ⟨a, vs, rfl, lt_sq (α := α) ok q, k _ W2 le ok (by show V.int _ = V.int _; rw [i1.len])⟩⟩
def ltIx {α : Type} (t : LT α) (i : Int) : Option α := ixM t.xs i
theorem x_ixLT {α : Type} [Rep α] {a b : Expr} {pos : Pos} {ma : Option (LT α)} {mb : Option Int} (ha : EX X Γ W0 a ρ ma) (hb : EX X Γ W0 b ρ mb) (hs : PlainIx b := by intro _ _; rfl) : EX X Γ W0 (.Subscript a b pos) ρ (M2 ltIx ma mb) := ⟨fun z hm W σ E Q k => by
  obtain ⟨xs, h1, hm⟩ := bindo hm
  obtain ⟨i, h2, hm⟩ := bindo hm
  refine wp_of (pe_ix ix_seq pe_wp pe_wp hs) ?_
  refine ha.run xs h1 W σ E _ fun v W2 le ok ⟨p, vs, e1, q, i1⟩ => ?_
  subst e1
  refine hb.run i h2 W2 σ (E.mono le ok) _ fun u W3 le2 ok2 i2 => ?_
  have e2 : u = .int i := i2
  subst e2
  obtain ⟨v, g1, g2⟩ := vget i1 (show atI xs.xs i = some z from hm)
  have q3 : W3.F p = some (.lst vs) ∨ W3.F p = some (.tup vs) := q.imp (fun h => le2.f.lst h) fun h => le2.f.tup h
  rcases q3 with q3 | q3
  · exact .inl ⟨p, vs, i, v, rfl, rfl, SqL.of (ok2.lst q3), g1, k v W3 (le.trans le2) ok2 (Rep.mono le2.f g2)⟩
  · exact .inr (.inl ⟨p, vs, i, v, rfl, rfl, SqT.of (ok2.tup q3), g1, k v W3 (le.trans le2) ok2 (Rep.mono le2.f g2)⟩)⟩
def ltL {α : Type} (t : LT α) : Option (List α) := some t.xs
theorem o_listLT {α : Type} [Rep α] {e : Expr} {p pos : Pos} {m : Option (LT α)} (hM : X.mg "list" = none) (h : EX X Γ W0 e ρ m) (hg : Gl X "list" := by rfl)
    (hp : Gl X "list" → X.mg "list" = none → PE X (.Call (.Name "list" p) [e] [] pos) (tCB (fun xs H Q => ∃ p ys, xs = [.ref p] ∧ (SqL X.K H p ys ∨ SqT X.K H p ys) ∧ ∀ l, H l = none → Q (.ref l) (upd H l (.lst ys))) (tCons (wpE X e) tNil)) := by intro hg hM; exact pe_callTy call_list_of hg hM (by decide +kernel) (pa_cons pe_wp pa_nil)) : OX X Γ W0 (.Call (.Name "list" p) [e] [] pos) ρ (M1 ltL m) := ⟨fun xs hm W σ E Q k => by
  obtain ⟨x, h1, hm⟩ := bindo hm
  cases hm
  refine wp_of (hp hg hM) ?_
  refine h.run x h1 W σ E _ fun v W2 le ok ⟨a, vs, e1, q, i1⟩ => ?_
  subst e1
  refine ⟨a, vs, rfl, lt_sq (α := α) ok q, fun p' hp' => ?_⟩
  exact k p' _ ⟨W2.F, upd W2.H p' _⟩ (le.trans (.new hp')) (ok_new ok hp') (le.free hp') (ok.none_of hp') upd_same i1⟩
/-- walked -/
def iLT (K : PySem.W.Frag) (tl : TE) : TI := fun σ H R => tl σ H fun x H1 => ∃ a, x = .ref a ∧ (((∃ xs, SqL K H1 a xs) ∧ R (Itl K a) H1) ∨ ((∃ xs, SqT K H1 a xs) ∧ R (Itt K a) H1))
theorem pi_lt {tg l : Expr} {tl : TE} (hl : PE X l tl) : PI X tg l (iLT X.K tl) := by
  refine ⟨fun pins s σ H R I h => ?_⟩
  refine thn (hl.run pins s σ H _ I h) fun v s1 ⟨x, H1, I1, r1, q1⟩ => ?_
  obtain ⟨a, e, q1⟩ := q1
  subst e
  cases r1
  rcases q1 with ⟨⟨xs, hq⟩, q⟩ | ⟨⟨xs, hq⟩, q⟩
  · obtain ⟨its, rv, p, hz⟩ := I1.list hq
    exact wpAny_pyIter_list p.isList ⟨s1.heap.objs.size, [s1.heap.objs.size], _, _, H1, rfl, I1.kept (t' := s1.toks) fun b o e => Heap.get?_push_of_some _ e, turn_list a _, ⟨_, Heap.get?_push_size _ rfl, rfl, rfl⟩, fun b hb => by
      have e : b = s1.heap.objs.size := by simpa using hb
      subst e
      exact I1.fpOk (Nat.le_refl _) (I1.hok.fresh (Nat.le_refl _)), q⟩
  · obtain ⟨its, rv, p, hz⟩ := I1.tuple hq
    exact wpAny_pyIter_tuple (show s1.heap.IsTuple a its.toArray from p) ⟨s1.heap.objs.size, [s1.heap.objs.size], _, _, H1, rfl, I1.kept (t' := s1.toks) fun b o e => Heap.get?_push_of_some _ e, turn_tuple a _, ⟨_, Heap.get?_push_size _ rfl, rfl, rfl⟩, fun b hb => by
      have e : b = s1.heap.objs.size := by simpa using hb
      subst e
      exact I1.fpOk (Nat.le_refl _) (I1.hok.fresh (Nat.le_refl _)), q⟩
theorem iw_lt {α : Type} [Rep α] {tg e : Expr} {m : Option (LT α)} (h : EX X Γ W0 e ρ m) : IX X Γ W0 tg e ρ (M1 ltL m) := ⟨fun xs hm W σ E R k => by
  obtain ⟨x, h1, hm⟩ := bindo hm
  cases hm
  refine wi_of (pi_lt pe_wp) ?_
  refine h.run x h1 W σ E _ fun v W2 le ok ⟨a, vs, e1, q, e3⟩ => ⟨a, e1, ?_⟩
  have hl := e3.len
  rcases q with q | q
  · refine .inl ⟨⟨vs, SqL.of (ok.lst q)⟩, k _ W2 le ok fun W3 _ hF ok3 i => ?_⟩
    have q3 := ok3.lst (hF.lst q)
    refine ⟨fun hi => ⟨vs, SqL.of q3, by omega⟩, fun x hx => ?_⟩
    have hi := (List.getElem?_eq_some_iff.mp hx).1
    have hv : vs[i]? = some (vs[i]'(by omega)) := List.getElem?_eq_getElem (by omega)
    refine ⟨⟨vs, _, SqL.of q3, hv⟩, fun v H' ⟨g1, g2⟩ => ⟨W3, g1.symm, .refl, ok3, ?_⟩⟩
    have e4 := g2 vs (SqL.of q3)
    rw [hv] at e4
    rw [← Option.some.inj e4]
    exact Rep.mono hF (e3.at hv hx)
  · refine .inr ⟨⟨vs, SqT.of (ok.tup q)⟩, k _ W2 le ok fun W3 _ hF ok3 i => ?_⟩
    have q3 := ok3.tup (hF.tup q)
    refine ⟨fun hi => ⟨vs, SqT.of q3, by omega⟩, fun x hx => ?_⟩
    have hi := (List.getElem?_eq_some_iff.mp hx).1
    have hv : vs[i]? = some (vs[i]'(by omega)) := List.getElem?_eq_getElem (by omega)
    refine ⟨⟨vs, _, SqT.of q3, hv⟩, fun v H' ⟨g1, g2⟩ => ⟨W3, g1.symm, .refl, ok3, ?_⟩⟩
    have e4 := g2 vs (SqT.of q3)
    rw [hv] at e4
    rw [← Option.some.inj e4]
    exact Rep.mono hF (e3.at hv hx)⟩
/-- any of whole numbers -/
def rAnyI (K : PySem.W.Frag) : List V → Hp → VK → Prop := fun vs H Q => ∃ (a : Addr) (ns : List Int), vs = [V.ref a] ∧ (SqL K H a (ns.map V.int) ∨ SqT K H a (ns.map V.int)) ∧ Q (.bl (ns.any fun n => n != 0)) H
theorem truth_ints {prog : Program} {w : World} {A : Around} {ns : List Int} {its : List Value} (e : Vals (ns.map V.int) its) : TruthOf prog w A (fun i v => its.toArray[i]? = some v) (fun i => (ns.getD i 0) != 0) := fun i v s Q E hv hq => by
  have hv' : its[i]? = some v := by simpa using hv
  have hi : i < its.length := (List.getElem?_eq_some_iff.mp hv').1
  have hl := e.length
  rw [List.length_map] at hl
  obtain ⟨u, g1, g2⟩ := L2.Vals.get e (show (ns.map V.int)[i]? = some (.int (ns[i]'(by omega))) by rw [List.getElem?_map, List.getElem?_eq_getElem (by omega)]; rfl)
  rw [g1] at hv'
  cases hv'
  obtain ⟨t, rfl⟩ := g2
  have hg : ns.getD i 0 = ns[i]'(by omega) := by rw [List.getD_eq_getElem?_getD, List.getElem?_eq_getElem (by omega)]; rfl
  have hq' : Q (ns.getD i 0 != 0) s := hq
  rw [hg] at hq'
  exact PySem.P.truthy_int hq'
theorem any_rangeI : ∀ ns : List Int, (List.range ns.length).any (fun i => (ns.getD i 0) != 0) = ns.any fun n => n != 0
  | [] => rfl
  | b :: bs => by
    rw [List.length_cons, List.range_succ_eq_map, List.any_cons, List.any_map, List.any_cons, ← any_rangeI bs]
    all_goals rfl
theorem iter_anyT {prog : Program} {w : World} {A : Around} {E : Value → Shared → Prop} {s : Shared} {l : Addr} {items : Array Value} {Q : Value → Shared → Prop} (hl : s.heap.IsTuple l items)
    (h : ∀ s₂ : Shared, s₂ = { s with heap := s.heap.push { cls := .type "tuple_iterator", data := .fields #[.ref l, .int 0 0] } } →
      (s₂.heap.IsTupleIter s.heap.objs.size l 0 ∧ s₂.heap.IsTuple l items) → l ≠ s.heap.objs.size → Q (.ref s.heap.objs.size) s₂) : wpAny (model prog w) A (pyIter (.ref l)) Q E s := by
  have hlt : l < s.heap.objs.size := by obtain ⟨_, e, _⟩ := hl; exact Heap.lt_size e
  exact wpAny_pyIter_tuple hl (h _ rfl ⟨⟨_, Heap.get?_push_size _ rfl, rfl, rfl⟩, hl.at fun o e => Heap.get?_push_of_some _ e⟩ (Nat.ne_of_lt hlt))
theorem cr_anyI (hc : X.calm = true) : CallR X (.builtin "any") (rAnyI X.K) := by
  intro pins s σ H vs us Q I r h
  obtain ⟨a, ns, rfl, hs, q⟩ := h
  rw [Vals.ref1 r]
  rcases hs with hs | hs
  · obtain ⟨its, rv, hl, _⟩ := I.list hs
    refine call_any_walk (iter_any hl.isList fun s₂ e2 st hne => ?_)
    subst e2
    refine ⟨_, _, _, _, _, _, _, rfl, Walks.list (A := X.A.in1) (I.ok.hd hc) _ a hne its.toArray, st, truth_ints rv, fun h' tk hk => ?_⟩
    refine ⟨.bl _, H, I.kept fun b o eo => hk b o (fun hmem => ?_) (Heap.get?_push_of_some _ eo), ?_, q⟩
    · rcases List.mem_cons.mp hmem with e1 | hmem
      · exact absurd (e1 ▸ Heap.lt_size eo) (Nat.lt_irrefl _)
      · cases hmem
    · have hl := rv.length
      rw [List.length_map] at hl
      show Value.bool _ = Value.bool _
      rw [← any_rangeI, List.size_toArray, ← hl]
  · obtain ⟨its, rv, hl, _⟩ := I.tuple hs
    refine call_any_walk (iter_anyT (show s.heap.IsTuple a its.toArray from hl) fun s₂ e2 st hne => ?_)
    subst e2
    refine ⟨_, _, _, _, _, _, _, rfl, Walks.tuple (A := X.A.in1) (I.ok.hd hc) _ a hne its.toArray, st, truth_ints rv, fun h' tk hk => ?_⟩
    refine ⟨.bl _, H, I.kept fun b o eo => hk b o (fun hmem => ?_) (Heap.get?_push_of_some _ eo), ?_, q⟩
    · rcases List.mem_cons.mp hmem with e1 | hmem
      · exact absurd (e1 ▸ Heap.lt_size eo) (Nat.lt_irrefl _)
      · cases hmem
    · have hl := rv.length
      rw [List.length_map] at hl
      show Value.bool _ = Value.bool _
      rw [← any_rangeI, List.size_toArray, ← hl]
def anyI (xs : List Int) : Option Bool := some (xs.any fun n => n != 0)
theorem x_anyI {e : Expr} {p pos : Pos} {m : Option (List Int)} (hM : X.mg "any" = none) (h : LX X Γ W0 e ρ m) (hg : Gl X "any" := by rfl) (hc : X.calm = true := by rfl)
    (hp : X.calm = true → Gl X "any" → X.mg "any" = none → PE X (.Call (.Name "any" p) [e] [] pos) (tCB (rAnyI X.K) (tCons (wpE X e) tNil)) := by intro hc hg hM; exact pe_callB (cr_anyI hc) hg hM (by decide +kernel) (pa_cons pe_wp pa_nil)) : EX X Γ W0 (.Call (.Name "any" p) [e] [] pos) ρ (M1 anyI m) := ⟨fun z hm W σ E Q k => by
  obtain ⟨xs, h1, hm⟩ := bindo hm
  cases hm
  refine wp_of (hp hc hg hM) ?_
  refine h.run xs h1 W σ E _ fun a vs W2 le ok q i1 => ?_
  have e1 := all_ints i1
  subst e1
  exact ⟨a, xs, rfl, .inl (SqL.of q), k _ W2 le ok rfl⟩⟩
theorem x_anyLT {e : Expr} {p pos : Pos} {m : Option (LT Int)} (hM : X.mg "any" = none) (h : EX X Γ W0 e ρ m) (hg : Gl X "any" := by rfl) (hc : X.calm = true := by rfl)
    (hp : X.calm = true → Gl X "any" → X.mg "any" = none → PE X (.Call (.Name "any" p) [e] [] pos) (tCB (rAnyI X.K) (tCons (wpE X e) tNil)) := by intro hc hg hM; exact pe_callB (cr_anyI hc) hg hM (by decide +kernel) (pa_cons pe_wp pa_nil)) : EX X Γ W0 (.Call (.Name "any" p) [e] [] pos) ρ (M1 (fun t => anyI t.xs) m) := ⟨fun z hm W σ E Q k => by
  obtain ⟨xs, h1, hm⟩ := bindo hm
  cases hm
  refine wp_of (hp hc hg hM) ?_
  refine h.run xs h1 W σ E _ fun v W2 le ok ⟨a, vs, e1, q, i1⟩ => ?_
  subst e1
  have e1 := all_ints i1
  subst e1
  exact ⟨a, xs.xs, rfl, lt_sq (α := Int) ok q, k _ W2 le ok rfl⟩⟩
end
end SR
end
section
set_option Elab.async false
set_option linter.all false
set_option maxRecDepth 100000
set_option maxHeartbeats 4000000
namespace SR
open PySem PySem.Spec PyProof.Rows L2

/-! ### list(enumerate(xs)) -/
/-- the enumerate at e, behind its i-th item; its last tuple is held by a list -/
def EnSt (h : Heap) (e it l S : Addr) (i : Nat) (items : Array Value) : Prop :=
  h.IsListIter it l i ∧ h.IsList l items ∧ ((∃ old, IsEnum h e it i old) ∨ ∃ old T f oT, IsEnumHeld h e it i old T f ∧ h.get? T = some oT ∧ T ≠ e ∧ T ≠ it ∧ T ≠ S)
theorem EnSt.keep {h h' : Heap} {e it l S : Addr} {i : Nat} {items : Array Value} (x : EnSt h e it l S i items) (hk : ∀ b o, b ≠ S → h.get? b = some o → h'.get? b = some o) (h1 : e ≠ S) (h2 : it ≠ S) (h3 : l ≠ S) : EnSt h' e it l S i items := by
  obtain ⟨a, b, c⟩ := x
  refine ⟨a.at fun o q => hk _ o h2 q, b.at fun o q => hk _ o h3 q, ?_⟩
  rcases c with ⟨old, c⟩ | ⟨old, T, f, oT, c, hT, r1, r2, r3⟩
  · exact .inl ⟨old, hk _ _ h1 c⟩
  · exact .inr ⟨old, T, f, oT, hk _ _ h1 c, hk _ _ r3 hT, r1, r2, r3⟩
/-- the tuples laid so far -/
structure EnG (items : Array Value) (lo : Addr) (h : Heap) (as : List Addr) : Prop where
  rise : as.Pairwise (· < ·)
  above : ∀ a ∈ as, lo < a
  pairs : ∀ (j : Nat) (a : Addr), as[j]? = some a → ∃ t x, items[j]? = some x ∧ h.get? a = some { cls := .type "tuple", data := .seq #[.int (j : Nat) t, x] }
theorem EnG.there {items : Array Value} {lo : Addr} {h : Heap} {as : List Addr} (g : EnG items lo h as) {a : Addr} (ha : a ∈ as) : a < h.objs.size := by
  obtain ⟨j, hj⟩ := List.mem_iff_getElem?.mp ha
  obtain ⟨_, _, _, q⟩ := g.pairs j a hj
  exact Heap.lt_size q
section
variable {prog : Program} {w : World} {A : Around} {s : Shared} {R : Result → Shared → Prop} {items : Array Value}
theorem en_item {e it l S : Addr} {E : Value → Shared → Prop} {i : Nat} {x : Value} {Q : Option Value → Shared → Prop} (hst : EnSt s.heap e it l S i items) (hS : S < s.heap.objs.size) (hei : e ≠ it) (hle : l ≠ e) (hli : l ≠ it) (hx : items[i]? = some x)
    (hQ : ∀ h' t, EnSt h' e it l S (i + 1) items → h'.get? s.heap.objs.size = some { cls := .type "tuple", data := .seq #[.int i t, x] } → h'.objs.size = s.heap.objs.size + 1 →
      (∀ b o, b ≠ e → b ≠ it → s.heap.get? b = some o → h'.get? b = some o) → Q (some (.ref s.heap.objs.size)) { s with heap := h', toks := s.toks + 1 }) : wpAny (model prog w) A (pyNext (.ref e)) Q E s := by
  obtain ⟨a, b, c⟩ := hst
  have ec : ((i + 1 : Nat) : Int) = (i : Int) + 1 := by omega
  have nit : s.heap.objs.size ≠ it := let ⟨_, x, _⟩ := a; Nat.ne_of_gt (Heap.lt_size x)
  rcases c with ⟨old, c⟩ | ⟨old, T, f, oT, c, hT, r1, r2, r3⟩
  · refine wpAny_pyNext_enum_item c a b hx hei fun h' ho hit' hT hsz hk => ?_
    exact hQ h' s.toks ⟨hit', b.at fun o q => hk _ o hle hli q, .inr ⟨_, s.heap.objs.size, false, _, (by rw [ec]; exact ho), hT, Nat.ne_of_gt (Heap.lt_size c), nit, Nat.ne_of_gt hS⟩⟩ hT hsz hk
  · refine wpAny_pyNext_enum_item_held c hT r1 r2 a b hx hei fun h' ho hit' hT' hsz hk => ?_
    exact hQ h' s.toks ⟨hit', b.at fun o q => hk _ o hle hli q, .inr ⟨_, T, true, oT, (by rw [ec]; exact ho), hk _ _ r1 r2 hT, r1, r2, r3⟩⟩ hT' hsz hk
theorem en_done {e it l S : Addr} {E : Value → Shared → Prop} {i : Nat} {Q : Option Value → Shared → Prop} (hh : A.handled = none) (hst : EnSt s.heap e it l S i items) (hx : items[i]? = none)
    (hQ : ∀ h', Heap.ExtBut it s.heap h' → Q none { s with heap := h' }) : wpAny (model prog w) A (pyNext (.ref e)) Q E s := by
  obtain ⟨a, b, c⟩ := hst
  rcases c with ⟨old, c⟩ | ⟨old, T, f, oT, c, hT, r1, r2, r3⟩
  · exact wpAny_pyNext_enum_end hh c a b hx hQ
  · exact wpAny_pyNext_enum_end_held hh c a b hx hQ
theorem en_loop {S e it l : Addr} (hh : A.handled = none) (heS : e < S) (hiS : it < S) (hlS : l ≠ S) (hei : e ≠ it) (hle : l ≠ e) (hli : l ≠ it) (hn : items.size ≤ sizeLine) (res : Value) {h₁ : Heap}
    (hR : ∀ h' tk acc c as, (∀ b o, b ≠ S → b ≠ e → b ≠ it → h₁.get? b = some o → h'.get? b = some o) → h'.get? S = some { cls := .type "list", dict := none, data := .seq acc c, slots := #[] } → as.length = items.size → EnG items S h' as →
      acc.toList = as.map Value.ref → R (.ok (.ret res)) { s with heap := h', toks := tk }) :
    ∀ (k i : Nat) (h : Heap) (tk c : Nat) (acc : Array Value) (as : List Addr), items.size - i = k → i ≤ items.size → EnSt h e it l S i items → (∀ b o, b ≠ S → b ≠ e → b ≠ it → h₁.get? b = some o → h.get? b = some o) →
      h.get? S = some { cls := .type "list", dict := none, data := .seq acc c, slots := #[] } → acc.toList = as.map Value.ref → as.length = i → EnG items S h as →
      codeAny (model prog w) A (.builtin "list.extend.loop" ⟨[.ref S, .ref e, res], []⟩) R { s with heap := h, toks := tk } := by
  have hSe : S ≠ e := Nat.ne_of_gt heS
  have hSi : S ≠ it := Nat.ne_of_gt hiS
  intro k
  induction k with
  | zero =>
    intro i h tk c acc as hk hi hst hkeep hS hacc hal hG
    refine codeAny_builtin PySem.F.entry_extend_loop ?_
    rw [Around.under_plainId PySem.F.plain_extend_loop _]
    show wpAny _ A.in1 (pyNext (.ref e) >>= _) _ _ _
    refine wpAny_bind (en_done (s := { s with heap := h, toks := tk }) (A := A.in1) hh hst (by rw [Array.getElem?_eq_none_iff]; omega) fun h' he => ?_)
    refine wpAny_pure (hR h' tk acc c as (fun b o h1 h2 h3 q => he b o h3 (hkeep b o h1 h2 h3 q)) (he S _ hSi hS) (by omega) ⟨hG.rise, hG.above, fun j a hj => ?_⟩ hacc)
    obtain ⟨t, x, e1, e2⟩ := hG.pairs j a hj
    exact ⟨t, x, e1, he a _ (Nat.ne_of_gt (Nat.lt_trans hiS (hG.above a (List.mem_of_getElem? hj)))) e2⟩
  | succ k ih =>
    intro i h tk c acc as hk hi hst hkeep hS hacc hal hG
    have hlt : i < items.size := by omega
    have hx : items[i]? = some items[i] := Array.getElem?_eq_getElem hlt
    have hsz : acc.size = i := by rw [← Array.length_toList, hacc, List.length_map, hal]
    refine codeAny_builtin PySem.F.entry_extend_loop ?_
    rw [Around.under_plainId PySem.F.plain_extend_loop _]
    show wpAny _ A.in1 (pyNext (.ref e) >>= _) _ _ _
    refine wpAny_bind (en_item (s := { s with heap := h, toks := tk }) (S := S) hst (Heap.lt_size hS) hei hle hli hx fun h' t hst' ht hz hkp => ?_)
    dsimp only at ht hz hkp ⊢
    have hS' := hkp S _ hSe hSi hS
    have up : ∀ b o, b ≠ S → h'.get? b = some o → (h'.update S (Obj.mapSeq (·.push (Value.ref h.objs.size)))).get? b = some o := fun b o hb q => (Heap.get?_update_other _ _ (Ne.symm hb)).trans q
    have hSl : S < h.objs.size := Heap.lt_size hS
    show wpAny _ A.in1 (updateSeq S (·.push (Value.ref h.objs.size)) >>= _) _ _ _
    refine wpAny_bind ?_
    refine wpAny_updateSeq hS' rfl (wpAny_pure ⟨plainId_quiet PySem.F.plain_extend_loop _, ih (i + 1) _ (tk + 1) _ (acc.push (Value.ref h.objs.size)) (as ++ [h.objs.size]) (by omega) hlt (hst'.keep up (Ne.symm hSe) (Ne.symm hSi) hlS)
      (fun b o h1 h2 h3 q => up b o h1 (hkp b o h2 h3 (hkeep b o h1 h2 h3 q))) (Heap.get?_update_self _ hS' rfl) (by rw [Array.toList_push, hacc, List.map_append]; rfl) (by rw [List.length_append, hal]; rfl) ⟨?_, ?_, ?_⟩⟩) (by rw [hsz]; omega) (by show (acc.push (Value.ref h.objs.size)).size ≤ sizeLine + 1; rw [Array.size_push, hsz]; omega)
    · refine List.pairwise_append.mpr ⟨hG.rise, List.pairwise_singleton _ _, fun a ha b hb => ?_⟩
      rw [List.mem_singleton.mp hb]
      exact hG.there ha
    · intro a ha
      rcases List.mem_append.mp ha with ha | ha
      · exact hG.above a ha
      · rw [List.mem_singleton.mp ha]; exact hSl
    · intro j b hj
      rcases Nat.lt_trichotomy j as.length with h1 | h1 | h1
      · rw [List.getElem?_append_left h1] at hj
        obtain ⟨t', x', e1, e2⟩ := hG.pairs j b hj
        have hb := hG.above b (List.mem_of_getElem? hj)
        exact ⟨t', x', e1, up b _ (Nat.ne_of_gt hb) (hkp b _ (Nat.ne_of_gt (Nat.lt_trans heS hb)) (Nat.ne_of_gt (Nat.lt_trans hiS hb)) e2)⟩
      · subst h1
        have hb : h.objs.size = b := by simpa using hj
        subst hb
        exact ⟨t, items[i], by rw [hal]; exact hx, by rw [hal]; exact up _ _ (Nat.ne_of_gt hSl) ht⟩
      · have hnone : (as ++ [h.objs.size])[j]? = none := List.getElem?_eq_none (by rw [List.length_append, List.length_singleton]; omega)
        rw [hnone] at hj
        cases hj
theorem en_len : typeLookup (.type "enumerate") "__len__" = pure none := by rw [typeLookup_type, builtinLookup_eq_fast]; kernel_rfl
theorem en_lh : typeLookup (.type "enumerate") "__length_hint__" = pure none := by rw [typeLookup_type, builtinLookup_eq_fast]; kernel_rfl
theorem en_hint {E : Value → Shared → Prop} {e : Addr} (hT : s.TypeIs (.ref e) "enumerate") {Q : Bool → Shared → Prop} (h : Q true s) (h2 : Q false s) : wpAny (model prog w) A (Builtin.List.listLengthHint (.ref e)) Q E s := by
  unfold Builtin.List.listLengthHint
  refine wpAny_bind (wpAny_specialOf hT en_len ?_)
  refine wpAny_bind (wpAny_specialOf hT en_lh ?_)
  first | exact wpAny_pure h | exact wpAny_pure h2
end
section
variable {prog : Program} {w : World} {A : Around} {s : Shared} {items : Array Value} {e it l : Addr}
theorem en_extend {R : Result → Shared → Prop} (hh : A.handled = none) (he : IsEnum s.heap e it 0 .none) (hit : s.heap.IsListIter it l 0) (hl : s.heap.IsList l items) (hei : e ≠ it) (hle : l ≠ e) (hli : l ≠ it) (S : Addr) (heS : e < S) (hiS : it < S) (hlS : l ≠ S) (res : Value) (c₀ : Nat)
    (hS : s.heap.get? S = some { cls := .type "list", data := .seq #[] c₀ }) (hn : items.size ≤ sizeLine)
    (hR : ∀ h' tk acc c as, (∀ b o, b ≠ S → b ≠ e → b ≠ it → s.heap.get? b = some o → h'.get? b = some o) → h'.get? S = some { cls := .type "list", dict := none, data := .seq acc c, slots := #[] } → as.length = items.size → EnG items S h' as →
      acc.toList = as.map Value.ref → R (.ok (.ret res)) { s with heap := h', toks := tk }) :
    wpAny (model prog w) A.in1 (Builtin.List.listExtendWith (.ref S) (.ref e) res)
      (fun fin s' => match fin with | .done f => R (.ok f) s' | .again c' => c'.quiet = true ∧ codeAny (model prog w) A c' R s') (fun e s' => R (.error e) s') s := by
  have hT : s.TypeIs (.ref e) "enumerate" := ⟨_, he, rfl⟩
  have hSe : S ≠ e := Nat.ne_of_gt heS
  have key : ∀ (h : Heap) (c₁ tk : Nat), (∀ b o, b ≠ S → s.heap.get? b = some o → h.get? b = some o) →
      h.get? S = some { cls := .type "list", data := .seq #[] c₁ } → codeAny (model prog w) A (.builtin "list.extend.loop" ⟨[.ref S, .ref e, res], []⟩) R { s with heap := h, toks := tk } := by
    intro h c₁ tk hk hS₁
    refine en_loop (s := s) (h₁ := s.heap) hh heS hiS hlS hei hle hli hn res hR items.size 0 h tk c₁ #[] [] (Nat.sub_zero _) (Nat.zero_le _) ?_ (fun b o hb _ _ q => hk b o hb q) hS₁ rfl rfl ⟨List.Pairwise.nil, (fun _ ha => nomatch ha), (fun j a hj => by simp at hj)⟩
    exact ⟨hit.at fun o q => hk _ o (Nat.ne_of_lt hiS) q, hl.at fun o q => hk _ o hlS q, .inl ⟨.none, hk _ _ (Nat.ne_of_lt heS) he⟩⟩
  unfold Builtin.List.listExtendWith
  refine wpAny_bind (wpAny_typeOf (T := "enumerate") hT ?_)
  have h1 : Builtin.List.listSameRef (.ref S) (.ref e) = false := by simp [Builtin.List.listSameRef, hSe]
  have h2 : (Value.type "enumerate" == Value.type "list") = false := by decide
  have h3 : (Value.type "enumerate" == Value.type "tuple") = false := by decide
  simp only [h1, h2, h3, Bool.or_false, Bool.false_eq_true, if_false]
  refine wpAny_bind (wpAny_pyIter_enum he ?_)
  have touch : wpAny (model prog w) A.in1 (do rule "list.extend.makes-room"; Builtin.List.listTouch (.ref S); again (.builtin "list.extend.loop" ⟨[.ref S, .ref e, res], []⟩))
      (fun fin s' => match fin with | .done f => R (.ok f) s' | .again c' => c'.quiet = true ∧ codeAny (model prog w) A c' R s') (fun e s' => R (.error e) s') s := by
    refine wpAny_bind (wpAny_rule ?_)
    refine wpAny_bind ?_
    show wpAny _ _ (updateSeq S (·.push .none) >>= fun _ => updateSeq S (·.pop)) _ _ _
    refine wpAny_bind (wpAny_updateSeq hS rfl ?_)
    have hS₂ := Heap.get?_update_self (Obj.mapSeq (·.push Value.none)) hS rfl
    refine wpAny_updateSeq (hz := by seq_fits) hS₂ rfl ?_
    have hS₃ := Heap.get?_update_self (Obj.mapSeq (·.pop)) hS₂ rfl
    refine wpAny_pure ⟨plainId_quiet PySem.F.plain_extend_loop _, key _ _ _ (fun b o hb q => ?_) hS₃⟩
    exact (Heap.get?_update_other _ _ (Ne.symm hb)).trans ((Heap.get?_update_other _ _ (Ne.symm hb)).trans q)
  refine wpAny_bind (wpAny_holding (en_hint hT ?_ ?_))
  · refine wpAny_ite_split (fun _ => touch) (fun z => absurd (by simp) z)
  · refine wpAny_ite_split (fun _ => touch) (fun _ => wpAny_pure ⟨plainId_quiet PySem.F.plain_extend_loop _, key _ c₀ _ (fun b o _ q => q) hS⟩)
theorem en_init {R : Result → Shared → Prop} (hh : A.handled = none) (he : IsEnum s.heap e it 0 .none) (hit : s.heap.IsListIter it l 0) (hl : s.heap.IsList l items) (hei : e ≠ it) (hle : l ≠ e) (hli : l ≠ it) (S : Addr) (heS : e < S) (hiS : it < S) (hlS : l ≠ S)
    (hS : s.heap.get? S = some { cls := .type "list", data := .seq #[] }) (hn : items.size ≤ sizeLine)
    (hR : ∀ h' tk acc c as, (∀ b o, b ≠ S → b ≠ e → b ≠ it → s.heap.get? b = some o → h'.get? b = some o) → h'.get? S = some { cls := .type "list", dict := none, data := .seq acc c, slots := #[] } → as.length = items.size → EnG items S h' as →
      acc.toList = as.map Value.ref → R (.ok (.ret .none)) { s with heap := h', toks := tk }) :
    wpAny (model prog w) A.in1 (Builtin.«list.__init__» ⟨[.ref S, .ref e], []⟩)
      (fun fin s' => match fin with | .done f => R (.ok f) s' | .again c' => c'.quiet = true ∧ codeAny (model prog w) A c' R s') (fun e s' => R (.error e) s') s := by
  show wpAny _ _ (do let old ← Builtin.List.listItems (.ref S); Builtin.List.listUpdate (.ref S) (fun _ => #[]); letGo old.toList.reverse; Builtin.List.listExtendWith (.ref S) (.ref e) .none) _ _ s
  refine wpAny_bind ?_
  unfold Builtin.List.listItems
  refine wpAny_bind (wpAny_seqItems hS rfl (wpAny_pure ?_))
  show wpAny _ _ (updateSeq S (fun _ => #[]) >>= fun _ => letGo (#[] : Array Value).toList.reverse >>= fun _ => Builtin.List.listExtendWith (.ref S) (.ref e) .none) _ _ s
  refine wpAny_bind (wpAny_updateSeq hS rfl ?_)
  have hS₂ := Heap.get?_update_self (Obj.mapSeq (fun _ => (#[] : Array Value))) hS rfl
  have oth : ∀ b o, b ≠ S → s.heap.get? b = some o → (s.heap.update S (Obj.mapSeq (fun _ => (#[] : Array Value)))).get? b = some o :=
    fun b o hb q => (Heap.get?_update_other _ _ (Ne.symm hb)).trans q
  refine wpAny_bind (wpAny_letGo ?_)
  refine en_extend hh (oth _ _ (Nat.ne_of_lt heS) he) (hit.at fun o q => oth _ o (Nat.ne_of_lt hiS) q) (hl.at fun o q => oth _ o hlS q) hei hle hli S heS hiS hlS .none _ hS₂ hn fun h' tk acc c as hk hS' hl' hG hacc => ?_
  exact hR h' tk acc c as (fun b o h1 h2 h3 q => hk b o h1 h2 h3 (oth b o h1 q)) hS' hl' hG hacc
theorem en_call {E : Value → Shared → Prop} {Q : Value → Shared → Prop} (hh : A.handled = none) (he : IsEnum s.heap e it 0 .none) (hit : s.heap.IsListIter it l 0) (hl : s.heap.IsList l items) (hei : e ≠ it) (hle : l ≠ e) (hli : l ≠ it) (hn : items.size ≤ sizeLine)
    (hQ : ∀ h' tk acc c as, (∀ b o, b ≠ e → b ≠ it → s.heap.get? b = some o → h'.get? b = some o) → h'.get? s.heap.objs.size = some { cls := .type "list", dict := none, data := .seq acc c, slots := #[] } → as.length = items.size → EnG items s.heap.objs.size h' as →
      acc.toList = as.map Value.ref → Q (.ref s.heap.objs.size) { s with heap := h', toks := tk }) :
    wpAny (model prog w) A (call (.type "list") [.ref e]) Q E s := by
  refine callType_codes (Q₁ := fun obj s₁ => obj = .ref s.heap.objs.size ∧ s₁ = { s with heap := s.heap.push { cls := .type "list", data := .seq #[] } }) PySem.F.called_list (PySem.F.typeCall_list_1 _) PySem.F.entry_list_init
    (code_list_new _ ⟨rfl, rfl⟩) fun obj s₁ h₁ => ?_
  obtain ⟨rfl, rfl⟩ := h₁
  have hS : (s.heap.push { cls := .type "list", data := .seq #[] }).get? s.heap.objs.size = some { cls := .type "list", data := .seq #[] } := Heap.get?_push_size _ rfl
  have h1 : e < s.heap.objs.size := Heap.lt_size he
  have h2 : it < s.heap.objs.size := let ⟨_, ho, _⟩ := hit; Heap.lt_size ho
  have h3 : l < s.heap.objs.size := let ⟨_, ho, _⟩ := hl; Heap.lt_size ho
  refine ⟨⟨_, hS, rfl⟩, PySem.F.args_list_init_2 _ _, en_init (A := A.in1) hh (Heap.get?_push_of_some _ he) (hit.at fun o q => Heap.get?_push_of_some _ q) (hl.at fun o q => Heap.get?_push_of_some _ q) hei hle hli _ h1 h2 (Nat.ne_of_lt h3) hS hn (fun h' tk acc c as hk hS' hl' hG hacc => ?_)⟩
  exact ⟨rfl, hQ h' tk acc c as (fun b o g1 g2 q => hk b o (Nat.ne_of_lt (Heap.lt_size q)) g1 g2 (Heap.get?_push_of_some _ q)) hS' hl' hG hacc⟩
end
/-- a list of new tuples of two is tracked -/
theorem refs_laid {X : Cx} {pins : List (Addr × Obj)} {σ : L2.St} {H : Hp} {s : Shared} {h' : Heap} {g' : Array GenState} {tk : Nat} {S : Addr} {as : List Addr} {kvs : List (Key × V)} {acc : Array Value} {c : Nat} (I : Inv X pins σ H s) (hz : kvs.length ≤ sizeLine)
    (hk : ∀ b o, s.heap.get? b = some o → h'.get? b = some o) (hSs : s.heap.objs.size ≤ S) (hS : h'.get? S = some { cls := .type "list", dict := none, data := .seq acc c, slots := #[] }) (hl : as.length = kvs.length) (hr : as.Pairwise (· < ·)) (ha : ∀ a ∈ as, S < a)
    (hacc : acc.toList = as.map Value.ref) (hp : ∀ (j : Nat) (a : Addr) (q : Key × V), as[j]? = some a → kvs[j]? = some q → ∃ u v, RelV (kV q.1) u ∧ RelV q.2 v ∧ h'.get? a = some { cls := .type "tuple", data := .seq #[u, v] }) :
    ∃ H' : Hp, (∀ b o, H b = some o → H' b = some o) ∧ H S = none ∧ (∀ t ∈ as, H t = none) ∧ S ∉ as ∧ H' S = some (.lst (as.map V.ref)) ∧ Paired (fun (t : Addr) (q : Key × V) => H' t = some (.tup [kV q.1, q.2])) as kvs ∧ Inv X pins σ H' { s with heap := h', toks := tk } := by
  have hSn : S ∉ as := fun z => Nat.lt_irrefl _ (ha _ z)
  have nd : as.Nodup := List.Pairwise.imp (fun {a b} (h : a < b) => Nat.ne_of_lt h) hr
  have new : ∀ t ∈ as, H t = none := fun t ht => I.hok.fresh (Nat.le_trans hSs (Nat.le_of_lt (ha t ht)))
  have newS : H S = none := I.hok.fresh hSs
  have atP := LiI.putT_at as kvs (upd H S (.lst (as.map V.ref))) hl nd
  have off : ∀ b, b ∉ as → b ≠ S → LiI.putT (upd H S (.lst (as.map V.ref))) as kvs b = H b := fun b h1 h2 => by rw [LiI.putT_off as kvs _ h1, upd_ne h2]
  have low : ∀ b o, s.heap.get? b = some o → b ∉ as ∧ b ≠ S := fun b o e => ⟨fun z => absurd (Heap.lt_size e) (Nat.not_lt.mpr (Nat.le_trans hSs (Nat.le_of_lt (ha b z)))), Nat.ne_of_lt (Nat.lt_of_lt_of_le (Heap.lt_size e) hSs)⟩
  have kp : ∀ b u, H b = some u → (LiI.putT (upd H S (.lst (as.map V.ref))) as kvs) b = some u := fun b u e => by
    rw [off b (fun z => by rw [new b z] at e; cases e) (fun z => by rw [z, newS] at e; cases e)]
    exact e
  have eS : LiI.putT (upd H S (.lst (as.map V.ref))) as kvs S = some (.lst (as.map V.ref)) := by rw [LiI.putT_off as kvs _ hSn, upd_same]
  refine ⟨LiI.putT (upd H S (.lst (as.map V.ref))) as kvs, kp, newS, new, hSn, eS, atP, ?_⟩
  refine I.call' (ch := []) rfl ⟨fun b o q _ _ _ => hk b o q, fun b o q _ _ _ => ⟨o.slots, hk b o q⟩, fun b o q n _ => ?_, fun b o q _ => ⟨o, hk b o q⟩, fun b xs q => kp b _ q, fun b o u q => kp b _ q, fun b ps q => ⟨#[], by rw [kp b _ q]; simp⟩⟩ (fun b u q => ?_) I.bare fun b z => by simp at z
  · obtain ⟨z1, z2⟩ := low b o q
    rw [off b z1 z2]
    exact n
  · by_cases hb : b ∈ as
    · obtain ⟨j, pk, e1, e2, e3⟩ := LiI.paired_ix atP hb
      rw [e3] at q
      cases q
      obtain ⟨u, v, f1, f2, f3⟩ := hp j b pk e1 e2
      exact ⟨by show 2 ≤ sizeLine; decide, [u, v], .cons f1 (.cons f2 .nil), ⟨_, f3, rfl, _, rfl⟩⟩
    · by_cases hb2 : b = S
      · rw [hb2] at q ⊢
        rw [eS] at q
        cases q
        refine ⟨by rw [List.length_map]; omega, acc.toList, c, by rw [hacc]; exact LiI.vals_refs as, ?_⟩
        rw [Array.toArray_toList]
        exact hS
      · rw [off b hb hb2] at q
        exact (I.hok b u q).stay (fun d v _ y => hk d v y) (fun d y => kp d _ y) fun d xs y => kp d _ y
def rEnL (K : PySem.W.Frag) : V → Hp → VK → Prop := fun x H Q => ∃ (l : Addr) (vs : List V), x = .ref l ∧ SqL K H l vs ∧
  ∀ (H' : Hp) (p : Addr) (ts : List Addr), (∀ b o, H b = some o → H' b = some o) → H p = none → (∀ t ∈ ts, H t = none) → p ∉ ts → H' p = some (.lst (ts.map V.ref)) → ts.length = vs.length → (∀ (j : Nat) (t : Addr) (v : V), ts[j]? = some t → vs[j]? = some v → H' t = some (.tup [.int (j : Nat), v])) → Q (.ref p) H'
theorem pe_listEnum {X : Cx} {e : Expr} {te : TE} {p p2 pos pos2 : Pos} (hc : X.calm = true) (he : PE X e te) (hg : Gl X "list") (hm : X.mg "list" = none) (hg2 : Gl X "enumerate") (hm2 : X.mg "enumerate" = none)
    (hs : starEach [.Call (.Name "enumerate" p2) [e] [] pos2] X.env = (false, eval (.Call (.Name "enumerate" p2) [e] [] pos2) X.env) :: starEach [] X.env := by rfl) (hs2 : starEach [e] X.env = (false, eval e X.env) :: starEach [] X.env := by rfl) :
    PE X (.Call (.Name "list" p) [.Call (.Name "enumerate" p2) [e] [] pos2] [] pos) (fun σ H Q => te σ H fun x H1 => rEnL X.K x H1 Q) := by
  refine ⟨fun pins s σ H Q I hq => ?_⟩
  refine Call_ (ld_blt I hg hm boot_list (PyProof.Rows.callWith_type1 ?_ hs rfl))
  rw [hs]
  show wpAny _ _ (spliced ((false, eval (.Call (.Name "enumerate" p2) [e] [] pos2) X.env) :: backTo pos (starEach [] X.env))) _ _ s
  refine Calls.spliced_cons ?_
  refine Call_ (ld_blt I hg2 hm2 boot_enumerate (PyProof.Rows.callWith_type1 ?_ hs2 rfl))
  rw [hs2]
  show wpAny _ _ (spliced ((false, eval e X.env) :: backTo pos2 (starEach [] X.env))) _ _ s
  refine Calls.spliced_cons ?_
  refine thn (he.run pins s σ H _ I hq) fun u s1 ⟨x, H1, I1, rx, l, vs, ex, hl, q⟩ => ?_
  subst ex
  cases rx
  refine Calls.spliced_nil ?_
  obtain ⟨its, rv, pl, hz⟩ := I1.list hl
  refine call_enumerate_list pl.isList fun h' hen hit hsz hk => ?_
  refine Calls.spliced_nil ?_
  have hlt : l < s1.heap.objs.size := let ⟨_, ho, _⟩ := pl.isList; Heap.lt_size ho
  have hlv := rv.length
  refine en_call (s := { s1 with heap := h' }) (items := its.toArray) (I1.ok.hd hc) hen hit (pl.isList.at fun o q => hk _ o q) (Nat.succ_ne_self _) (Nat.ne_of_lt (Nat.lt_succ_of_lt hlt)) (Nat.ne_of_lt hlt) (by rw [List.size_toArray, ← hlv]; exact hz) fun h2 tk acc c as hk2 hS2 hl2 hG hacc => ?_
  have hkk : ∀ b o, s1.heap.get? b = some o → h2.get? b = some o := fun b o q => hk2 b o (Nat.ne_of_lt (Nat.lt_succ_of_lt (Heap.lt_size q))) (Nat.ne_of_lt (Heap.lt_size q)) (hk b o q)
  have hzip : ∀ (vs : List V) (k : Nat), ∃ kvs : List (Key × V), kvs.length = vs.length ∧ ∀ (j : Nat) (v : V), vs[j]? = some v → kvs[j]? = some (Sum.inl ((k + j : Nat) : Int), v) := by
    intro vs
    induction vs with
    | nil => intro k; exact ⟨[], rfl, fun j v h => by simp at h⟩
    | cons a r ih =>
      intro k
      obtain ⟨kvs, g1, g2⟩ := ih (k + 1)
      refine ⟨(Sum.inl (k : Int), a) :: kvs, by rw [List.length_cons, List.length_cons, g1], fun j v h => ?_⟩
      cases j with
      | zero =>
        have e := Option.some.inj (by simpa using h)
        subst e
        rfl
      | succ j =>
        have := g2 j v (by simpa using h)
        rw [List.getElem?_cons_succ, this]
        have e : k + 1 + j = k + (j + 1) := by omega
        rw [e]
  obtain ⟨kvs, g1, g2⟩ := hzip vs 0
  rw [List.size_toArray] at hl2
  obtain ⟨H', k1, k2, k3, k4, k5, k6, J⟩ := refs_laid (g' := s1.gens) (tk := tk) (kvs := kvs) I1 (by rw [g1]; exact hz) hkk (by rw [hsz]; exact Nat.le_add_right _ _) hS2 (by rw [hl2, g1, hlv]) hG.rise hG.above hacc (fun j a qq e1 e2 => by
    obtain ⟨t, x, f1, f2⟩ := hG.pairs j a e1
    have hj : j < vs.length := by rw [← g1]; exact (List.getElem?_eq_some_iff.mp e2).1
    have e3 := g2 j _ (List.getElem?_eq_getElem hj)
    rw [e2] at e3
    have e4 := Option.some.inj e3
    subst e4
    obtain ⟨u, f3, f4⟩ := L2.Vals.get rv (List.getElem?_eq_getElem hj)
    have f5 : its.toArray[j]? = some u := by simpa using f3
    rw [f1] at f5
    have f6 := Option.some.inj f5
    subst f6
    exact ⟨_, x, ⟨t, by rw [Nat.zero_add]⟩, f4, f2⟩)
  refine ⟨.ref h'.objs.size, H', J, rfl, q H' _ as k1 k2 k3 k4 k5 (by rw [hl2, hlv]) fun j t v e1 e2 => ?_⟩
  obtain ⟨qv, f1, f2⟩ := LiI.paired_get k6 e1
  have e3 := g2 j v e2
  rw [f1] at e3
  have e4 := Option.some.inj e3
  subst e4
  rw [f2, Nat.zero_add]
  rfl
section
variable {X : Cx} {Γ : Cs} {W0 : Wd} {ρ : List Slot}
def addF (F H' : Hp) (t : Addr) : Hp := match H' t with
  | some o => upd F t o
  | none => F
theorem addF_ne {F H' : Hp} {t b : Addr} (h : b ≠ t) : addF F H' t b = F b := by
  unfold addF
  cases H' t with
  | none => rfl
  | some o => exact upd_ne h
def addT : Hp → Hp → List Addr → Hp
  | F, _, [] => F
  | F, H', t :: ts => addT (addF F H' t) H' ts
theorem addT_off {H' : Hp} {b : Addr} : ∀ (ts : List Addr) (F : Hp), b ∉ ts → addT F H' ts b = F b
  | [], _, _ => rfl
  | t :: ts, F, h => by
    have h1 : b ≠ t := fun z => h (by rw [z]; exact List.mem_cons_self)
    have h2 : b ∉ ts := fun z => h (List.mem_cons_of_mem _ z)
    show addT (addF F H' t) H' ts b = F b
    rw [addT_off ts _ h2, addF_ne h1]
theorem addT_on {H' : Hp} {b : Addr} {o : HO} (ho : H' b = some o) : ∀ (ts : List Addr) (F : Hp), b ∈ ts → addT F H' ts b = some o
  | [], _, h => by cases h
  | t :: ts, F, h => by
    show addT (addF F H' t) H' ts b = some o
    by_cases hb : b ∈ ts
    · exact addT_on ho ts _ hb
    · have e : b = t := by
        rcases List.mem_cons.mp h with e | e
        · exact e
        · exact absurd e hb
      subst e
      rw [addT_off ts _ hb]
      unfold addF
      rw [ho]
      exact upd_same
theorem o_listEnum {α : Type} [Rep α] {e : Expr} {p p2 pos pos2 : Pos} {m : Option (List α)} (hm : X.mg "list" = none) (hm2 : X.mg "enumerate" = none) (h : LX X Γ W0 e ρ m) (hc : X.calm = true := by rfl) (hg : Gl X "list" := by rfl) (hg2 : Gl X "enumerate" := by rfl)
    (hs : starEach [.Call (.Name "enumerate" p2) [e] [] pos2] X.env = (false, eval (.Call (.Name "enumerate" p2) [e] [] pos2) X.env) :: starEach [] X.env := by rfl) (hs2 : starEach [e] X.env = (false, eval e X.env) :: starEach [] X.env := by rfl) :
    OX X Γ W0 (.Call (.Name "list" p) [.Call (.Name "enumerate" p2) [e] [] pos2] [] pos) ρ (M1 enumM m) := ⟨fun ys hy W σ E Q k => by
  obtain ⟨xs, h1, hy⟩ := bindo hy
  cases hy
  refine wp_of (pe_listEnum hc pe_wp hg hm hg2 hm2 hs hs2) ?_
  refine h.run xs h1 W σ E _ fun a vs W2 le ok q i1 => ?_
  refine ⟨a, vs, rfl, SqL.of q, fun H' pp ts k1 k2 k3 k4 k5 k6 k7 => ?_⟩
  have hl := i1.len
  have hFn : ∀ t ∈ ts, W2.F t = none := fun t ht => ok.none_of (k3 t ht)
  have le2 : HLe W2.F (addT W2.F H' ts) := fun b o hb => by
    have nb : b ∉ ts := fun z => by rw [hFn b z] at hb; cases hb
    exact ⟨o, by rw [addT_off ts _ nb]; exact hb, rfl⟩
  refine k pp (ts.map V.ref) ⟨addT W2.F H' ts, H'⟩ (le.trans ⟨k1, le2, fun b g1 g2 => ?_⟩) (fun b o hb => ?_) (le.free k2) ?_ k5 ?_
  · have nb : b ∉ ts := fun z => g1 (k3 b z)
    show addT W2.F H' ts b = none
    rw [addT_off ts _ nb]
    exact g2
  · by_cases nb : b ∈ ts
    · have hb' : addT W2.F H' ts b = some o := hb
      obtain ⟨j, hj⟩ := List.mem_iff_getElem?.mp nb
      have hjl : j < vs.length := by rw [← k6]; exact (List.getElem?_eq_some_iff.mp hj).1
      have e := k7 j b _ hj (List.getElem?_eq_getElem hjl)
      rw [addT_on e ts _ nb] at hb'
      exact ⟨_, e, by rw [Option.some.inj hb']⟩
    · have hb' : addT W2.F H' ts b = some o := hb
      rw [addT_off ts _ nb] at hb'
      obtain ⟨o', g1, g2⟩ := ok b o hb'
      exact ⟨o', k1 b o' g1, g2⟩
  · show addT W2.F H' ts pp = none
    rw [addT_off ts _ k4]
    exact ok.none_of k2
  · have go : ∀ (n : Nat) (vs : List V) (xs : List α) (ts' : List Addr), IsAll Γ W2.F vs xs → ts'.length = vs.length → (∀ t ∈ ts', t ∈ ts) → (∀ (j : Nat) (t : Addr) (v : V), ts'[j]? = some t → vs[j]? = some v → H' t = some (.tup [.int ((n + j : Nat) : Int), v])) → IsAll Γ (addT W2.F H' ts) (ts'.map V.ref) (enumL n xs) := by
      intro n vs xs ts' hi
      induction hi generalizing n ts' with
      | nil =>
        intro g1 _ _
        cases ts' with
        | nil => exact .nil
        | cons _ _ => cases g1
      | @cons v x r r' hr _ ih =>
        intro g1 g2 g3
        cases ts' with
        | nil => cases g1
        | cons t tr =>
          have e := g3 0 t v rfl rfl
          refine .cons ⟨t, _, v, rfl, addT_on e ts _ (g2 t List.mem_cons_self), rfl, Rep.mono le2 hr⟩ ?_
          have := ih (n + 1) tr (Nat.succ.inj g1) (fun u hu => g2 u (List.mem_cons_of_mem _ hu)) fun j u v' e1 e2 => by
            have := g3 (j + 1) u v' (by simpa using e1) (by simpa using e2)
            rw [this]
            have e : n + (j + 1) = n + 1 + j := by omega
            rw [e]
          have ec : ((n + 1 : Nat) : Int) = (n : Int) + 1 := by omega
          rw [ec] at this
          exact this
    exact go 0 vs xs ts i1 k6 (fun t ht => ht) fun j t v e1 e2 => by rw [Nat.zero_add]; exact k7 j t v e1 e2⟩
end
end SR
end
section
set_option Elab.async false
set_option linter.all false
set_option maxRecDepth 100000
set_option maxHeartbeats 4000000
namespace SR
open PySem PySem.Spec PyProof.Rows L2

/-! ### == of data -/
class Dtm (α : Type) [Rep α] [DecidableEq α] [PySem.W.Datum α] : Prop where
  dp : ∀ {K : PySem.W.Frag} {Γ : Cs} {F H : Hp} {v : V} {x : α}, HLe F H → Is Γ F v x → Dp K H v (PySem.W.Datum.toD x)
theorem dp_all {α : Type} [Rep α] [DecidableEq α] [PySem.W.Datum α] [Dtm α] {K : PySem.W.Frag} {Γ : Cs} {F H : Hp} (ok : HLe F H) {vs : List V} {xs : List α} (h : IsAll Γ F vs xs) : DpAll K H vs (xs.map PySem.W.Datum.toD) := by
  induction h with
  | nil => exact .nil
  | cons r _ ih => exact .cons (Dtm.dp ok r) ih
instance : Dtm Int := ⟨fun ok i => by rw [show _ = V.int _ from i]; exact .int _⟩
instance : Dtm Bool := ⟨fun ok i => by rw [show _ = V.bl _ from i]; exact .bl _⟩
instance : Dtm Str := ⟨fun ok i => by rw [show _ = V.str _ from i]; exact .str _⟩
instance {α : Type} [Rep α] [DecidableEq α] [PySem.W.Datum α] [Dtm α] : Dtm (List α) := ⟨fun ok ⟨a, vs, e1, e2, e3⟩ => by
  subst e1
  exact .lst (SqL.of (ok.lst e2)) (dp_all ok e3)⟩
instance {α β : Type} [Rep α] [DecidableEq α] [PySem.W.Datum α] [Dtm α] [Rep β] [DecidableEq β] [PySem.W.Datum β] [Dtm β] : Dtm (α × β) := ⟨fun ok ⟨a, v1, v2, e1, e2, e3, e4⟩ => by
  subst e1
  exact .tup (SqT.of (ok.tup e2)) (.cons (Dtm.dp ok e3) (.cons (Dtm.dp ok e4) .nil))⟩
def rDt (K : PySem.W.Frag) (neg : Bool) (α : Type) [DecidableEq α] [PySem.W.Datum α] : R2 := fun x y H Q => ∃ a b : α, Dp K H x (PySem.W.Datum.toD a) ∧ Dp K H y (PySem.W.Datum.toD b) ∧ Q (.bl (if neg = true then !decide (a = b) else decide (a = b))) H
theorem op_eqDt {X : Cx} {α : Type} [DecidableEq α] [PySem.W.Datum α] (hu : X.A.units + PySem.W.Datum.depth α < cLine) : OpR X (compareOp .Eq) (rDt X.K false α) := by
  intro pins s σ H x y v u Q I rx ry h
  obtain ⟨a, b, ha, hb, q⟩ := h
  exact PySem.W.eq_datum (Dp.reads I _ _ _ ha rx) (Dp.reads I _ _ _ hb ry) hu ⟨.bl _, H, I, rfl, q⟩
theorem op_neDt {X : Cx} {α : Type} [DecidableEq α] [PySem.W.Datum α] (hu : X.A.units + PySem.W.Datum.depth α < cLine) : OpR X (compareOp .NotEq) (rDt X.K true α) := by
  intro pins s σ H x y v u Q I rx ry h
  obtain ⟨a, b, ha, hb, q⟩ := h
  exact PySem.W.ne_datum (Dp.reads I _ _ _ ha rx) (Dp.reads I _ _ _ hb ry) hu ⟨.bl _, H, I, rfl, by rw [show decide (a ≠ b) = !decide (a = b) from decide_not]; exact q⟩
def eqL {α : Type} [DecidableEq α] (xs ys : α) : Option Bool := some (decide (xs = ys))
def neqL {α : Type} [DecidableEq α] (xs ys : α) : Option Bool := some (!decide (xs = ys))
section
variable {X : Cx} {Γ : Cs} {W0 : Wd} {ρ : List Slot}
section
variable {α : Type} [Rep α] [DecidableEq α] [PySem.W.Datum α] [Dtm α] {a b : Expr} {pos : Pos} {ma mb : Option (List α)} {j : Nat}
theorem x_eqL (hr : Room j X.A) (ha : LX X Γ W0 a ρ ma) (hb : LX X Γ W0 b ρ mb) (hd : PySem.W.Datum.depth (List α) ≤ 64 := by decide) (hk : behindInMarks .Eq b = false := by first | exact nomark _ | rfl) : EX X Γ W0 (.Compare a [.Eq] [b] pos) ρ (M2 eqL ma mb) := ⟨fun z hm W σ E Q k => by
  obtain ⟨x, h1, hm⟩ := bindo hm
  obtain ⟨y, h2, hm⟩ := bindo hm
  cases hm
  refine wp_of (pe_cmpR (op_eqDt (α := List α) (by have := hr.units; omega)) pe_wp pe_wp hk) ?_
  refine ha.run x h1 W σ E _ fun p vs W2 le ok q i1 => ?_
  refine hb.run y h2 W2 σ (E.mono le ok) _ fun p' us W3 le2 ok2 q2 i2 => ?_
  exact ⟨x, y, .lst (SqL.of (le2.h _ _ q)) (dp_all ok2 (i1.mono le2.f)), .lst (SqL.of q2) (dp_all ok2 i2), k _ W3 (le.trans le2) ok2 rfl⟩⟩
theorem x_neL (hr : Room j X.A) (ha : LX X Γ W0 a ρ ma) (hb : LX X Γ W0 b ρ mb) (hd : PySem.W.Datum.depth (List α) ≤ 64 := by decide) (hk : behindInMarks .NotEq b = false := by first | exact nomark _ | rfl) : EX X Γ W0 (.Compare a [.NotEq] [b] pos) ρ (M2 neqL ma mb) := ⟨fun z hm W σ E Q k => by
  obtain ⟨x, h1, hm⟩ := bindo hm
  obtain ⟨y, h2, hm⟩ := bindo hm
  cases hm
  refine wp_of (pe_cmpR (op_neDt (α := List α) (by have := hr.units; omega)) pe_wp pe_wp hk) ?_
  refine ha.run x h1 W σ E _ fun p vs W2 le ok q i1 => ?_
  refine hb.run y h2 W2 σ (E.mono le ok) _ fun p' us W3 le2 ok2 q2 i2 => ?_
  exact ⟨x, y, .lst (SqL.of (le2.h _ _ q)) (dp_all ok2 (i1.mono le2.f)), .lst (SqL.of q2) (dp_all ok2 i2), k _ W3 (le.trans le2) ok2 rfl⟩⟩
theorem t_eqL (hr : Room j X.A) (ha : LX X Γ W0 a ρ ma) (hb : LX X Γ W0 b ρ mb) (hd : PySem.W.Datum.depth (List α) ≤ 64 := by decide) (hk : behindInMarks .Eq b = false := by first | exact nomark _ | rfl) : TX X Γ W0 (.Compare a [.Eq] [b] pos) ρ (M2 eqL ma mb) := ⟨fun z hm W σ E Q k => by
  obtain ⟨x, h1, hm⟩ := bindo hm
  obtain ⟨y, h2, hm⟩ := bindo hm
  cases hm
  refine wt_of (pt_cmpR (op_eqDt (α := List α) (by have := hr.units; omega)) pe_wp pe_wp hk) ?_
  refine ha.run x h1 W σ E _ fun p vs W2 le ok q i1 => ?_
  refine hb.run y h2 W2 σ (E.mono le ok) _ fun p' us W3 le2 ok2 q2 i2 => ?_
  exact ⟨x, y, .lst (SqL.of (le2.h _ _ q)) (dp_all ok2 (i1.mono le2.f)), .lst (SqL.of q2) (dp_all ok2 i2), _, rfl, k W3 (le.trans le2) ok2⟩⟩
theorem t_neL (hr : Room j X.A) (ha : LX X Γ W0 a ρ ma) (hb : LX X Γ W0 b ρ mb) (hd : PySem.W.Datum.depth (List α) ≤ 64 := by decide) (hk : behindInMarks .NotEq b = false := by first | exact nomark _ | rfl) : TX X Γ W0 (.Compare a [.NotEq] [b] pos) ρ (M2 neqL ma mb) := ⟨fun z hm W σ E Q k => by
  obtain ⟨x, h1, hm⟩ := bindo hm
  obtain ⟨y, h2, hm⟩ := bindo hm
  cases hm
  refine wt_of (pt_cmpR (op_neDt (α := List α) (by have := hr.units; omega)) pe_wp pe_wp hk) ?_
  refine ha.run x h1 W σ E _ fun p vs W2 le ok q i1 => ?_
  refine hb.run y h2 W2 σ (E.mono le ok) _ fun p' us W3 le2 ok2 q2 i2 => ?_
  exact ⟨x, y, .lst (SqL.of (le2.h _ _ q)) (dp_all ok2 (i1.mono le2.f)), .lst (SqL.of q2) (dp_all ok2 i2), _, rfl, k W3 (le.trans le2) ok2⟩⟩
end

/-! ### assignments of more than one name -/
theorem s_par {α β : Type} [Rep α] [Rep β] {a b : Expr} {x y : Str} {px py pt pos pt2 : Pos} {kt k2 : Nat} {ma : Option α} {mb : Option β} (i j : Nat) (ha : EX X Γ W0 a ρ ma) (hb : EX X Γ W0 b ρ mb) (nd : X.N.Nodup) (hi : X.N[i]? = some x := by rfl) (hj : X.N[j]? = some y := by rfl) (hij : i ≠ j := by decide)
    (hx : X.env.scope.names.lookup x = some .local := by rfl) (hy : X.env.scope.names.lookup y = some .local := by rfl) (hc : X.calm = true := by rfl)
    (hw : swappedStores [.Tuple [.Name x px, .Name y py] kt pt] (.Tuple [a, b] k2 pt2) X.env = pure (some [x, y]) := by rfl) (hs : swapsWithSole [.Tuple [.Name x px, .Name y py] kt pt] (.Tuple [a, b] k2 pt2) pos.line X.env = pure false := by rfl)
    (hp : X.calm = true → X.N.Nodup → X.N[i]? = some x → X.N[j]? = some y → i ≠ j → X.env.scope.names.lookup x = some .local → X.env.scope.names.lookup y = some .local → swappedStores [.Tuple [.Name x px, .Name y py] kt pt] (.Tuple [a, b] k2 pt2) X.env = pure (some [x, y]) → swapsWithSole [.Tuple [.Name x px, .Name y py] kt pt] (.Tuple [a, b] k2 pt2) pos.line X.env = pure false → PS X (.Assign [.Tuple [.Name x px, .Name y py] kt pt] (.Tuple [a, b] k2 pt2) pos) (tPar i j (tCons (wpE X a) (tCons (wpE X b) tNil))) := by intro a1 a2 a3 a4 a5 a6 a7 a8 a9; exact ps_par a1 a2 a3 a4 a5 a6 a7 (pa_cons pe_wp (pa_cons pe_wp pa_nil)) a8 a9) :
    SX X Γ W0 (.Assign [.Tuple [.Name x px, .Name y py] kt pt] (.Tuple [a, b] k2 pt2) pos) ρ (M2 pairM ma mb) (fun z => (ρ.set i (fz z.1)).set j (fz z.2)) := ⟨fun z hm W σ E D k => by
  obtain ⟨u, h1, hm⟩ := bindo hm
  obtain ⟨v, h2, hm⟩ := bindo hm
  cases hm
  refine ws_of (hp hc nd hi hj hij hx hy hw hs) ?_
  refine ha.run u h1 W σ E _ fun a' W2 le ok i1 => ?_
  refine hb.run v h2 W2 σ (E.mono le ok) _ fun b' W3 le2 ok2 i2 => ?_
  exact ⟨a', b', rfl, k W3 _ (le.trans le2).f (((E.mono (le.trans le2) ok2).set i (Rep.mono le2.f i1)).set j i2)⟩⟩
/-- a, b = e and the like -/
theorem s_unp {α : Type} [Rep α] {tg e : Expr} {pos : Pos} {g : TG} {put : List Slot → α → List Slot} {vs : List Nat} {m : Option α} (he : EX X Γ W0 e ρ m) (hg : PG X tg g) (ts : TgS Γ g put vs) (hs : swapsWithSole [tg] e pos.line X.env = pure false := by rfl) (hw : swappedStores [tg] e X.env = pure none := by rfl)
    (h1 : (assignEach [tg] X.env).map (·.2) = [assign tg X.env] := by rfl) : SX X Γ W0 (.Assign [tg] e pos) ρ m (fun x => put ρ x) := ⟨fun x hm W σ E D k => by
  refine ws_of (ps_asg pe_wp hg hs hw h1) ?_
  refine he.run x hm W σ E _ fun v W2 le ok i1 => ?_
  exact ts W0 W2 v x ρ σ _ (E.mono le ok) i1 fun σ2 E2 _ => k W2 σ2 le.f E2⟩

/-! ### list(range(..)) -/
theorem rg_is (a : Int) {F : Hp} : ∀ (n : Nat), IsAll Γ F ((List.range n).map fun i => V.int (a + (i : Nat))) (rangeL a n) := by
  have go : ∀ (n k : Nat), IsAll Γ F ((List.range' k n).map fun i => V.int (a + (i : Nat))) (rangeL (a + (k : Nat)) n) := by
    intro n
    induction n with
    | zero => intro k; exact .nil
    | succ n ih =>
      intro k
      have := ih (k + 1)
      have e : a + ((k + 1 : Nat) : Int) = a + (k : Nat) + 1 := by omega
      rw [e] at this
      exact .cons rfl this
  intro n
  have := go n 0
  rw [← List.range_eq_range'] at this
  have e : a + ((0 : Nat) : Int) = a := by omega
  rw [e] at this
  exact this
theorem o_listRg2 {a b : Expr} {p p2 pos pos2 : Pos} {ma mb : Option Int} (hm : X.mg "list" = none) (hm2 : X.mg "range" = none) (ha : EX X Γ W0 a ρ ma) (hb : EX X Γ W0 b ρ mb) (hc : X.calm = true := by rfl) (hg : Gl X "list" := by rfl) (hg2 : Gl X "range" := by rfl)
    (hp : X.calm = true → Gl X "list" → X.mg "list" = none → Gl X "range" → X.mg "range" = none → PE X (.Call (.Name "list" p) [.Call (.Name "range" p2) [a, b] [] pos2] [] pos) (tLstRg (tRg2 (wpE X a) (wpE X b))) := by intro a1 a2 a3 a4 a5; exact pe_listRg a1 a2 a3 (prg_2 a4 a5 pe_wp pe_wp)) :
    OX X Γ W0 (.Call (.Name "list" p) [.Call (.Name "range" p2) [a, b] [] pos2] [] pos) ρ (M2 rangeM ma mb) := ⟨fun ys hy W σ E Q k => by
  obtain ⟨x, h1, hy⟩ := bindo hy
  obtain ⟨y, h2, hy⟩ := bindo hy
  unfold rangeM at hy
  split at hy
  · rename_i hz
    cases hy
    refine wp_of (hp hc hg hm hg2 hm2) ?_
    refine ha.run x h1 W σ E _ fun u W2 le ok i1 => ?_
    have e1 : u = .int x := i1
    subst e1
    refine hb.run y h2 W2 σ (E.mono le ok) _ fun u W3 le2 ok2 i2 => ?_
    have e2 : u = .int y := i2
    subst e2
    unfold cap at hz
    refine ⟨x, y, rfl, rfl, ⟨by omega, by omega, by omega, by omega, by omega⟩, fun q hq => ?_⟩
    exact k q _ ⟨W3.F, upd W3.H q _⟩ ((le.trans le2).trans (.new hq)) (ok_new ok2 hq) ((le.trans le2).free hq) (ok2.none_of hq) upd_same (rg_is x _)
  · cases hy⟩
theorem down_is (a : Int) {F : Hp} : ∀ (n : Nat), IsAll Γ F ((List.range n).map fun i => V.int (a - (i : Nat))) (downL a n) := by
  have go : ∀ (n k : Nat), IsAll Γ F ((List.range' k n).map fun i => V.int (a - (i : Nat))) (downL (a - (k : Nat)) n) := by
    intro n
    induction n with
    | zero => intro k; exact .nil
    | succ n ih =>
      intro k
      have := ih (k + 1)
      have e : a - ((k + 1 : Nat) : Int) = a - (k : Nat) - 1 := by omega
      rw [e] at this
      exact .cons rfl this
  intro n
  have := go n 0
  rw [← List.range_eq_range'] at this
  have e : a - ((0 : Nat) : Int) = a := by omega
  rw [e] at this
  exact this
def tLstDn (ta : TA) : TE := fun σ H Q => ta σ H fun vs H1 => ∃ a b : Int, vs = [.int a, .int b, .int (-1)] ∧ (-cap < a ∧ a < cap ∧ -cap < b ∧ b < cap) ∧ ∀ q, H1 q = none → Q (.ref q) (upd H1 q (.lst ((List.range (a - b).toNat).map fun i => V.int (a - (i : Nat)))))
theorem pe_listDn {a b c : Expr} {ta : TA} {p p2 pos pos2 : Pos} (hc : X.calm = true) (hg : Gl X "list") (hm : X.mg "list" = none) (hg2 : Gl X "range") (hm2 : X.mg "range" = none) (ha : PA X [a, b, c] ta)
    (hs : starEach [.Call (.Name "range" p2) [a, b, c] [] pos2] X.env = (false, eval (.Call (.Name "range" p2) [a, b, c] [] pos2) X.env) :: starEach [] X.env := by rfl) (hs2 : starEach [a, b, c] X.env = (false, eval a X.env) :: starEach [b, c] X.env := by rfl) (hpl : (backTo pos2 (starEach [b, c] X.env)).any (·.1) = false := by rfl) :
    PE X (.Call (.Name "list" p) [.Call (.Name "range" p2) [a, b, c] [] pos2] [] pos) (tLstDn ta) := by
  refine ⟨fun pins s σ H Q I hq => ?_⟩
  refine Call_ (ld_blt I hg hm boot_list (PyProof.Rows.callWith_type1 ?_ hs rfl))
  rw [hs]
  show wpAny _ _ (spliced ((false, eval (.Call (.Name "range" p2) [a, b, c] [] pos2) X.env) :: backTo pos (starEach [] X.env))) _ _ s
  refine Calls.spliced_cons ?_
  refine Call_ (ld_blt I hg2 hm2 boot_range (PyProof.Rows.callWith_type1 (thn (ha.run pos2 pins s σ H _ I hq) fun us s1 ⟨vs, H1, I1, r1, q1⟩ => ?_) hs2 hpl))
  obtain ⟨x, y, e, ⟨b1, b2, b3, b4⟩, q⟩ := q1
  subst e
  unfold cap at b1 b2 b3 b4
  cases r1 with
  | cons r rr =>
    cases rr with
    | cons r' rr =>
      cases rr with
      | cons r'' rr =>
        cases rr
        obtain ⟨t, rfl⟩ := r
        obtain ⟨t', rfl⟩ := r'
        obtain ⟨t'', rfl⟩ := r''
        refine call_range_3 (by decide) ?_ (.inl (PyProof.noPylong_small (by omega)))
        refine Calls.spliced_nil ?_
        have I2 : Inv X pins σ H1 { s1 with heap := s1.heap.push { cls := .type "range", data := .fields #[.int x t, .int y t', .int (-1) t''] } } := I1.kept (t' := s1.toks) fun b o e => Heap.get?_push_of_some _ e
        obtain ⟨c0, c1, hsm, hn⟩ := RgC.neg (i := x) (j := y) (by omega) (by omega) (by omega) (by omega)
        refine call_list_range (n := (x - y).toNat) (I1.ok.hd hc) (IsRange.new _ _ _ _ _ _ _) hsm hn (by omega) fun h' tk acc c' hk e' hi => ?_
        have hlen : acc.toList.length = (x - y).toNat := by rw [Array.length_toList]; exact hi.1
        have hv : Vals ((List.range (x - y).toNat).map fun i => V.int (x - (i : Nat))) acc.toList := by
          rw [← hlen]
          refine vals_of_get acc.toList _ fun j u hj => ?_
          obtain ⟨t, rfl⟩ := hi.2 j u (by rw [← hj, Array.getElem?_toList])
          exact ⟨t, by rw [Int.mul_neg, Int.mul_one, Int.sub_eq_add_neg]⟩
        refine ⟨.ref _, upd H1 _ (.lst ((List.range (x - y).toNat).map fun i => V.int (x - (i : Nat)))), I2.laid hk (Nat.le_refl _) (show ObjOk X.prog X.w _ _ _ (.lst _) from ⟨?_, acc.toList, c', hv, ?_⟩), rfl, q _ (I2.hok.fresh (Nat.le_refl _))⟩
        · rw [List.length_map, List.length_range, sizeLine_eq]
          omega
        · rw [Array.toArray_toList]
          exact e'
theorem o_listDn {a b : Expr} {p p2 pos pos2 p3 p4 : Pos} {jj : Nat} {ma mb : Option Int} (hm : X.mg "list" = none) (hm2 : X.mg "range" = none) (ha : EX X Γ W0 a ρ ma) (hb : EX X Γ W0 b ρ mb) (hc : X.calm = true := by rfl) (hg : Gl X "list" := by rfl) (hg2 : Gl X "range" := by rfl)
    (hp : X.calm = true → Gl X "list" → X.mg "list" = none → Gl X "range" → X.mg "range" = none → PE X (.Call (.Name "list" p) [.Call (.Name "range" p2) [a, b, .UnaryOp .USub (.Constant (.int 1) jj p3) p4] [] pos2] [] pos) (tLstDn (tCons (wpE X a) (tCons (wpE X b) (tCons (tUn (rU fun i => .int (-i)) (tC (.int 1))) tNil)))) := by intro a1 a2 a3 a4 a5; exact pe_listDn a1 a2 a3 a4 a5 (pa_cons pe_wp (pa_cons pe_wp (pa_cons (pe_un un_neg pe_int) pa_nil)))) :
    OX X Γ W0 (.Call (.Name "list" p) [.Call (.Name "range" p2) [a, b, .UnaryOp .USub (.Constant (.int 1) jj p3) p4] [] pos2] [] pos) ρ (M2 downM ma mb) := ⟨fun ys hy W σ E Q k => by
  obtain ⟨x, h1, hy⟩ := bindo hy
  obtain ⟨y, h2, hy⟩ := bindo hy
  unfold downM at hy
  split at hy
  · rename_i hz
    cases hy
    refine wp_of (hp hc hg hm hg2 hm2) ?_
    refine ha.run x h1 W σ E _ fun u W2 le ok i1 => ?_
    have e1 : u = .int x := i1
    subst e1
    refine hb.run y h2 W2 σ (E.mono le ok) _ fun u W3 le2 ok2 i2 => ?_
    have e2 : u = .int y := i2
    subst e2
    refine ⟨1, rfl, ?_⟩
    refine ⟨x, y, rfl, ⟨hz.2.2.1, hz.2.2.2, hz.1, hz.2.1⟩, fun q hq => ?_⟩
    exact k q _ ⟨W3.F, upd W3.H q _⟩ ((le.trans le2).trans (.new hq)) (ok_new ok2 hq) ((le.trans le2).free hq) (ok2.none_of hq) upd_same (down_is x _)
  · cases hy⟩
end
end SR
end
section
set_option Elab.async false
set_option linter.all false
set_option maxRecDepth 100000
set_option maxHeartbeats 4000000
namespace SR
open PySem PySem.Spec PyProof.Rows L2

/-! ### targets -/
section
variable {X : Cx} {Γ : Cs} {W0 : Wd} {ρ : List Slot}
theorem pg1 (i : Nat) {x : Str} {pos : Pos} (nd : X.N.Nodup) (hi : X.N[i]? = some x := by rfl) (hx : Loc X.env.scope x := by first | exact Or.inl rfl | exact Or.inr rfl) (hf : X.fn x = true ∨ X.env.scope.names.lookup x = some .local := by first | exact .inl rfl | exact .inr rfl) : PG X (.Name x pos) (gName i) := pg_name nd hi hx hf
theorem pg2 (i j : Nat) {x y : Str} {p1 p2 pos : Pos} {k : Nat} (nd : X.N.Nodup) (hc : X.calm = true := by rfl) (hi : X.N[i]? = some x := by rfl) (hj : X.N[j]? = some y := by rfl) (hx : Loc X.env.scope x := by first | exact Or.inl rfl | exact Or.inr rfl) (hy : Loc X.env.scope y := by first | exact Or.inl rfl | exact Or.inr rfl)
    (hf : X.fn x = true ∨ X.env.scope.names.lookup x = some .local := by first | exact .inl rfl | exact .inr rfl) (hf2 : X.fn y = true ∨ X.env.scope.names.lookup y = some .local := by first | exact .inl rfl | exact .inr rfl)
    (hp : X.calm = true → PG X (.Name x p1) (gName i) → PG X (.Name y p2) (gName j) → PG X (.Tuple [.Name x p1, .Name y p2] k pos) (gTup X.K 2 (gCons (gName i) (gCons (gName j) gNil))) := by intro c a b; exact pg_tup c (pgs_cons a (pgs_cons b pgs_nil))) :
    PG X (.Tuple [.Name x p1, .Name y p2] k pos) (gTup X.K 2 (gCons (gName i) (gCons (gName j) gNil))) := hp hc (pg_name nd hi hx hf) (pg_name nd hj hy hf2)
theorem pg3 (i j l : Nat) {x y z : Str} {p1 p2 p3 pos : Pos} {k : Nat} (nd : X.N.Nodup) (hc : X.calm = true := by rfl) (hi : X.N[i]? = some x := by rfl) (hj : X.N[j]? = some y := by rfl) (hl : X.N[l]? = some z := by rfl) (hx : Loc X.env.scope x := by first | exact Or.inl rfl | exact Or.inr rfl) (hy : Loc X.env.scope y := by first | exact Or.inl rfl | exact Or.inr rfl) (hz : Loc X.env.scope z := by first | exact Or.inl rfl | exact Or.inr rfl)
    (hf : X.fn x = true ∨ X.env.scope.names.lookup x = some .local := by first | exact .inl rfl | exact .inr rfl) (hf2 : X.fn y = true ∨ X.env.scope.names.lookup y = some .local := by first | exact .inl rfl | exact .inr rfl) (hf3 : X.fn z = true ∨ X.env.scope.names.lookup z = some .local := by first | exact .inl rfl | exact .inr rfl)
    (hp : X.calm = true → PG X (.Name x p1) (gName i) → PG X (.Name y p2) (gName j) → PG X (.Name z p3) (gName l) → PG X (.Tuple [.Name x p1, .Name y p2, .Name z p3] k pos) (gTup X.K 3 (gCons (gName i) (gCons (gName j) (gCons (gName l) gNil)))) := by intro c a b d; exact pg_tup c (pgs_cons a (pgs_cons b (pgs_cons d pgs_nil)))) :
    PG X (.Tuple [.Name x p1, .Name y p2, .Name z p3] k pos) (gTup X.K 3 (gCons (gName i) (gCons (gName j) (gCons (gName l) gNil)))) := hp hc (pg_name nd hi hx hf) (pg_name nd hj hy hf2) (pg_name nd hl hz hf3)
theorem Room.u1 {j : Nat} {A : Around} (hr : Room j A) : A.units + 1 < cLine := by have := hr.units; omega
theorem x_and4 {a b d f : Expr} {pos : Pos} {m1 m2 m3 m4 : Option Bool} (ha : EX X Γ W0 a ρ m1) (hb : EX X Γ W0 b ρ m2) (hd : EX X Γ W0 d ρ m3) (hf : EX X Γ W0 f ρ m4) : EX X Γ W0 (.BoolOp .And [a, b, d, f] pos) ρ (andM m1 (andM m2 (andM m3 m4))) := ⟨fun z hm W σ E Q k => by
  obtain ⟨x, h1, hm⟩ := bindo hm
  refine wp_of (pe_and pe_wp (pe_and pe_wp (pe_and pe_wp (pe_one pe_wp)))) ?_
  refine ha.run x h1 W σ E _ fun v W2 le ok i1 => ?_
  have e1 : v = .bl x := i1
  subst e1
  refine ⟨x, rfl, ?_⟩
  cases x with
  | false =>
    have e : false = z := Option.some.inj hm
    subst e
    exact k _ W2 le ok rfl
  | true =>
    obtain ⟨y, h2, hm⟩ := bindo (show andM m2 (andM m3 m4) = some z from hm)
    refine hb.run y h2 W2 σ (E.mono le ok) _ fun v W3 le2 ok2 i2 => ?_
    have e2 : v = .bl y := i2
    subst e2
    refine ⟨y, rfl, ?_⟩
    cases y with
    | false =>
      have e : false = z := Option.some.inj hm
      subst e
      exact k _ W3 (le.trans le2) ok2 rfl
    | true =>
      obtain ⟨y', h3, hm⟩ := bindo (show andM m3 m4 = some z from hm)
      refine hd.run y' h3 W3 σ (E.mono (le.trans le2) ok2) _ fun v W4 le3 ok3 i3 => ?_
      have e3 : v = .bl y' := i3
      subst e3
      refine ⟨y', rfl, ?_⟩
      cases y' with
      | false =>
        have e : false = z := Option.some.inj hm
        subst e
        exact k _ W4 ((le.trans le2).trans le3) ok3 rfl
      | true => exact hf.run z hm W4 σ (E.mono ((le.trans le2).trans le3) ok3) Q fun v W5 le4 ok4 i4 => k v W5 (((le.trans le2).trans le3).trans le4) ok4 i4⟩
/-- a loop whose first turn is sure -/
def whileP {S : Type} (mc0 : Option Bool) (f0 : Option S) (mc : S → Option Bool) (f : S → Option S) (n : Nat) : Option S := mc0.bind fun b => if b = true then f0.bind fun s => whileM mc f n s else none
theorem s_whileP {S : Type} {c : Expr} {body : List Stmt} {pos : Pos} {n : Nat} {mc0 : Option Bool} {f0 : Option S} {mc : S → Option Bool} {f : S → Option S} {ρL : S → List Slot}
    (hc0 : TX X Γ W0 c ρ mc0) (hb0 : BX X Γ W0 body ρ f0 ρL) (hc : ∀ s, TX X Γ W0 c (ρL s) (mc s)) (hb : ∀ s, BX X Γ W0 body (ρL s) (f s) ρL) (hp : PassesOwn (model X.prog X.w) X.A X.env X.xe) : SX X Γ W0 (.While c body [] pos) ρ (whileP mc0 f0 mc f n) ρL := ⟨fun r hm W σ E D q => by
  obtain ⟨b0, e1, hm⟩ := bindo hm
  cases b0 with
  | false => cases hm
  | true =>
  obtain ⟨s0, e2, hm⟩ := bindo (show f0.bind (fun s => whileM mc f n s) = some r from hm)
  refine ws_of (ps_while hp pt_wp pss_wp) ?_
  refine ⟨fun m σ' H' => (m = n + 1 ∧ σ' = σ ∧ H' = W.H) ∨ (m ≤ n ∧ ∃ W3 s, W3.H = H' ∧ HLe W.F W3.F ∧ EnvOk Γ W0 W3 (ρL s) σ' ∧ whileM mc f m s = some r), ⟨n + 1, .inl ⟨rfl, rfl, rfl⟩⟩, ?_⟩
  rintro m σ' H' (⟨rfl, rfl, rfl⟩ | ⟨hmn, W3, s, rfl, hF, E3, h3⟩)
  · refine hc0.run true e1 W σ' E _ fun W4 le4 ok4 => ?_
    refine iteT ⟨fun σ5 H5 => ∃ W5 s, W5.H = H5 ∧ HLe W.F W5.F ∧ EnvOk Γ W0 W5 (ρL s) σ5 ∧ whileM mc f n s = some r, fun σ5 H5 k5 => ⟨n, Nat.lt_succ_self n, .inr ⟨Nat.le_refl _, k5⟩⟩, ?_⟩
    exact hb0.run s0 e2 W4 σ' (E.mono le4 ok4) _ fun W6 σ6 le6 E6 => ⟨W6, s0, rfl, le4.f.trans le6, E6, hm⟩
  · cases m with
    | zero => cases h3
    | succ m =>
      obtain ⟨b, h4, h3⟩ := bindo (show (mc s).bind (fun b => if b = true then (f s).bind fun s' => whileM mc f m s' else some s) = some r from h3)
      refine (hc s).run b h4 W3 σ' E3 _ fun W4 le4 ok4 => ?_
      cases b with
      | true =>
        obtain ⟨s', h5, h3⟩ := bindo (show (f s).bind (fun s' => whileM mc f m s') = some r from h3)
        refine iteT ⟨fun σ5 H5 => ∃ W5 s, W5.H = H5 ∧ HLe W.F W5.F ∧ EnvOk Γ W0 W5 (ρL s) σ5 ∧ whileM mc f m s = some r, fun σ5 H5 k5 => ⟨m, Nat.lt_succ_self m, .inr ⟨by omega, k5⟩⟩, ?_⟩
        exact (hb s).run s' h5 W4 σ' (E3.mono le4 ok4) _ fun W6 σ6 le6 E6 => ⟨W6, s', rfl, (hF.trans le4.f).trans le6, E6, h3⟩
      | false =>
        have e : s = r := Option.some.inj h3
        subst e
        exact iteF (q W4 σ' (hF.trans le4.f) (E3.mono le4 ok4))⟩
/-! ### own dicts frozen on the way -/
theorem b_freezeD {α β : Type} [Rep α] {sts : List Stmt} {xs : List (Int × α)} {m : Option β} {ρ' : β → List Slot} (i : Nat) (h : BX X Γ W0 sts (ρ.set i (fz (Dct.mk xs))) m ρ') (h1 : ρ[i]? = some (.owD xs) := by rfl) : BX X Γ W0 sts ρ m ρ' := ⟨fun r hm W σ E D q => by
  obtain ⟨o, g1, a, vs, g2, g3, g4, g5, g6⟩ := E.slot h1
  subst g2
  obtain ⟨le, E2⟩ := E.freeze (d := ⟨Dct.mk xs⟩) h1 rfl g1 g5 ⟨a, vs, rfl, .inl upd_same, g6.mono (HLe.upd_new g4)⟩
  exact h.run r hm _ σ E2 D fun W3 σ3 le2 E3 => q W3 σ3 (le.trans le2) E3⟩
theorem g_freezeD {α S R : Type} [Rep α] {K : RK R} {sts : List Stmt} {xs : List (Int × α)} {m : Option (Out S R)} {ρ' : S → List Slot} (i : Nat) (h : GX X Γ W0 K sts (ρ.set i (fz (Dct.mk xs))) m ρ') (h1 : ρ[i]? = some (.owD xs) := by rfl) : GX X Γ W0 K sts ρ m ρ' := ⟨fun o hm W σ E D q => by
  obtain ⟨o', g1, a, vs, g2, g3, g4, g5, g6⟩ := E.slot h1
  subst g2
  obtain ⟨le, E2⟩ := E.freeze (d := ⟨Dct.mk xs⟩) h1 rfl g1 g5 ⟨a, vs, rfl, .inl upd_same, g6.mono (HLe.upd_new g4)⟩
  exact h.run _ hm _ σ E2 D (q.mono le)⟩
/-- one statement where the rest is empty -/
theorem b_one {β : Type} {st : Stmt} {m : Option β} {ρ' : β → List Slot} (h : SX X Γ W0 st ρ m ρ') : BX X Γ W0 [st] ρ m ρ' := ⟨fun r hm W σ E D q => by
  refine wss_of (pss_one ps_wp) ?_
  exact h.run r hm W σ E D q⟩
theorem b_weak {β : Type} {sts : List Stmt} {m : Option β} {ρ' : β → List Slot} {ρ2 : List Slot} (h : BX X Γ W0 sts ρ2 m ρ') (w : Weak ρ ρ2 := by repeat (first | exact Weak.nil | refine Weak.keep ?_ | refine Weak.drop ?_)) : BX X Γ W0 sts ρ m ρ' := ⟨fun r hm W σ E D q => h.run r hm W σ (E.weak w) D q⟩
theorem BX.to {β : Type} {sts : List Stmt} {m m' : Option β} {ρ' : β → List Slot} (h : BX X Γ W0 sts ρ m ρ') (q : m = m') : BX X Γ W0 sts ρ m' ρ' := q ▸ h
end
/-! ### facts, from the head's -/
def clsB : Stmt → List Stmt
  | .ClassDef (body := b) .. => b
  | _ => []
section
variable {P : Program} {w : World} {K : PySem.W.Frag} {mg : Str → Option Value} {base : Heap} {k : Nat} {sp : Sp} {nm qual : Str} {params : Arguments} {body : List Stmt} {scope : Scope} {kws : List (Str × V)} {fd : FuncData} {ps : List Str}
theorem calF {x : Str} (F : FunD K nm qual params body scope [] kws (He.fAd K (x, none)) fd) (ok : FnOk P w K mg base CX0 k (He.fAd K (x, none)) fd ps sp) (hg : mg x = some (.ref (He.ga K x)))
    (h : ∀ (kV doc pm : Value) (an : Option Addr) (cdv ct : Value) (us : List Value), us.length = ps.length → bindArgs (PySem.W.fnOf nm qual params body scope .none kV doc pm an cdv ct) ⟨us, []⟩ = pure (ps.zip us)) : CalF P w K mg base k x sp :=
  ⟨⟨_, fd, ps, ok, hg, F.kp, F.bindsN h⟩⟩
theorem metF {C m : Str} (F : FunD K nm qual params body scope [] kws (He.fAd K (C, some m)) fd) (ok : FnOk P w K mg base CX0 k (He.fAd K (C, some m)) fd ps sp) (c1 : Cls K (He.ga K C)) (c2 : Meth K (He.ga K C) m (He.ma K (He.ga K C) m))
    (h : ∀ (kV doc pm : Value) (an : Option Addr) (cdv ct : Value) (us : List Value), us.length = ps.length → bindArgs (PySem.W.fnOf nm qual params body scope .none kV doc pm an cdv ct) ⟨us, []⟩ = pure (ps.zip us)) : MetF P w K mg base k (He.ga K C) m sp :=
  ⟨⟨_, fd, ps, c1, c2, ok, F.bindsN h, by
    obtain ⟨oc, od, dV, kV, doc, pm, an, cdv, ct, osl, e, lk, _⟩ := F.ex
    unfold PySem.W.fnIn
    have lk' : K.lookup (He.ma K (He.ga K C) m) = some ⟨oc, od, .func fd, osl⟩ := lk
    rw [lk']⟩⟩
theorem makF {C : Str} (F : FunD K nm qual params body scope [] kws (He.fAd K (C, some "__init__")) fd) (ok : FnOk P w K mg base CX0 k (He.fAd K (C, some "__init__")) fd ps sp) (c : Mk K (He.ga K C) (He.ma K (He.ga K C) "__init__")) (hg : mg C = some (.ref (He.ga K C)))
    (h : ∀ (kV doc pm : Value) (an : Option Addr) (cdv ct : Value) (us : List Value), us.length = ps.length → bindArgs (PySem.W.fnOf nm qual params body scope .none kV doc pm an cdv ct) ⟨us, []⟩ = pure (ps.zip us)) : MakF P w K mg base k C (He.ga K C) sp :=
  ⟨⟨_, fd, ps, c, ok, hg, F.bindsN h⟩⟩
theorem makFD {C : Str} {dvs : List V} (n : Nat) (F : FunD K nm qual params body scope dvs kws (He.fAd K (C, some "__init__")) fd) (ok : FnOk P w K mg base CX0 k (He.fAd K (C, some "__init__")) fd ps sp) (c : Mk K (He.ga K C) (He.ma K (He.ga K C) "__init__")) (hg : mg C = some (.ref (He.ga K C))) (hd : dvs ≠ []) (hn : n = ps.length)
    (h : ∀ (T : Addr) (kV doc pm : Value) (an : Option Addr) (cdv ct : Value) (us its : List Value), us.length = n → its.length = dvs.length → ∃ k, bindArgs (PySem.W.fnOf nm qual params body scope (.ref T) kV doc pm an cdv ct) ⟨us, []⟩ = seqItems? (.ref T) >>= k ∧ k (some its.toArray) = pure (ps.zip us)) : MakF P w K mg base k C (He.ga K C) sp := by
  obtain ⟨ds, v, b⟩ := F.binds1 (ps := ps) n dvs.length hd (by omega) fun T kV doc pm an cdv ct us its h1 h2 => by
    obtain ⟨k, e1, e2⟩ := h T kV doc pm an cdv ct us its h1 h2
    exact ⟨k, e1, by rw [← h2, List.drop_length, List.append_nil]; exact e2⟩
  rw [List.drop_length] at v
  cases v
  exact ⟨⟨_, fd, ps, c, ok, hg, b⟩⟩
end
end SR
end
section
set_option Elab.async false
set_option linter.all false
set_option maxRecDepth 100000
set_option maxHeartbeats 4000000
namespace SR
open PySem PySem.Spec PyProof.Rows L2
/-- an instance of Filter -/
structure Flt where
  prime : Int
  kept : List (Int × Int)
  held : Dct Int
instance : Rec Flt := ⟨fun Γ => Γ.F, ["prime", "kept", "held"], fun r => [⟨r.prime⟩, ⟨r.kept⟩, ⟨r.held⟩]⟩
/-- an instance of Sequence -/
structure Sqn where
  prime : Int
  ruler : Flt
  front : List Int
  divisor : List Int
instance : Rec Sqn := ⟨fun Γ => Γ.S, ["prime", "ruler", "front", "divisor"], fun r => [⟨r.prime⟩, ⟨r.ruler⟩, ⟨r.front⟩, ⟨r.divisor⟩]⟩
section
variable {X : Cx} {Γ : Cs} {W0 : Wd} {ρ : List Slot}
theorem x_lenP {α β : Type} [Rep α] [Rep β] {e : Expr} {p pos : Pos} {m : Option (α × β)} (hM : X.mg "len" = none) (h : EX X Γ W0 e ρ m) (hg : Gl X "len" := by rfl) (he : starEach [e] X.env = [(false, eval e X.env)] := by rfl)
    (hp : Gl X "len" → X.mg "len" = none → PE X (.Call (.Name "len" p) [e] [] pos) (tCB (fun xs H Q => ∃ p ys, xs = [.ref p] ∧ (SqL X.K H p ys ∨ SqT X.K H p ys) ∧ Q (.int ys.length) H) (tCons (wpE X e) tNil)) := by intro hg hM; exact pe_callB call_len_seq hg hM PySem.boot_len (pa_cons pe_wp pa_nil)) : EX X Γ W0 (.Call (.Name "len" p) [e] [] pos) ρ (m.bind fun _ => some (2 : Int)) := ⟨fun z hm W σ E Q k => by
  obtain ⟨x, h1, hm⟩ := bindo hm
  cases hm
  refine wp_of (hp hg hM) ?_
  refine h.run x h1 W σ E _ fun v W2 le ok ⟨a, v1, v2, e1, e2, e3, e4⟩ => ?_
  subst e1
  exact ⟨a, _, rfl, .inr (SqT.of (ok.tup e2)), k _ W2 le ok rfl⟩⟩
theorem t_din {α : Type} [Rep α] {a b : Expr} {pos : Pos} {ma : Option (List (Int × α))} {mb : Option Int} (hu : X.A.units + 1 < cLine) (hb : EX X Γ W0 b ρ mb) (ha : DX X Γ W0 a ρ ma) (hk : behindInMarks .In a = false := by rfl) : TX X Γ W0 (.Compare b [.In] [a] pos) ρ (M2 dinM mb ma) := ⟨fun z hm W σ E Q k => by
  obtain ⟨i, h2, hm⟩ := bindo hm
  obtain ⟨xs, h1, hm⟩ := bindo hm
  cases hm
  refine wt_of (pt_cmp (pc_din hu pe_wp pe_wp) hk) ?_
  refine hb.run i h2 W σ E _ fun u W2 le ok i2 => ?_
  have e : u = .int i := i2
  subst e
  refine ha.run xs h1 W2 σ (E.mono le ok) _ fun p kvs W3 le2 ok2 q i1 => ?_
  have g := kvs_val i1 i
  refine ⟨p, _, rfl, dget_of i q, ?_⟩
  cases e : getD? xs i with
  | none =>
    rw [e] at g
    rw [show valV kvs (Sum.inl i) = none from g]
    have kk := k W3 (le.trans le2) ok2
    rw [e] at kk
    exact ⟨_, rfl, kk⟩
  | some w =>
    rw [e] at g
    obtain ⟨v, g1, g2⟩ := g
    rw [g1]
    have kk := k W3 (le.trans le2) ok2
    rw [e] at kk
    exact ⟨_, rfl, kk⟩⟩
theorem t_dnin {α : Type} [Rep α] {a b : Expr} {pos : Pos} {ma : Option (List (Int × α))} {mb : Option Int} (hu : X.A.units + 1 < cLine) (hb : EX X Γ W0 b ρ mb) (ha : DX X Γ W0 a ρ ma) (hk : behindInMarks .NotIn a = false := by rfl) : TX X Γ W0 (.Compare b [.NotIn] [a] pos) ρ (M2 dninM mb ma) := ⟨fun z hm W σ E Q k => by
  obtain ⟨i, h2, hm⟩ := bindo hm
  obtain ⟨xs, h1, hm⟩ := bindo hm
  cases hm
  refine wt_of (pt_cmp (pc_dnotin hu pe_wp pe_wp) hk) ?_
  refine hb.run i h2 W σ E _ fun u W2 le ok i2 => ?_
  have e : u = .int i := i2
  subst e
  refine ha.run xs h1 W2 σ (E.mono le ok) _ fun p kvs W3 le2 ok2 q i1 => ?_
  have g := kvs_val i1 i
  refine ⟨p, _, rfl, dget_of i q, ?_⟩
  cases e : getD? xs i with
  | none =>
    rw [e] at g
    rw [show valV kvs (Sum.inl i) = none from g]
    have kk := k W3 (le.trans le2) ok2
    rw [e] at kk
    exact ⟨_, rfl, kk⟩
  | some w =>
    rw [e] at g
    obtain ⟨v, g1, g2⟩ := g
    rw [g1]
    have kk := k W3 (le.trans le2) ok2
    rw [e] at kk
    exact ⟨_, rfl, kk⟩⟩
end
end SR
end
section
set_option Elab.async false
set_option linter.all false
set_option maxRecDepth 100000
set_option maxHeartbeats 4000000
namespace SR
open PySem PySem.Spec PyProof.Rows L2

/-! ### draws: computations that end in one of several values, over the number of draws so far -/
abbrev Mi (α : Type) : Type := Nat → (α → Nat → Prop) → Prop
def opt {α : Type} (m : Option α) : Mi α := fun n P => ∃ x, m = some x ∧ P x n
def bnd {α β : Type} (m : Mi α) (k : α → Mi β) : Mi β := fun n P => m n fun x n' => k x n' P
def ret {α : Type} (x : α) : Mi α := fun n P => P x n
def draw (size : Int) : Mi Int := fun n P => 0 < size ∧ size < 1073741824 ∧ n < 1000000 ∧ ∀ d, 0 ≤ d → d < size → P d (n + 1)
/-- the box: itself, the large cells, the others -/
structure Bx where
  b : Addr
  l : Addr
  r : Addr
def Mv (B : Bx) (a : Addr) : Prop := a = B.b ∨ a = B.l ∨ a = B.r
def Bok (B : Bx) (W : Wd) (n : Nat) : Prop := ∃ (c : Int) (xs ys : List Int), W.H B.b = some (.lst [.ref B.l, .int c, .ref B.r, .int n]) ∧ W.H B.l = some (.lst (xs.map V.int)) ∧ W.H B.r = some (.lst (ys.map V.int)) ∧
  (∀ a, Mv B a → W.F a = none) ∧ B.b ≠ B.l ∧ B.b ≠ B.r ∧ B.l ≠ B.r ∧ 0 ≤ c ∧ (∀ x ∈ xs, 0 ≤ x) ∧ xs.length ≤ 63 ∧ ys.length ≤ 63
theorem Bok.there {B : Bx} {W : Wd} {n : Nat} (h : Bok B W n) {a : Addr} (m : Mv B a) : W.H a ≠ none := by
  obtain ⟨c, xs, ys, h1, h2, h3, _⟩ := h
  rcases m with rfl | rfl | rfl
  · rw [h1]; exact (fun z => nomatch z)
  · rw [h2]; exact (fun z => nomatch z)
  · rw [h3]; exact (fun z => nomatch z)
theorem Bok.nf {B : Bx} {W : Wd} {n : Nat} (h : Bok B W n) {a : Addr} (m : Mv B a) : W.F a = none := by
  obtain ⟨c, xs, ys, h1, h2, h3, h4, _⟩ := h
  exact h4 a m
theorem Bok.le {B : Bx} {W W2 : Wd} {n : Nat} (h : Bok B W n) (le : W.le W2) : Bok B W2 n := by
  have t := fun {a} (m : Mv B a) => h.there m
  have f := fun {a} (m : Mv B a) => h.nf m
  obtain ⟨c, xs, ys, h1, h2, h3, h4, h5⟩ := h
  exact ⟨c, xs, ys, le.h _ _ h1, le.h _ _ h2, le.h _ _ h3, fun a m => le.own a (t m) (f m), h5⟩
structure WB (B : Bx) (W W' : Wd) : Prop where
  h : ∀ a o, ¬ Mv B a → W.H a = some o → W'.H a = some o
  f : HLe W.F W'.F
  own : ∀ a, W.H a ≠ none → W.F a = none → W'.F a = none
  th : ∀ a, W.H a ≠ none → W'.H a ≠ none
theorem WB.of {B : Bx} {W W' : Wd} (le : W.le W') : WB B W W' := ⟨fun a o _ h => le.h a o h, le.f, le.own, fun a h => by
  cases z : W.H a with
  | none => exact absurd z h
  | some o => rw [le.h a o z]; exact (fun z => nomatch z)⟩
theorem WB.refl {B : Bx} {W : Wd} : WB B W W := .of .refl
theorem WB.trans {B : Bx} {W W1 W2 : Wd} (p : WB B W W1) (q : WB B W1 W2) : WB B W W2 :=
  ⟨fun a o m h => q.h a o m (p.h a o m h), p.f.trans q.f, fun a h1 h2 => q.own a (p.th a h1) (p.own a h1 h2), fun a h => q.th a (p.th a h)⟩
theorem WB.free {B : Bx} {W W' : Wd} (p : WB B W W') {a : Addr} (h : W'.H a = none) : W.H a = none := by
  cases z : W.H a with
  | none => rfl
  | some o => exact absurd h (p.th a (by rw [z]; exact (fun z => nomatch z)))
structure NEnv (Γ : Cs) (W0 : Wd) (B : Bx) (W : Wd) (ρ : List Slot) (σ : St) (n : Nat) : Prop where
  E : EnvOk Γ W0 W ρ σ
  bk : Bok B W n
  nb : ∀ a, Mv B a → NotOwned ρ σ a
  w0 : ∀ a, Mv B a → W0.H a = none
section
variable {Γ : Cs} {W0 W W' : Wd} {B : Bx} {ρ : List Slot} {σ : St} {n n' : Nat}
theorem NEnv.mono (N : NEnv Γ W0 B W ρ σ n) (e : WB B W W') (ok : HLe W'.F W'.H) (bk : Bok B W' n') : NEnv Γ W0 B W' ρ σ n' := by
  have E := N.E
  have nm : ∀ {a : Addr} {o : HO}, W0.H a = some o → ¬ Mv B a := fun {a o} h m => by rw [N.w0 a m] at h; cases h
  refine ⟨⟨ok, ⟨fun a o h => e.h a o (nm h) (E.le.h a o h), E.le.f.trans e.f, fun a h1 h2 => e.own a ?_ (E.le.own a h1 h2)⟩, E.len, fun i s o h1 h2 => ?_, E.dis⟩, bk, N.nb, N.w0⟩
  · cases z : W0.H a with
    | none => exact absurd z h1
    | some o => rw [E.le.h a o z]; exact (fun z => nomatch z)
  · have q := E.at_ i s o h1 h2
    have nown : ∀ {a : Addr}, s.own = true → σ[i]? = some (some (.ref a)) → ¬ Mv B a := fun {a} so hs m => N.nb a m i s h1 so hs
    cases s with
    | un => trivial
    | fz d =>
      obtain ⟨v, g1, g2⟩ := q
      exact ⟨v, g1, Dat.mono e.f g2⟩
    | owL xs =>
      obtain ⟨a, vs, g1, g2, g3, g4, g5⟩ := q
      have m := nown (a := a) rfl (by rw [h2, g1])
      exact ⟨a, vs, g1, g2, e.own a (by rw [g4]; exact (fun z => nomatch z)) g3, e.h a _ m g4, g5.mono e.f⟩
    | owD xs =>
      obtain ⟨a, vs, g1, g2, g3, g4, g5⟩ := q
      have m := nown (a := a) rfl (by rw [h2, g1])
      exact ⟨a, vs, g1, g2, e.own a (by rw [g4]; exact (fun z => nomatch z)) g3, e.h a _ m g4, g5.mono e.f⟩
    | slf p C ks ds =>
      obtain ⟨a, dx, vs, g1, g2, g3, g4, g5, g6, g7⟩ := q
      have m := nown (a := a) rfl (by rw [h2, g1])
      exact ⟨a, dx, vs, g1, g2, e.own a (by rw [g4]; exact (fun z => nomatch z)) g3, e.h a _ m g4, g5, g6, g7.imp fun _ _ q => Dat.mono e.f q⟩
    | rd xs =>
      obtain ⟨a, vs, g1, g2, g3⟩ := q
      exact ⟨a, vs, g1, g2, g3.mono e.f⟩
    | lk xs =>
      obtain ⟨a, ob, vs, g1, g2, g3, g4⟩ := q
      have m : ¬ Mv B a := fun m => g2 (N.bk.nf m)
      exact ⟨a, ob, vs, g1, e.f.stays g2, e.h a _ m g3, g4.mono e.f⟩
theorem NEnv.le (N : NEnv Γ W0 B W ρ σ n) (le : W.le W') (ok : HLe W'.F W'.H) : NEnv Γ W0 B W' ρ σ n := N.mono (.of le) ok (N.bk.le le)
/-- a name is given a frozen value -/
theorem NEnv.set (N : NEnv Γ W0 B W ρ σ n) {α : Type} [Rep α] (i : Nat) {v : V} {x : α} (h : Is Γ W.F v x) : NEnv Γ W0 B W (ρ.set i (fz x)) (σ.set i (some v)) n := by
  refine ⟨N.E.set i h, N.bk, fun a m j s e1 e2 e3 => ?_, N.w0⟩
  by_cases z : i = j
  · subst z
    have hi : i < ρ.length := by
      have := (List.getElem?_eq_some_iff.mp e1).1
      rw [List.length_set] at this
      exact this
    rw [List.getElem?_set_self hi] at e1
    rw [← Option.some.inj e1] at e2
    cases e2
  · rw [List.getElem?_set_ne z] at e1 e3
    exact N.nb a m j s e1 e2 e3
theorem NEnv.weak {ρ' : List Slot} (N : NEnv Γ W0 B W ρ σ n) (h : Weak ρ ρ') : NEnv Γ W0 B W ρ' σ n := ⟨N.E.weak h, N.bk, fun a m j s e1 e2 e3 => by
  rcases h.get e1 with z | z
  · subst z
    cases e2
  · exact N.nb a m j s z e2 e3, N.w0⟩
end

/-! ### judgements -/
section
variable (X : Cx) (Γ : Cs) (W0 : Wd) (B : Bx)
structure NX (e : Expr) (ρ : List Slot) {α : Type} [Rep α] (m : Mi α) : Prop where
  run : ∀ n P, m n P → ∀ W σ, NEnv Γ W0 B W ρ σ n → ∀ Q : VK, (∀ x n' v W2, P x n' → WB B W W2 → HLe W2.F W2.H → Bok B W2 n' → Is Γ W2.F v x → Q v W2.H) → wpE X e σ W.H Q
structure NOX (e : Expr) (ρ : List Slot) {α : Type} [Rep α] (m : Mi (List α)) : Prop where
  run : ∀ n P, m n P → ∀ W σ, NEnv Γ W0 B W ρ σ n → ∀ Q : VK, (∀ xs n' p vs W2, P xs n' → WB B W W2 → HLe W2.F W2.H → Bok B W2 n' → W.H p = none → W2.F p = none → W2.H p = some (.lst vs) → IsAll Γ W2.F vs xs → Q (.ref p) W2.H) → wpE X e σ W.H Q
structure NTX (e : Expr) (ρ : List Slot) (m : Mi Bool) : Prop where
  run : ∀ n P, m n P → ∀ W σ, NEnv Γ W0 B W ρ σ n → ∀ Q : Bool → Hp → Prop, (∀ b n' W2, P b n' → WB B W W2 → HLe W2.F W2.H → Bok B W2 n' → Q b W2.H) → wpT X e σ W.H Q
structure NAX (es : List Expr) (ρ : List Slot) {α : Type} [Rep α] (m : Mi (List α)) : Prop where
  run : ∀ n P, m n P → ∀ W σ, NEnv Γ W0 B W ρ σ n → ∀ Q : List V → Hp → Prop, (∀ xs n' vs W2, P xs n' → WB B W W2 → HLe W2.F W2.H → Bok B W2 n' → IsAll Γ W2.F vs xs → Q vs W2.H) → wpA X es σ W.H Q
structure NSX (st : Stmt) (ρ : List Slot) {β : Type} (m : Mi β) (ρ' : β → List Slot) : Prop where
  run : ∀ n P, m n P → ∀ W σ, NEnv Γ W0 B W ρ σ n → ∀ D : Ends, (∀ b n' W2 σ2, P b n' → HLe W.F W2.F → NEnv Γ W0 B W2 (ρ' b) σ2 n' → D.nx σ2 W2.H) → wpS X st D σ W.H
structure NBX (sts : List Stmt) (ρ : List Slot) {β : Type} (m : Mi β) (ρ' : β → List Slot) : Prop where
  run : ∀ n P, m n P → ∀ W σ, NEnv Γ W0 B W ρ σ n → ∀ D : Ends, (∀ b n' W2 σ2, P b n' → HLe W.F W2.F → NEnv Γ W0 B W2 (ρ' b) σ2 n' → D.nx σ2 W2.H) → wpSs X sts D σ W.H
structure NRX {R : Type} (K : RK R) (sts : List Stmt) (ρ : List Slot) (m : Mi R) : Prop where
  run : ∀ n P, m n P → ∀ W σ, NEnv Γ W0 B W ρ σ n → ∀ D : Ends, (∀ r n' v W2, P r n' → W0.le W2 → HLe W.F W2.F → HLe W2.F W2.H → Bok B W2 n' → K v W2 r → D.rt v W2.H) → wpSs X sts D σ W.H
end
def NOut {R S : Type} (Γ : Cs) (W0 : Wd) (B : Bx) (K : RK R) (ρ' : S → List Slot) (D : Ends) (F : Hp) (n : Nat) : Out S R → Prop
  | .nx s => ∀ W2 σ2, HLe F W2.F → NEnv Γ W0 B W2 (ρ' s) σ2 n → D.nx σ2 W2.H ∧ D.ct σ2 W2.H
  | .rt r => ∀ v W2, W0.le W2 → HLe F W2.F → HLe W2.F W2.H → Bok B W2 n → K v W2 r → D.rt v W2.H
  | .bk s => ∀ W2 σ2, HLe F W2.F → NEnv Γ W0 B W2 (ρ' s) σ2 n → D.bk σ2 W2.H
section
variable (X : Cx) (Γ : Cs) (W0 : Wd) (B : Bx)
structure NGX {R S : Type} (K : RK R) (sts : List Stmt) (ρ : List Slot) (m : Mi (Out S R)) (ρ' : S → List Slot) : Prop where
  run : ∀ n P, m n P → ∀ W σ, NEnv Γ W0 B W ρ σ n → ∀ D : Ends, (∀ o n', P o n' → NOut Γ W0 B K ρ' D W.F n' o) → wpSs X sts D σ W.H
end
theorem NOut.mono {R S : Type} {Γ : Cs} {W0 : Wd} {B : Bx} {K : RK R} {ρ' : S → List Slot} {D : Ends} {F F' : Hp} {n : Nat} {o : Out S R} (h : NOut Γ W0 B K ρ' D F n o) (le : HLe F F') : NOut Γ W0 B K ρ' D F' n o := by
  cases o with
  | nx s => exact fun W2 σ2 l e => h W2 σ2 (le.trans l) e
  | rt r => exact fun v W2 l0 l ok b i => h v W2 l0 (le.trans l) ok b i
  | bk s => exact fun W2 σ2 l e => h W2 σ2 (le.trans l) e

section
variable {X : Cx} {Γ : Cs} {W0 : Wd} {B : Bx} {ρ : List Slot}
/-! ### what draws nothing -/
theorem EX.n {α : Type} [Rep α] {e : Expr} {m : Option α} (h : EX X Γ W0 e ρ m) : NX X Γ W0 B e ρ (SR.opt m) := ⟨fun n P ⟨x, hm, hp⟩ W σ N Q k => h.run x hm W σ N.E Q fun v W2 le ok i => k x n v W2 hp (.of le) ok (N.bk.le le) i⟩
theorem OX.n {α : Type} [Rep α] {e : Expr} {m : Option (List α)} (h : OX X Γ W0 e ρ m) : NOX X Γ W0 B e ρ (opt m) := ⟨fun n P ⟨x, hm, hp⟩ W σ N Q k => h.run x hm W σ N.E Q fun p vs W2 le ok h1 h2 h3 h4 => k x n p vs W2 hp (.of le) ok (N.bk.le le) h1 h2 h3 h4⟩
theorem TX.n {e : Expr} {m : Option Bool} (h : TX X Γ W0 e ρ m) : NTX X Γ W0 B e ρ (opt m) := ⟨fun n P ⟨x, hm, hp⟩ W σ N Q k => h.run x hm W σ N.E Q fun W2 le ok => k x n W2 hp (.of le) ok (N.bk.le le)⟩
theorem AX.n {α : Type} [Rep α] {es : List Expr} {m : Option (List α)} (h : AX X Γ W0 es ρ m) : NAX X Γ W0 B es ρ (opt m) := ⟨fun n P ⟨x, hm, hp⟩ W σ N Q k => h.run x hm W σ N.E Q fun vs W2 le ok i => k x n vs W2 hp (.of le) ok (N.bk.le le) i⟩
theorem NOX.x {α : Type} [Rep α] {e : Expr} {m : Mi (List α)} (h : NOX X Γ W0 B e ρ m) : NX X Γ W0 B e ρ m := ⟨fun n P hm W σ N Q k => h.run n P hm W σ N Q fun xs n' p vs W2 hp wb ok bk h1 h2 h3 h4 => by
  have np : ∀ a, Mv B a → a ≠ p := fun a m z => N.bk.there m (by rw [z]; exact h1)
  refine k xs n' (.ref p) ⟨upd W2.F p (.lst vs), W2.H⟩ hp ⟨wb.h, wb.f.trans (HLe.upd_new h2), fun a g1 g2 => ?_, wb.th⟩ (freeze_ok ok h3) ?_ ⟨p, vs, rfl, upd_same, h4.mono (HLe.upd_new h2)⟩
  · show upd W2.F p (.lst vs) a = none
    rw [upd_ne (fun z => g1 (by rw [z]; exact h1))]
    exact wb.own a g1 g2
  · obtain ⟨c, xs, ys, b1, b2, b3, b4, b5⟩ := bk
    exact ⟨c, xs, ys, b1, b2, b3, fun a m => by show upd W2.F p (.lst vs) a = none; rw [upd_ne (np a m)]; exact b4 a m, b5⟩⟩
/-- the objects that stood, without one's own -/
theorem snap {W : Wd} {σ : St} (E : EnvOk Γ W0 W ρ σ) : ∃ W1 : Wd, EnvOk Γ W1 W ρ σ ∧ W1.F = W.F ∧ (∀ a, W1.H a = none ∨ W1.H a = W.H a) ∧ (∀ a o, W0.H a = some o → W1.H a = some o) ∧ ∀ a, NotOwned ρ σ a → W1.H a = W.H a := by
  have dec : ∀ a, NotOwned ρ σ a ∨ ¬ NotOwned ρ σ a := fun a => Classical.em _
  let H1 : Hp := fun a => @ite _ (NotOwned ρ σ a) (Classical.propDecidable _) (W.H a) none
  have e1 : ∀ a, NotOwned ρ σ a → H1 a = W.H a := fun a h => by
    show @ite _ _ (Classical.propDecidable _) _ _ = _
    rw [if_pos h]
  have e2 : ∀ a, ¬ NotOwned ρ σ a → H1 a = none := fun a h => by
    show @ite _ _ (Classical.propDecidable _) _ _ = _
    rw [if_neg h]
  have e3 : ∀ a o, W0.H a = some o → H1 a = some o := fun a o h => by
    rw [e1 a (fun i s g1 g2 g3 => by rw [(E.ownH g1 g2 g3).2.2] at h; cases h)]
    exact E.le.h a o h
  have own0 : ∀ {i : Nat} {s : Slot} {a : Addr}, ρ[i]? = some s → s.own = true → σ[i]? = some (some (.ref a)) → H1 a = none := fun {i s a} g1 g2 g3 => e2 a fun z => z i s g1 g2 g3
  refine ⟨⟨W.F, H1⟩, ⟨E.ok, ⟨fun a o h => ?_, .refl, fun a _ h => h⟩, E.len, fun i s o h1 h2 => ?_, E.dis⟩, rfl, fun a => ?_, e3, e1⟩
  · rcases dec a with z | z
    · rw [← e1 a z]; exact h
    · have : H1 a = some o := h
      rw [e2 a z] at this
      cases this
  · have q := E.at_ i s o h1 h2
    cases s with
    | un => trivial
    | fz d => exact q
    | owL xs =>
      obtain ⟨a, vs, g1, g2, g3⟩ := q
      exact ⟨a, vs, g1, own0 (a := a) h1 rfl (by rw [h2, g1]), g3⟩
    | owD xs =>
      obtain ⟨a, vs, g1, g2, g3⟩ := q
      exact ⟨a, vs, g1, own0 (a := a) h1 rfl (by rw [h2, g1]), g3⟩
    | slf p C ks ds =>
      obtain ⟨a, dx, vs, g1, g2, g3⟩ := q
      exact ⟨a, dx, vs, g1, own0 (a := a) h1 rfl (by rw [h2, g1]), g3⟩
    | rd xs =>
      obtain ⟨a, vs, g1, g2, g3⟩ := q
      exact ⟨a, vs, g1, e3 a _ g2, g3⟩
    | lk xs => exact q
  · rcases dec a with z | z
    · exact .inr (e1 a z)
    · exact .inl (e2 a z)
def noRd : List Slot → Bool
  | [] => true
  | @Slot.rd _ _ _ :: _ => false
  | _ :: r => noRd r
theorem noRd_at : ∀ {ρ : List Slot}, noRd ρ = true → ∀ {i : Nat} {α : Type} [Rep α] {xs : List α}, ρ[i]? ≠ some (.rd xs)
  | [], _, i, _, _, _ => by simp
  | s :: r, h, i, α, _, xs => by
    cases i with
    | zero =>
      intro e
      have e' : s = .rd xs := Option.some.inj (by simpa using e)
      subst e'
      cases h
    | succ i =>
      have h' : noRd r = true := by cases s <;> first | exact h | cases h
      intro e
      exact noRd_at h' (by simpa using e)
/-- from the snapshot back -/
theorem NEnv.back {W W1 W2 : Wd} {σ σ2 : St} {n : Nat} {ρ' : List Slot} (N : NEnv Γ W0 B W ρ σ n) (s1 : W1.F = W.F) (s2 : ∀ a, W1.H a = none ∨ W1.H a = W.H a) (s3 : ∀ a o, W0.H a = some o → W1.H a = some o) (s4 : ∀ a, NotOwned ρ σ a → W1.H a = W.H a)
    (E2 : EnvOk Γ W1 W2 ρ' σ2) (nr : noRd ρ' = true) : NEnv Γ W0 B W2 ρ' σ2 n := by
  have nn : ∀ {a : Addr}, W1.H a = none → W0.H a = none := fun {a} h => by
    cases z : W0.H a with
    | none => rfl
    | some o => rw [s3 a o z] at h; cases h
  have bH : ∀ a, Mv B a → W1.H a = W.H a := fun a m => s4 a (N.nb a m)
  refine ⟨⟨E2.ok, ⟨fun a o h => E2.le.h a o (s3 a o h), N.E.le.f.trans (s1 ▸ E2.le.f), fun a h1 h2 => E2.le.own a ?_ (by rw [s1]; exact N.E.le.own a h1 h2)⟩, E2.len, fun i s o h1 h2 => ?_, E2.dis⟩, ?_, fun a m i s h1 h2 h3 => ?_, N.w0⟩
  · cases z : W0.H a with
    | none => exact absurd z h1
    | some o => rw [s3 a o z]; exact (fun z => nomatch z)
  · have q := E2.at_ i s o h1 h2
    cases s with
    | un => trivial
    | fz d => exact q
    | owL xs =>
      obtain ⟨a, vs, g1, g2, g3⟩ := q
      exact ⟨a, vs, g1, nn g2, g3⟩
    | owD xs =>
      obtain ⟨a, vs, g1, g2, g3⟩ := q
      exact ⟨a, vs, g1, nn g2, g3⟩
    | slf p C ks ds =>
      obtain ⟨a, dx, vs, g1, g2, g3⟩ := q
      exact ⟨a, dx, vs, g1, nn g2, g3⟩
    | rd xs => exact absurd h1 (noRd_at nr)
    | lk xs => exact q
  · have t := fun {a} (m : Mv B a) => N.bk.there m
    have f := fun {a} (m : Mv B a) => N.bk.nf m
    obtain ⟨c, xs, ys, h1, h2, h3, h4, h5⟩ := N.bk
    exact ⟨c, xs, ys, E2.le.h _ _ (by rw [bH _ (.inl rfl)]; exact h1), E2.le.h _ _ (by rw [bH _ (.inr (.inl rfl))]; exact h2), E2.le.h _ _ (by rw [bH _ (.inr (.inr rfl))]; exact h3), fun a m => E2.le.own a (by rw [bH a m]; exact t m) (by rw [s1]; exact f m), h5⟩
  · have z := (E2.ownH h1 h2 h3).2.2
    rw [bH a m] at z
    exact N.bk.there m z
theorem SX.n {st : Stmt} {β : Type} {m : Option β} {ρ' : β → List Slot} (h : ∀ W1, SX X Γ W1 st ρ m ρ') (nr : ∀ b, noRd (ρ' b) = true := by intro _; rfl) : NSX X Γ W0 B st ρ (opt m) ρ' := ⟨fun n P ⟨b, hm, hp⟩ W σ N D k => by
  obtain ⟨W1, E1, s1, s2, s3, s4⟩ := snap N.E
  exact (h W1).run b hm W σ E1 D fun W2 σ2 le E2 => k b n W2 σ2 hp le (N.back s1 s2 s3 s4 E2 (nr b))⟩
theorem BX.n {st : List Stmt} {β : Type} {m : Option β} {ρ' : β → List Slot} (h : ∀ W1, BX X Γ W1 st ρ m ρ') (nr : ∀ b, noRd (ρ' b) = true := by intro _; rfl) : NBX X Γ W0 B st ρ (opt m) ρ' := ⟨fun n P ⟨b, hm, hp⟩ W σ N D k => by
  obtain ⟨W1, E1, s1, s2, s3, s4⟩ := snap N.E
  exact (h W1).run b hm W σ E1 D fun W2 σ2 le E2 => k b n W2 σ2 hp le (N.back s1 s2 s3 s4 E2 (nr b))⟩

/-! ### expressions with draws -/
section
variable {α β γ : Type} [Rep α] [Rep β] [Rep γ] {a b : Expr} {pos : Pos} {ma : Mi α} {mb : Mi β}
theorem n_op {r : R2} {f : α → β → Option γ} {op : Operator} (ho : OpR X (binaryOp op) r) (hs : OpS Γ r f) (ha : NX X Γ W0 B a ρ ma) (hb : NX X Γ W0 B b ρ mb) : NX X Γ W0 B (.BinOp a op b pos) ρ (bnd ma fun x => bnd mb fun y => opt (f x y)) := ⟨fun n P hm W σ N Q k => by
  refine wp_of (pe_op ho pe_wp pe_wp) ?_
  refine ha.run n _ hm W σ N _ fun x n1 v W2 h1 wb ok bk i1 => ?_
  refine hb.run n1 _ h1 W2 σ (N.mono wb ok bk) _ fun y n2 u W3 ⟨z, h2, h3⟩ wb2 ok2 bk2 i2 => ?_
  exact hs W3 v u x y z ok2 (Rep.mono wb2.f i1) i2 h2 Q fun w W4 le3 ok3 i3 => k z n2 w W4 h3 ((wb.trans wb2).trans (.of le3)) ok3 (bk2.le le3) i3⟩
theorem nt_cmp {r : R2} {f : α → β → Option Bool} {op : CmpOp} (ho : OpR X (compareOp op) r) (hs : OpS Γ r f) (ha : NX X Γ W0 B a ρ ma) (hb : NX X Γ W0 B b ρ mb) (hk : behindInMarks op b = false := by first | exact nomark _ | rfl) : NTX X Γ W0 B (.Compare a [op] [b] pos) ρ (bnd ma fun x => bnd mb fun y => opt (f x y)) := ⟨fun n P hm W σ N Q k => by
  refine wt_of (pt_cmpR ho pe_wp pe_wp hk) ?_
  refine ha.run n _ hm W σ N _ fun x n1 v W2 h1 wb ok bk i1 => ?_
  refine hb.run n1 _ h1 W2 σ (N.mono wb ok bk) _ fun y n2 u W3 ⟨z, h2, h3⟩ wb2 ok2 bk2 i2 => ?_
  exact hs W3 v u x y z ok2 (Rep.mono wb2.f i1) i2 h2 _ fun w W4 le3 ok3 i3 => ⟨z, i3, k z n2 W4 h3 ((wb.trans wb2).trans (.of le3)) ok3 (bk2.le le3)⟩⟩
theorem n_pair {x1 : Nat} (ha : NX X Γ W0 B a ρ ma) (hb : NX X Γ W0 B b ρ mb)
    (hp : PA X [a, b] (tCons (wpE X a) (tCons (wpE X b) tNil)) := by exact pa_cons pe_wp (pa_cons pe_wp pa_nil)) : NX X Γ W0 B (.Tuple [a, b] x1 pos) ρ (bnd ma fun x => bnd mb fun y => ret (x, y)) := ⟨fun n P hm W σ N Q k => by
  refine wp_of (pe_tup hp) ?_
  refine ha.run n _ hm W σ N _ fun x n1 v W2 h1 wb ok bk i1 => ?_
  refine hb.run n1 _ h1 W2 σ (N.mono wb ok bk) _ fun y n2 u W3 h2 wb2 ok2 bk2 i2 => ?_
  refine ⟨by show 2 ≤ sizeLine; decide, fun p hp' => ?_⟩
  obtain ⟨l1, l2, l3⟩ := tup_new (vs := [v, u]) ok2 hp'
  exact k (x, y) n2 (.ref p) _ h2 ((wb.trans wb2).trans (.of l1)) l2 (bk2.le l1) ⟨p, v, u, rfl, upd_same, Rep.mono (wb2.f.trans l3) i1, Rep.mono l3 i2⟩⟩
theorem n_ix {ma : Mi (List α)} {mb : Mi Int} (ha : NX X Γ W0 B a ρ ma) (hb : NX X Γ W0 B b ρ mb) (hs : PlainIx b := by intro _ _; rfl) : NX X Γ W0 B (.Subscript a b pos) ρ (bnd ma fun x => bnd mb fun y => opt (ixM x y)) := ⟨fun n P hm W σ N Q k => by
  refine wp_of (pe_ix ix_list pe_wp pe_wp hs) ?_
  refine ha.run n _ hm W σ N _ fun x n1 v W2 h1 wb ok bk ⟨p, vs, e1, e2, e3⟩ => ?_
  subst e1
  refine hb.run n1 _ h1 W2 σ (N.mono wb ok bk) _ fun y n2 u W3 ⟨z, h2, h3⟩ wb2 ok2 bk2 i2 => ?_
  have e4 : u = .int y := i2
  subst e4
  obtain ⟨w, g1, g2⟩ := vget e3 (show atI x y = some z from h2)
  exact ⟨p, vs, y, w, rfl, rfl, SqL.of (ok2.lst (wb2.f.lst e2)), g1, k z n2 w W3 h3 (wb.trans wb2) ok2 bk2 (Rep.mono wb2.f g2)⟩⟩
theorem na_nil : NAX X Γ W0 B [] ρ (ret ([] : List α)) := ⟨fun n P hm W σ N Q k => wa_of pa_nil (k [] n [] W hm .refl N.E.ok N.bk .nil)⟩
theorem na_cons {e : Expr} {es : List Expr} {m : Mi α} {ms : Mi (List α)} (h : NX X Γ W0 B e ρ m) (hs : NAX X Γ W0 B es ρ ms) (he : starEach (e :: es) X.env = (false, eval e X.env) :: starEach es X.env := by rfl) : NAX X Γ W0 B (e :: es) ρ (bnd m fun x => bnd ms fun xs => ret (x :: xs)) := ⟨fun n P hm W σ N Q k => by
  refine wa_of (pa_cons pe_wp pa_wp he) ?_
  refine h.run n _ hm W σ N _ fun x n1 v W2 h1 wb ok bk i1 => ?_
  exact hs.run n1 _ h1 W2 σ (N.mono wb ok bk) _ fun xs n2 vs W3 h2 wb2 ok2 bk2 i2 => k (x :: xs) n2 (v :: vs) W3 h2 (wb.trans wb2) ok2 bk2 (.cons (Rep.mono wb2.f i1) i2)⟩
theorem no_lst {es : List Expr} {m : Mi (List α)} (h : NAX X Γ W0 B es ρ m) : NOX X Γ W0 B (.List es pos) ρ (bnd m fun xs => opt (capM xs)) := ⟨fun n P hm W σ N Q k => by
  refine wp_of (pe_lst pa_wp) ?_
  refine h.run n _ hm W σ N _ fun xs n1 vs W2 ⟨ys, h1, h2⟩ wb ok bk i1 => ?_
  unfold capM at h1
  split at h1
  · rename_i hc
    cases h1
    refine ⟨Nat.le_of_lt (cap_ok (by rw [i1.len]; exact hc)), fun p hp => ?_⟩
    exact k xs n1 p vs ⟨W2.F, upd W2.H p _⟩ h2 (wb.trans (.of (.new hp))) (ok_new ok hp) (bk.le (.new hp)) (wb.free hp) (ok.none_of hp) upd_same i1
  · cases h1⟩
theorem no_cat {ma mb : Mi (List α)} (ha : NX X Γ W0 B a ρ ma) (hb : NX X Γ W0 B b ρ mb) : NOX X Γ W0 B (.BinOp a .Add b pos) ρ (bnd ma fun x => bnd mb fun y => opt (catM x y)) := ⟨fun n P hm W σ N Q k => by
  refine wp_of (pe_op op_cat pe_wp pe_wp) ?_
  refine ha.run n _ hm W σ N _ fun x n1 v W2 h1 wb ok bk ⟨p, vs, e1, e2, e3⟩ => ?_
  subst e1
  refine hb.run n1 _ h1 W2 σ (N.mono wb ok bk) _ fun y n2 u W3 ⟨z, h2, h3⟩ wb2 ok2 bk2 ⟨p', vs', e1', e2', e3'⟩ => ?_
  subst e1'
  unfold catM at h2
  split at h2
  · rename_i hc
    cases h2
    have l1 := e3.len
    have l2 := e3'.len
    have hz : vs.length + vs'.length < sizeLine := by
      have := cap_ok hc
      rw [List.length_append] at this
      omega
    refine ⟨p, p', vs, vs', rfl, rfl, ok2.lst (wb2.f.lst e2), ok2.lst e2', Nat.le_of_lt hz, fun q hq => ?_⟩
    exact k (x ++ y) n2 q _ ⟨W3.F, upd W3.H q _⟩ h3 ((wb.trans wb2).trans (.of (.new hq))) (ok_new ok2 hq) (bk2.le (.new hq)) ((wb.trans wb2).free hq) (ok2.none_of hq) upd_same ((e3.mono wb2.f).append e3')
  · cases h2⟩
end
end
end SR
end
section
set_option Elab.async false
set_option linter.all false
set_option maxRecDepth 100000
set_option maxHeartbeats 4000000
namespace SR
open PySem PySem.Spec PyProof.Rows L2
/-! ### calls with draws -/
section
variable {X : Cx} {Γ : Cs} {W0 : Wd} {B : Bx} {ρ : List Slot}
theorem n_call1 {α : Type} [Rep α] {R : Type} [Rep R] {e1 : Expr} {m1 : Mi α} {f : α → Option R} {nm : Str} {p pos : Pos} {k j : Nat} (c : CalF X.prog X.w X.K X.mg X.base k nm (sp1 Γ (fun _ => kF Γ) f)) (hr : Room j X.A) (h1 : NX X Γ W0 B e1 ρ m1) (hk : k ≤ j := by decide) (hg : Gl X nm := by rfl)
    (hp : Room k X.A → Gl X nm → ∀ {fa : Addr} {fd : FuncData} {ps : List Str} {sp : Sp}, FnOk X.prog X.w X.K X.mg X.base CX0 k fa fd ps sp → X.mg nm = some (.ref fa) → PySem.W.keepIn X.K (.ref fa) = true → Binds X.K fd ps [] → PE X (.Call (.Name nm p) [e1] [] pos) (tCall sp [] E0 (tCons (wpE X e1) tNil)) := by intro r g _ _ _ _ F a b c; exact pe_call F r g a b c .nil pass0 (pa_cons pe_wp pa_nil)) :
    NX X Γ W0 B (.Call (.Name nm p) [e1] [] pos) ρ (bnd m1 fun x1 => opt (f x1)) := ⟨fun n P hm W σ N Q k => by
  obtain ⟨fa, fd, ps, F, c1, c2, c3⟩ := c.ex
  refine wp_of (hp (hr.mono hk) hg F c1 c2 c3) ?_
  refine h1.run n _ hm W σ N _ fun x1 n1 v1 W2 ⟨z, gz, g1⟩ wb1 ok1 bk1 i1 => ?_
  exact ⟨W2, v1, x1, z, rfl, rfl, ok1, i1, gz, fun w W8 le8 ok8 i8 => k z n1 w W8 g1 (wb1.trans (.of le8)) ok8 (bk1.le le8) i8⟩⟩
theorem n_make1 {α : Type} [Rep α] {R : Type} [Rec R] {e1 : Expr} {m1 : Mi α} {f : α → Option R} {nm : Str} {p pos : Pos} {k j : Nat} (c : MakF X.prog X.w X.K X.mg X.base k nm (Rec.c (R := R) Γ) (si1 Γ (Rec.c (R := R) Γ) f)) (hr : Room j X.A) (h1 : NX X Γ W0 B e1 ρ m1) (hk : k + 1 ≤ j := by decide) (hg : Gl X nm := by rfl)
    (hp : Room (k + 1) X.A → Gl X nm → ∀ {fa : Addr} {fd : FuncData} {ps : List Str} {sp : Sp}, Mk X.K (Rec.c (R := R) Γ) fa → FnOk X.prog X.w X.K X.mg X.base CX0 k fa fd ps sp → X.mg nm = some (.ref (Rec.c (R := R) Γ)) → Binds X.K fd ps [] → PE X (.Call (.Name nm p) [e1] [] pos) (tMake (Rec.c (R := R) Γ) sp [] E0 (tCons (wpE X e1) tNil)) := by intro r g _ _ _ _ m F a c; exact pe_make m F r g a c .nil pass0 (pa_cons pe_wp pa_nil)) :
    NX X Γ W0 B (.Call (.Name nm p) [e1] [] pos) ρ (bnd m1 fun x1 => opt (f x1)) := ⟨fun n P hm W σ N Q k => by
  obtain ⟨fa, fd, ps, m, F, c1, c2⟩ := c.ex
  refine wp_of (hp (hr.mono hk) hg m F c1 c2) ?_
  refine h1.run n _ hm W σ N _ fun x1 n1 v1 W2 ⟨z, gz, g1⟩ wb1 ok1 bk1 i1 => ?_
  intro pp dx hpp hdx hne
  obtain ⟨w1, w2, w3⟩ := made_le (C := Rec.c (R := R) Γ) ok1 hpp hdx hne
  refine ⟨⟨W2.F, upd (upd W2.H dx (.own pp)) pp (.ins _ dx [])⟩, pp, dx, v1, x1, z, rfl, rfl, w1, ok1.none_of hpp, upd_same, i1, gz, fun W8 le8 ok8 i8 => ⟨rfl, ?_⟩⟩
  have le9 : W2.le W8 := by
    rw [show W2 = Wd.mk W2.F (rem pp dx (upd (upd W2.H dx (.own pp)) pp (.ins (Rec.c (R := R) Γ) dx []))) by rw [w2]]
    exact le8
  exact k z n1 _ W8 g1 (wb1.trans (.of le9)) ok8 (bk1.le le9) i8⟩
theorem n_meth1 {α : Type} [Rec α]  {R : Type} [Rep R] {e1 : Expr} {m1 : Mi α} {f : α → Option R} {nm : Str} {apos pos : Pos} {k j : Nat} (c : MetF X.prog X.w X.K X.mg X.base k (Rec.c (R := α) Γ) nm (sp1 Γ (fun _ => kF Γ) f)) (hr : Room j X.A) (h1 : NX X Γ W0 B e1 ρ m1) (hnk : ixOf nm (Rec.ks (R := α)) = none := by decide +kernel) (hk : k ≤ j := by decide)
    (hp : Room k X.A → ∀ {fa : Addr} {fd : FuncData} {ps : List Str} {sp : Sp}, Cls X.K (Rec.c (R := α) Γ) → Meth X.K (Rec.c (R := α) Γ) nm fa → FnOk X.prog X.w X.K X.mg X.base CX0 k fa fd ps sp → Binds X.K fd ps [] → PE X (.Call (.Attribute e1 nm apos) [] [] pos) (tMeth (Rec.c (R := α) Γ) nm sp [] E0 (wpE X e1) (tNil)) := by intro r _ _ _ _ a b F d; exact pe_meth0 pe_wp a b F r d .nil pass0) :
    NX X Γ W0 B (.Call (.Attribute e1 nm apos) [] [] pos) ρ (bnd m1 fun x1 => opt (f x1)) := ⟨fun n P hm W σ N Q k => by
  obtain ⟨fa, fd, ps, c0, c1, F, c2, _⟩ := c.ex
  refine wp_of (hp (hr.mono hk) c0 c1 F c2) ?_
  refine h1.run n _ hm W σ N _ fun x1 n1 v1 W2 ⟨z, gz, g1⟩ wb1 ok1 bk1 i1 => ?_
  obtain ⟨pa, dx, us, q1, q2, q3, q4⟩ := id i1
  refine ⟨pa, dx, us, q1, ok1.ins q2, lookup_none q3 hnk, ?_⟩
  exact ⟨W2, v1, x1, z, rfl, rfl, ok1, i1, gz, fun w W8 le8 ok8 i8 => k z n1 w W8 g1 (wb1.trans (.of le8)) ok8 (bk1.le le8) i8⟩⟩
theorem no_meth1 {α : Type} [Rec α]  {R : Type} [Rep R] {e1 : Expr} {m1 : Mi α} {f : α → Option (List R)} {nm : Str} {apos pos : Pos} {k j : Nat} (c : MetF X.prog X.w X.K X.mg X.base k (Rec.c (R := α) Γ) nm (sp1 Γ (fun W => kO Γ W) f)) (hr : Room j X.A) (h1 : NX X Γ W0 B e1 ρ m1) (hnk : ixOf nm (Rec.ks (R := α)) = none := by decide +kernel) (hk : k ≤ j := by decide)
    (hp : Room k X.A → ∀ {fa : Addr} {fd : FuncData} {ps : List Str} {sp : Sp}, Cls X.K (Rec.c (R := α) Γ) → Meth X.K (Rec.c (R := α) Γ) nm fa → FnOk X.prog X.w X.K X.mg X.base CX0 k fa fd ps sp → Binds X.K fd ps [] → PE X (.Call (.Attribute e1 nm apos) [] [] pos) (tMeth (Rec.c (R := α) Γ) nm sp [] E0 (wpE X e1) (tNil)) := by intro r _ _ _ _ a b F d; exact pe_meth0 pe_wp a b F r d .nil pass0) :
    NOX X Γ W0 B (.Call (.Attribute e1 nm apos) [] [] pos) ρ (bnd m1 fun x1 => opt (f x1)) := ⟨fun n P hm W σ N Q k => by
  obtain ⟨fa, fd, ps, c0, c1, F, c2, _⟩ := c.ex
  refine wp_of (hp (hr.mono hk) c0 c1 F c2) ?_
  refine h1.run n _ hm W σ N _ fun x1 n1 v1 W2 ⟨z, gz, g1⟩ wb1 ok1 bk1 i1 => ?_
  obtain ⟨pa, dx, us, q1, q2, q3, q4⟩ := id i1
  refine ⟨pa, dx, us, q1, ok1.ins q2, lookup_none q3 hnk, ?_⟩
  exact ⟨W2, v1, x1, z, rfl, rfl, ok1, i1, gz, fun w W8 le8 ok8 ⟨p, ws, e8, h8, h9, h10, h11⟩ => by
    subst e8
    exact k z n1 p ws W8 g1 (wb1.trans (.of le8)) ok8 (bk1.le le8) (wb1.free h8) h9 h10 h11⟩⟩
theorem n_call2 {α β : Type} [Rep α] [Rep β] {R : Type} [Rep R] {e1 e2 : Expr} {m1 : Mi α} {m2 : Mi β} {f : α → β → Option R} {nm : Str} {p pos : Pos} {k j : Nat} (c : CalF X.prog X.w X.K X.mg X.base k nm (sp2 Γ (fun _ => kF Γ) f)) (hr : Room j X.A) (h1 : NX X Γ W0 B e1 ρ m1) (h2 : NX X Γ W0 B e2 ρ m2) (hk : k ≤ j := by decide) (hg : Gl X nm := by rfl)
    (hp : Room k X.A → Gl X nm → ∀ {fa : Addr} {fd : FuncData} {ps : List Str} {sp : Sp}, FnOk X.prog X.w X.K X.mg X.base CX0 k fa fd ps sp → X.mg nm = some (.ref fa) → PySem.W.keepIn X.K (.ref fa) = true → Binds X.K fd ps [] → PE X (.Call (.Name nm p) [e1, e2] [] pos) (tCall sp [] E0 (tCons (wpE X e1) (tCons (wpE X e2) tNil))) := by intro r g _ _ _ _ F a b c; exact pe_call F r g a b c .nil pass0 (pa_cons pe_wp (pa_cons pe_wp pa_nil))) :
    NX X Γ W0 B (.Call (.Name nm p) [e1, e2] [] pos) ρ (bnd m1 fun x1 => bnd m2 fun x2 => opt (f x1 x2)) := ⟨fun n P hm W σ N Q k => by
  obtain ⟨fa, fd, ps, F, c1, c2, c3⟩ := c.ex
  refine wp_of (hp (hr.mono hk) hg F c1 c2 c3) ?_
  refine h1.run n _ hm W σ N _ fun x1 n1 v1 W2 g1 wb1 ok1 bk1 i1 => ?_
  refine h2.run n1 _ g1 W2 σ (N.mono wb1 ok1 bk1) _ fun x2 n2 v2 W3 ⟨z, gz, g2⟩ wb2 ok2 bk2 i2 => ?_
  exact ⟨W3, v1, v2, x1, x2, z, rfl, rfl, ok2, (Rep.mono wb2.f i1), i2, gz, fun w W8 le8 ok8 i8 => k z n2 w W8 g2 ((wb1.trans wb2).trans (.of le8)) ok8 (bk2.le le8) i8⟩⟩
theorem n_make2 {α β : Type} [Rep α] [Rep β] {R : Type} [Rec R] {e1 e2 : Expr} {m1 : Mi α} {m2 : Mi β} {f : α → β → Option R} {nm : Str} {p pos : Pos} {k j : Nat} (c : MakF X.prog X.w X.K X.mg X.base k nm (Rec.c (R := R) Γ) (si2 Γ (Rec.c (R := R) Γ) f)) (hr : Room j X.A) (h1 : NX X Γ W0 B e1 ρ m1) (h2 : NX X Γ W0 B e2 ρ m2) (hk : k + 1 ≤ j := by decide) (hg : Gl X nm := by rfl)
    (hp : Room (k + 1) X.A → Gl X nm → ∀ {fa : Addr} {fd : FuncData} {ps : List Str} {sp : Sp}, Mk X.K (Rec.c (R := R) Γ) fa → FnOk X.prog X.w X.K X.mg X.base CX0 k fa fd ps sp → X.mg nm = some (.ref (Rec.c (R := R) Γ)) → Binds X.K fd ps [] → PE X (.Call (.Name nm p) [e1, e2] [] pos) (tMake (Rec.c (R := R) Γ) sp [] E0 (tCons (wpE X e1) (tCons (wpE X e2) tNil))) := by intro r g _ _ _ _ m F a c; exact pe_make m F r g a c .nil pass0 (pa_cons pe_wp (pa_cons pe_wp pa_nil))) :
    NX X Γ W0 B (.Call (.Name nm p) [e1, e2] [] pos) ρ (bnd m1 fun x1 => bnd m2 fun x2 => opt (f x1 x2)) := ⟨fun n P hm W σ N Q k => by
  obtain ⟨fa, fd, ps, m, F, c1, c2⟩ := c.ex
  refine wp_of (hp (hr.mono hk) hg m F c1 c2) ?_
  refine h1.run n _ hm W σ N _ fun x1 n1 v1 W2 g1 wb1 ok1 bk1 i1 => ?_
  refine h2.run n1 _ g1 W2 σ (N.mono wb1 ok1 bk1) _ fun x2 n2 v2 W3 ⟨z, gz, g2⟩ wb2 ok2 bk2 i2 => ?_
  intro pp dx hpp hdx hne
  obtain ⟨w1, w2, w3⟩ := made_le (C := Rec.c (R := R) Γ) ok2 hpp hdx hne
  refine ⟨⟨W3.F, upd (upd W3.H dx (.own pp)) pp (.ins _ dx [])⟩, pp, dx, v1, v2, x1, x2, z, rfl, rfl, w1, ok2.none_of hpp, upd_same, (Rep.mono wb2.f i1), i2, gz, fun W8 le8 ok8 i8 => ⟨rfl, ?_⟩⟩
  have le9 : W3.le W8 := by
    rw [show W3 = Wd.mk W3.F (rem pp dx (upd (upd W3.H dx (.own pp)) pp (.ins (Rec.c (R := R) Γ) dx []))) by rw [w2]]
    exact le8
  exact k z n2 _ W8 g2 ((wb1.trans wb2).trans (.of le9)) ok8 (bk2.le le9) i8⟩
theorem n_meth2 {α β : Type} [Rec α] [Rep β] {R : Type} [Rep R] {e1 e2 : Expr} {m1 : Mi α} {m2 : Mi β} {f : α → β → Option R} {nm : Str} {apos pos : Pos} {k j : Nat} (c : MetF X.prog X.w X.K X.mg X.base k (Rec.c (R := α) Γ) nm (sp2 Γ (fun _ => kF Γ) f)) (hr : Room j X.A) (h1 : NX X Γ W0 B e1 ρ m1) (h2 : NX X Γ W0 B e2 ρ m2) (hnk : ixOf nm (Rec.ks (R := α)) = none := by decide +kernel) (hk : k ≤ j := by decide)
    (hp : Room k X.A → ∀ {fa : Addr} {fd : FuncData} {ps : List Str} {sp : Sp}, Cls X.K (Rec.c (R := α) Γ) → Meth X.K (Rec.c (R := α) Γ) nm fa → FnOk X.prog X.w X.K X.mg X.base CX0 k fa fd ps sp → Binds X.K fd ps [] → PE X (.Call (.Attribute e1 nm apos) [e2] [] pos) (tMeth (Rec.c (R := α) Γ) nm sp [] E0 (wpE X e1) (tCons (wpE X e2) tNil)) := by intro r _ _ _ _ a b F d; exact pe_meth pe_wp a b F r d .nil pass0 (pa_cons pe_wp pa_nil)) :
    NX X Γ W0 B (.Call (.Attribute e1 nm apos) [e2] [] pos) ρ (bnd m1 fun x1 => bnd m2 fun x2 => opt (f x1 x2)) := ⟨fun n P hm W σ N Q k => by
  obtain ⟨fa, fd, ps, c0, c1, F, c2, _⟩ := c.ex
  refine wp_of (hp (hr.mono hk) c0 c1 F c2) ?_
  refine h1.run n _ hm W σ N _ fun x1 n1 v1 W2 g1 wb1 ok1 bk1 i1 => ?_
  obtain ⟨pa, dx, us, q1, q2, q3, q4⟩ := id i1
  refine ⟨pa, dx, us, q1, ok1.ins q2, lookup_none q3 hnk, ?_⟩
  refine h2.run n1 _ g1 W2 σ (N.mono wb1 ok1 bk1) _ fun x2 n2 v2 W3 ⟨z, gz, g2⟩ wb2 ok2 bk2 i2 => ?_
  exact ⟨W3, v1, v2, x1, x2, z, rfl, rfl, ok2, (Rep.mono wb2.f i1), i2, gz, fun w W8 le8 ok8 i8 => k z n2 w W8 g2 ((wb1.trans wb2).trans (.of le8)) ok8 (bk2.le le8) i8⟩⟩
theorem no_meth2 {α β : Type} [Rec α] [Rep β] {R : Type} [Rep R] {e1 e2 : Expr} {m1 : Mi α} {m2 : Mi β} {f : α → β → Option (List R)} {nm : Str} {apos pos : Pos} {k j : Nat} (c : MetF X.prog X.w X.K X.mg X.base k (Rec.c (R := α) Γ) nm (sp2 Γ (fun W => kO Γ W) f)) (hr : Room j X.A) (h1 : NX X Γ W0 B e1 ρ m1) (h2 : NX X Γ W0 B e2 ρ m2) (hnk : ixOf nm (Rec.ks (R := α)) = none := by decide +kernel) (hk : k ≤ j := by decide)
    (hp : Room k X.A → ∀ {fa : Addr} {fd : FuncData} {ps : List Str} {sp : Sp}, Cls X.K (Rec.c (R := α) Γ) → Meth X.K (Rec.c (R := α) Γ) nm fa → FnOk X.prog X.w X.K X.mg X.base CX0 k fa fd ps sp → Binds X.K fd ps [] → PE X (.Call (.Attribute e1 nm apos) [e2] [] pos) (tMeth (Rec.c (R := α) Γ) nm sp [] E0 (wpE X e1) (tCons (wpE X e2) tNil)) := by intro r _ _ _ _ a b F d; exact pe_meth pe_wp a b F r d .nil pass0 (pa_cons pe_wp pa_nil)) :
    NOX X Γ W0 B (.Call (.Attribute e1 nm apos) [e2] [] pos) ρ (bnd m1 fun x1 => bnd m2 fun x2 => opt (f x1 x2)) := ⟨fun n P hm W σ N Q k => by
  obtain ⟨fa, fd, ps, c0, c1, F, c2, _⟩ := c.ex
  refine wp_of (hp (hr.mono hk) c0 c1 F c2) ?_
  refine h1.run n _ hm W σ N _ fun x1 n1 v1 W2 g1 wb1 ok1 bk1 i1 => ?_
  obtain ⟨pa, dx, us, q1, q2, q3, q4⟩ := id i1
  refine ⟨pa, dx, us, q1, ok1.ins q2, lookup_none q3 hnk, ?_⟩
  refine h2.run n1 _ g1 W2 σ (N.mono wb1 ok1 bk1) _ fun x2 n2 v2 W3 ⟨z, gz, g2⟩ wb2 ok2 bk2 i2 => ?_
  exact ⟨W3, v1, v2, x1, x2, z, rfl, rfl, ok2, (Rep.mono wb2.f i1), i2, gz, fun w W8 le8 ok8 ⟨p, ws, e8, h8, h9, h10, h11⟩ => by
    subst e8
    exact k z n2 p ws W8 g2 ((wb1.trans wb2).trans (.of le8)) ok8 (bk2.le le8) ((wb1.trans wb2).free h8) h9 h10 h11⟩⟩
theorem n_call3 {α β γ : Type} [Rep α] [Rep β] [Rep γ] {R : Type} [Rep R] {e1 e2 e3 : Expr} {m1 : Mi α} {m2 : Mi β} {m3 : Mi γ} {f : α → β → γ → Option R} {nm : Str} {p pos : Pos} {k j : Nat} (c : CalF X.prog X.w X.K X.mg X.base k nm (sp3 Γ (fun _ => kF Γ) f)) (hr : Room j X.A) (h1 : NX X Γ W0 B e1 ρ m1) (h2 : NX X Γ W0 B e2 ρ m2) (h3 : NX X Γ W0 B e3 ρ m3) (hk : k ≤ j := by decide) (hg : Gl X nm := by rfl)
    (hp : Room k X.A → Gl X nm → ∀ {fa : Addr} {fd : FuncData} {ps : List Str} {sp : Sp}, FnOk X.prog X.w X.K X.mg X.base CX0 k fa fd ps sp → X.mg nm = some (.ref fa) → PySem.W.keepIn X.K (.ref fa) = true → Binds X.K fd ps [] → PE X (.Call (.Name nm p) [e1, e2, e3] [] pos) (tCall sp [] E0 (tCons (wpE X e1) (tCons (wpE X e2) (tCons (wpE X e3) tNil)))) := by intro r g _ _ _ _ F a b c; exact pe_call F r g a b c .nil pass0 (pa_cons pe_wp (pa_cons pe_wp (pa_cons pe_wp pa_nil)))) :
    NX X Γ W0 B (.Call (.Name nm p) [e1, e2, e3] [] pos) ρ (bnd m1 fun x1 => bnd m2 fun x2 => bnd m3 fun x3 => opt (f x1 x2 x3)) := ⟨fun n P hm W σ N Q k => by
  obtain ⟨fa, fd, ps, F, c1, c2, c3⟩ := c.ex
  refine wp_of (hp (hr.mono hk) hg F c1 c2 c3) ?_
  refine h1.run n _ hm W σ N _ fun x1 n1 v1 W2 g1 wb1 ok1 bk1 i1 => ?_
  refine h2.run n1 _ g1 W2 σ (N.mono wb1 ok1 bk1) _ fun x2 n2 v2 W3 g2 wb2 ok2 bk2 i2 => ?_
  refine h3.run n2 _ g2 W3 σ (N.mono (wb1.trans wb2) ok2 bk2) _ fun x3 n3 v3 W4 ⟨z, gz, g3⟩ wb3 ok3 bk3 i3 => ?_
  exact ⟨W4, v1, v2, v3, x1, x2, x3, z, rfl, rfl, ok3, (Rep.mono (wb2.trans wb3).f i1), (Rep.mono wb3.f i2), i3, gz, fun w W8 le8 ok8 i8 => k z n3 w W8 g3 (((wb1.trans wb2).trans wb3).trans (.of le8)) ok8 (bk3.le le8) i8⟩⟩
theorem n_make3 {α β γ : Type} [Rep α] [Rep β] [Rep γ] {R : Type} [Rec R] {e1 e2 e3 : Expr} {m1 : Mi α} {m2 : Mi β} {m3 : Mi γ} {f : α → β → γ → Option R} {nm : Str} {p pos : Pos} {k j : Nat} (c : MakF X.prog X.w X.K X.mg X.base k nm (Rec.c (R := R) Γ) (si3 Γ (Rec.c (R := R) Γ) f)) (hr : Room j X.A) (h1 : NX X Γ W0 B e1 ρ m1) (h2 : NX X Γ W0 B e2 ρ m2) (h3 : NX X Γ W0 B e3 ρ m3) (hk : k + 1 ≤ j := by decide) (hg : Gl X nm := by rfl)
    (hp : Room (k + 1) X.A → Gl X nm → ∀ {fa : Addr} {fd : FuncData} {ps : List Str} {sp : Sp}, Mk X.K (Rec.c (R := R) Γ) fa → FnOk X.prog X.w X.K X.mg X.base CX0 k fa fd ps sp → X.mg nm = some (.ref (Rec.c (R := R) Γ)) → Binds X.K fd ps [] → PE X (.Call (.Name nm p) [e1, e2, e3] [] pos) (tMake (Rec.c (R := R) Γ) sp [] E0 (tCons (wpE X e1) (tCons (wpE X e2) (tCons (wpE X e3) tNil)))) := by intro r g _ _ _ _ m F a c; exact pe_make m F r g a c .nil pass0 (pa_cons pe_wp (pa_cons pe_wp (pa_cons pe_wp pa_nil)))) :
    NX X Γ W0 B (.Call (.Name nm p) [e1, e2, e3] [] pos) ρ (bnd m1 fun x1 => bnd m2 fun x2 => bnd m3 fun x3 => opt (f x1 x2 x3)) := ⟨fun n P hm W σ N Q k => by
  obtain ⟨fa, fd, ps, m, F, c1, c2⟩ := c.ex
  refine wp_of (hp (hr.mono hk) hg m F c1 c2) ?_
  refine h1.run n _ hm W σ N _ fun x1 n1 v1 W2 g1 wb1 ok1 bk1 i1 => ?_
  refine h2.run n1 _ g1 W2 σ (N.mono wb1 ok1 bk1) _ fun x2 n2 v2 W3 g2 wb2 ok2 bk2 i2 => ?_
  refine h3.run n2 _ g2 W3 σ (N.mono (wb1.trans wb2) ok2 bk2) _ fun x3 n3 v3 W4 ⟨z, gz, g3⟩ wb3 ok3 bk3 i3 => ?_
  intro pp dx hpp hdx hne
  obtain ⟨w1, w2, w3⟩ := made_le (C := Rec.c (R := R) Γ) ok3 hpp hdx hne
  refine ⟨⟨W4.F, upd (upd W4.H dx (.own pp)) pp (.ins _ dx [])⟩, pp, dx, v1, v2, v3, x1, x2, x3, z, rfl, rfl, w1, ok3.none_of hpp, upd_same, (Rep.mono (wb2.trans wb3).f i1), (Rep.mono wb3.f i2), i3, gz, fun W8 le8 ok8 i8 => ⟨rfl, ?_⟩⟩
  have le9 : W4.le W8 := by
    rw [show W4 = Wd.mk W4.F (rem pp dx (upd (upd W4.H dx (.own pp)) pp (.ins (Rec.c (R := R) Γ) dx []))) by rw [w2]]
    exact le8
  exact k z n3 _ W8 g3 (((wb1.trans wb2).trans wb3).trans (.of le9)) ok8 (bk3.le le9) i8⟩
theorem n_meth3 {α β γ : Type} [Rec α] [Rep β] [Rep γ] {R : Type} [Rep R] {e1 e2 e3 : Expr} {m1 : Mi α} {m2 : Mi β} {m3 : Mi γ} {f : α → β → γ → Option R} {nm : Str} {apos pos : Pos} {k j : Nat} (c : MetF X.prog X.w X.K X.mg X.base k (Rec.c (R := α) Γ) nm (sp3 Γ (fun _ => kF Γ) f)) (hr : Room j X.A) (h1 : NX X Γ W0 B e1 ρ m1) (h2 : NX X Γ W0 B e2 ρ m2) (h3 : NX X Γ W0 B e3 ρ m3) (hnk : ixOf nm (Rec.ks (R := α)) = none := by decide +kernel) (hk : k ≤ j := by decide)
    (hp : Room k X.A → ∀ {fa : Addr} {fd : FuncData} {ps : List Str} {sp : Sp}, Cls X.K (Rec.c (R := α) Γ) → Meth X.K (Rec.c (R := α) Γ) nm fa → FnOk X.prog X.w X.K X.mg X.base CX0 k fa fd ps sp → Binds X.K fd ps [] → PE X (.Call (.Attribute e1 nm apos) [e2, e3] [] pos) (tMeth (Rec.c (R := α) Γ) nm sp [] E0 (wpE X e1) (tCons (wpE X e2) (tCons (wpE X e3) tNil))) := by intro r _ _ _ _ a b F d; exact pe_meth pe_wp a b F r d .nil pass0 (pa_cons pe_wp (pa_cons pe_wp pa_nil))) :
    NX X Γ W0 B (.Call (.Attribute e1 nm apos) [e2, e3] [] pos) ρ (bnd m1 fun x1 => bnd m2 fun x2 => bnd m3 fun x3 => opt (f x1 x2 x3)) := ⟨fun n P hm W σ N Q k => by
  obtain ⟨fa, fd, ps, c0, c1, F, c2, _⟩ := c.ex
  refine wp_of (hp (hr.mono hk) c0 c1 F c2) ?_
  refine h1.run n _ hm W σ N _ fun x1 n1 v1 W2 g1 wb1 ok1 bk1 i1 => ?_
  obtain ⟨pa, dx, us, q1, q2, q3, q4⟩ := id i1
  refine ⟨pa, dx, us, q1, ok1.ins q2, lookup_none q3 hnk, ?_⟩
  refine h2.run n1 _ g1 W2 σ (N.mono wb1 ok1 bk1) _ fun x2 n2 v2 W3 g2 wb2 ok2 bk2 i2 => ?_
  refine h3.run n2 _ g2 W3 σ (N.mono (wb1.trans wb2) ok2 bk2) _ fun x3 n3 v3 W4 ⟨z, gz, g3⟩ wb3 ok3 bk3 i3 => ?_
  exact ⟨W4, v1, v2, v3, x1, x2, x3, z, rfl, rfl, ok3, (Rep.mono (wb2.trans wb3).f i1), (Rep.mono wb3.f i2), i3, gz, fun w W8 le8 ok8 i8 => k z n3 w W8 g3 (((wb1.trans wb2).trans wb3).trans (.of le8)) ok8 (bk3.le le8) i8⟩⟩
theorem no_meth3 {α β γ : Type} [Rec α] [Rep β] [Rep γ] {R : Type} [Rep R] {e1 e2 e3 : Expr} {m1 : Mi α} {m2 : Mi β} {m3 : Mi γ} {f : α → β → γ → Option (List R)} {nm : Str} {apos pos : Pos} {k j : Nat} (c : MetF X.prog X.w X.K X.mg X.base k (Rec.c (R := α) Γ) nm (sp3 Γ (fun W => kO Γ W) f)) (hr : Room j X.A) (h1 : NX X Γ W0 B e1 ρ m1) (h2 : NX X Γ W0 B e2 ρ m2) (h3 : NX X Γ W0 B e3 ρ m3) (hnk : ixOf nm (Rec.ks (R := α)) = none := by decide +kernel) (hk : k ≤ j := by decide)
    (hp : Room k X.A → ∀ {fa : Addr} {fd : FuncData} {ps : List Str} {sp : Sp}, Cls X.K (Rec.c (R := α) Γ) → Meth X.K (Rec.c (R := α) Γ) nm fa → FnOk X.prog X.w X.K X.mg X.base CX0 k fa fd ps sp → Binds X.K fd ps [] → PE X (.Call (.Attribute e1 nm apos) [e2, e3] [] pos) (tMeth (Rec.c (R := α) Γ) nm sp [] E0 (wpE X e1) (tCons (wpE X e2) (tCons (wpE X e3) tNil))) := by intro r _ _ _ _ a b F d; exact pe_meth pe_wp a b F r d .nil pass0 (pa_cons pe_wp (pa_cons pe_wp pa_nil))) :
    NOX X Γ W0 B (.Call (.Attribute e1 nm apos) [e2, e3] [] pos) ρ (bnd m1 fun x1 => bnd m2 fun x2 => bnd m3 fun x3 => opt (f x1 x2 x3)) := ⟨fun n P hm W σ N Q k => by
  obtain ⟨fa, fd, ps, c0, c1, F, c2, _⟩ := c.ex
  refine wp_of (hp (hr.mono hk) c0 c1 F c2) ?_
  refine h1.run n _ hm W σ N _ fun x1 n1 v1 W2 g1 wb1 ok1 bk1 i1 => ?_
  obtain ⟨pa, dx, us, q1, q2, q3, q4⟩ := id i1
  refine ⟨pa, dx, us, q1, ok1.ins q2, lookup_none q3 hnk, ?_⟩
  refine h2.run n1 _ g1 W2 σ (N.mono wb1 ok1 bk1) _ fun x2 n2 v2 W3 g2 wb2 ok2 bk2 i2 => ?_
  refine h3.run n2 _ g2 W3 σ (N.mono (wb1.trans wb2) ok2 bk2) _ fun x3 n3 v3 W4 ⟨z, gz, g3⟩ wb3 ok3 bk3 i3 => ?_
  exact ⟨W4, v1, v2, v3, x1, x2, x3, z, rfl, rfl, ok3, (Rep.mono (wb2.trans wb3).f i1), (Rep.mono wb3.f i2), i3, gz, fun w W8 le8 ok8 ⟨p, ws, e8, h8, h9, h10, h11⟩ => by
    subst e8
    exact k z n3 p ws W8 g3 (((wb1.trans wb2).trans wb3).trans (.of le8)) ok8 (bk3.le le8) (((wb1.trans wb2).trans wb3).free h8) h9 h10 h11⟩⟩
theorem n_call4 {α β γ δ : Type} [Rep α] [Rep β] [Rep γ] [Rep δ] {R : Type} [Rep R] {e1 e2 e3 e4 : Expr} {m1 : Mi α} {m2 : Mi β} {m3 : Mi γ} {m4 : Mi δ} {f : α → β → γ → δ → Option R} {nm : Str} {p pos : Pos} {k j : Nat} (c : CalF X.prog X.w X.K X.mg X.base k nm (sp4 Γ (fun _ => kF Γ) f)) (hr : Room j X.A) (h1 : NX X Γ W0 B e1 ρ m1) (h2 : NX X Γ W0 B e2 ρ m2) (h3 : NX X Γ W0 B e3 ρ m3) (h4 : NX X Γ W0 B e4 ρ m4) (hk : k ≤ j := by decide) (hg : Gl X nm := by rfl)
    (hp : Room k X.A → Gl X nm → ∀ {fa : Addr} {fd : FuncData} {ps : List Str} {sp : Sp}, FnOk X.prog X.w X.K X.mg X.base CX0 k fa fd ps sp → X.mg nm = some (.ref fa) → PySem.W.keepIn X.K (.ref fa) = true → Binds X.K fd ps [] → PE X (.Call (.Name nm p) [e1, e2, e3, e4] [] pos) (tCall sp [] E0 (tCons (wpE X e1) (tCons (wpE X e2) (tCons (wpE X e3) (tCons (wpE X e4) tNil))))) := by intro r g _ _ _ _ F a b c; exact pe_call F r g a b c .nil pass0 (pa_cons pe_wp (pa_cons pe_wp (pa_cons pe_wp (pa_cons pe_wp pa_nil))))) :
    NX X Γ W0 B (.Call (.Name nm p) [e1, e2, e3, e4] [] pos) ρ (bnd m1 fun x1 => bnd m2 fun x2 => bnd m3 fun x3 => bnd m4 fun x4 => opt (f x1 x2 x3 x4)) := ⟨fun n P hm W σ N Q k => by
  obtain ⟨fa, fd, ps, F, c1, c2, c3⟩ := c.ex
  refine wp_of (hp (hr.mono hk) hg F c1 c2 c3) ?_
  refine h1.run n _ hm W σ N _ fun x1 n1 v1 W2 g1 wb1 ok1 bk1 i1 => ?_
  refine h2.run n1 _ g1 W2 σ (N.mono wb1 ok1 bk1) _ fun x2 n2 v2 W3 g2 wb2 ok2 bk2 i2 => ?_
  refine h3.run n2 _ g2 W3 σ (N.mono (wb1.trans wb2) ok2 bk2) _ fun x3 n3 v3 W4 g3 wb3 ok3 bk3 i3 => ?_
  refine h4.run n3 _ g3 W4 σ (N.mono ((wb1.trans wb2).trans wb3) ok3 bk3) _ fun x4 n4 v4 W5 ⟨z, gz, g4⟩ wb4 ok4 bk4 i4 => ?_
  exact ⟨W5, v1, v2, v3, v4, x1, x2, x3, x4, z, rfl, rfl, ok4, (Rep.mono ((wb2.trans wb3).trans wb4).f i1), (Rep.mono (wb3.trans wb4).f i2), (Rep.mono wb4.f i3), i4, gz, fun w W8 le8 ok8 i8 => k z n4 w W8 g4 ((((wb1.trans wb2).trans wb3).trans wb4).trans (.of le8)) ok8 (bk4.le le8) i8⟩⟩
theorem n_make4 {α β γ δ : Type} [Rep α] [Rep β] [Rep γ] [Rep δ] {R : Type} [Rec R] {e1 e2 e3 e4 : Expr} {m1 : Mi α} {m2 : Mi β} {m3 : Mi γ} {m4 : Mi δ} {f : α → β → γ → δ → Option R} {nm : Str} {p pos : Pos} {k j : Nat} (c : MakF X.prog X.w X.K X.mg X.base k nm (Rec.c (R := R) Γ) (si4 Γ (Rec.c (R := R) Γ) f)) (hr : Room j X.A) (h1 : NX X Γ W0 B e1 ρ m1) (h2 : NX X Γ W0 B e2 ρ m2) (h3 : NX X Γ W0 B e3 ρ m3) (h4 : NX X Γ W0 B e4 ρ m4) (hk : k + 1 ≤ j := by decide) (hg : Gl X nm := by rfl)
    (hp : Room (k + 1) X.A → Gl X nm → ∀ {fa : Addr} {fd : FuncData} {ps : List Str} {sp : Sp}, Mk X.K (Rec.c (R := R) Γ) fa → FnOk X.prog X.w X.K X.mg X.base CX0 k fa fd ps sp → X.mg nm = some (.ref (Rec.c (R := R) Γ)) → Binds X.K fd ps [] → PE X (.Call (.Name nm p) [e1, e2, e3, e4] [] pos) (tMake (Rec.c (R := R) Γ) sp [] E0 (tCons (wpE X e1) (tCons (wpE X e2) (tCons (wpE X e3) (tCons (wpE X e4) tNil))))) := by intro r g _ _ _ _ m F a c; exact pe_make m F r g a c .nil pass0 (pa_cons pe_wp (pa_cons pe_wp (pa_cons pe_wp (pa_cons pe_wp pa_nil))))) :
    NX X Γ W0 B (.Call (.Name nm p) [e1, e2, e3, e4] [] pos) ρ (bnd m1 fun x1 => bnd m2 fun x2 => bnd m3 fun x3 => bnd m4 fun x4 => opt (f x1 x2 x3 x4)) := ⟨fun n P hm W σ N Q k => by
  obtain ⟨fa, fd, ps, m, F, c1, c2⟩ := c.ex
  refine wp_of (hp (hr.mono hk) hg m F c1 c2) ?_
  refine h1.run n _ hm W σ N _ fun x1 n1 v1 W2 g1 wb1 ok1 bk1 i1 => ?_
  refine h2.run n1 _ g1 W2 σ (N.mono wb1 ok1 bk1) _ fun x2 n2 v2 W3 g2 wb2 ok2 bk2 i2 => ?_
  refine h3.run n2 _ g2 W3 σ (N.mono (wb1.trans wb2) ok2 bk2) _ fun x3 n3 v3 W4 g3 wb3 ok3 bk3 i3 => ?_
  refine h4.run n3 _ g3 W4 σ (N.mono ((wb1.trans wb2).trans wb3) ok3 bk3) _ fun x4 n4 v4 W5 ⟨z, gz, g4⟩ wb4 ok4 bk4 i4 => ?_
  intro pp dx hpp hdx hne
  obtain ⟨w1, w2, w3⟩ := made_le (C := Rec.c (R := R) Γ) ok4 hpp hdx hne
  refine ⟨⟨W5.F, upd (upd W5.H dx (.own pp)) pp (.ins _ dx [])⟩, pp, dx, v1, v2, v3, v4, x1, x2, x3, x4, z, rfl, rfl, w1, ok4.none_of hpp, upd_same, (Rep.mono ((wb2.trans wb3).trans wb4).f i1), (Rep.mono (wb3.trans wb4).f i2), (Rep.mono wb4.f i3), i4, gz, fun W8 le8 ok8 i8 => ⟨rfl, ?_⟩⟩
  have le9 : W5.le W8 := by
    rw [show W5 = Wd.mk W5.F (rem pp dx (upd (upd W5.H dx (.own pp)) pp (.ins (Rec.c (R := R) Γ) dx []))) by rw [w2]]
    exact le8
  exact k z n4 _ W8 g4 ((((wb1.trans wb2).trans wb3).trans wb4).trans (.of le9)) ok8 (bk4.le le9) i8⟩
theorem n_meth4 {α β γ δ : Type} [Rec α] [Rep β] [Rep γ] [Rep δ] {R : Type} [Rep R] {e1 e2 e3 e4 : Expr} {m1 : Mi α} {m2 : Mi β} {m3 : Mi γ} {m4 : Mi δ} {f : α → β → γ → δ → Option R} {nm : Str} {apos pos : Pos} {k j : Nat} (c : MetF X.prog X.w X.K X.mg X.base k (Rec.c (R := α) Γ) nm (sp4 Γ (fun _ => kF Γ) f)) (hr : Room j X.A) (h1 : NX X Γ W0 B e1 ρ m1) (h2 : NX X Γ W0 B e2 ρ m2) (h3 : NX X Γ W0 B e3 ρ m3) (h4 : NX X Γ W0 B e4 ρ m4) (hnk : ixOf nm (Rec.ks (R := α)) = none := by decide +kernel) (hk : k ≤ j := by decide)
    (hp : Room k X.A → ∀ {fa : Addr} {fd : FuncData} {ps : List Str} {sp : Sp}, Cls X.K (Rec.c (R := α) Γ) → Meth X.K (Rec.c (R := α) Γ) nm fa → FnOk X.prog X.w X.K X.mg X.base CX0 k fa fd ps sp → Binds X.K fd ps [] → PE X (.Call (.Attribute e1 nm apos) [e2, e3, e4] [] pos) (tMeth (Rec.c (R := α) Γ) nm sp [] E0 (wpE X e1) (tCons (wpE X e2) (tCons (wpE X e3) (tCons (wpE X e4) tNil)))) := by intro r _ _ _ _ a b F d; exact pe_meth pe_wp a b F r d .nil pass0 (pa_cons pe_wp (pa_cons pe_wp (pa_cons pe_wp pa_nil)))) :
    NX X Γ W0 B (.Call (.Attribute e1 nm apos) [e2, e3, e4] [] pos) ρ (bnd m1 fun x1 => bnd m2 fun x2 => bnd m3 fun x3 => bnd m4 fun x4 => opt (f x1 x2 x3 x4)) := ⟨fun n P hm W σ N Q k => by
  obtain ⟨fa, fd, ps, c0, c1, F, c2, _⟩ := c.ex
  refine wp_of (hp (hr.mono hk) c0 c1 F c2) ?_
  refine h1.run n _ hm W σ N _ fun x1 n1 v1 W2 g1 wb1 ok1 bk1 i1 => ?_
  obtain ⟨pa, dx, us, q1, q2, q3, q4⟩ := id i1
  refine ⟨pa, dx, us, q1, ok1.ins q2, lookup_none q3 hnk, ?_⟩
  refine h2.run n1 _ g1 W2 σ (N.mono wb1 ok1 bk1) _ fun x2 n2 v2 W3 g2 wb2 ok2 bk2 i2 => ?_
  refine h3.run n2 _ g2 W3 σ (N.mono (wb1.trans wb2) ok2 bk2) _ fun x3 n3 v3 W4 g3 wb3 ok3 bk3 i3 => ?_
  refine h4.run n3 _ g3 W4 σ (N.mono ((wb1.trans wb2).trans wb3) ok3 bk3) _ fun x4 n4 v4 W5 ⟨z, gz, g4⟩ wb4 ok4 bk4 i4 => ?_
  exact ⟨W5, v1, v2, v3, v4, x1, x2, x3, x4, z, rfl, rfl, ok4, (Rep.mono ((wb2.trans wb3).trans wb4).f i1), (Rep.mono (wb3.trans wb4).f i2), (Rep.mono wb4.f i3), i4, gz, fun w W8 le8 ok8 i8 => k z n4 w W8 g4 ((((wb1.trans wb2).trans wb3).trans wb4).trans (.of le8)) ok8 (bk4.le le8) i8⟩⟩
theorem no_meth4 {α β γ δ : Type} [Rec α] [Rep β] [Rep γ] [Rep δ] {R : Type} [Rep R] {e1 e2 e3 e4 : Expr} {m1 : Mi α} {m2 : Mi β} {m3 : Mi γ} {m4 : Mi δ} {f : α → β → γ → δ → Option (List R)} {nm : Str} {apos pos : Pos} {k j : Nat} (c : MetF X.prog X.w X.K X.mg X.base k (Rec.c (R := α) Γ) nm (sp4 Γ (fun W => kO Γ W) f)) (hr : Room j X.A) (h1 : NX X Γ W0 B e1 ρ m1) (h2 : NX X Γ W0 B e2 ρ m2) (h3 : NX X Γ W0 B e3 ρ m3) (h4 : NX X Γ W0 B e4 ρ m4) (hnk : ixOf nm (Rec.ks (R := α)) = none := by decide +kernel) (hk : k ≤ j := by decide)
    (hp : Room k X.A → ∀ {fa : Addr} {fd : FuncData} {ps : List Str} {sp : Sp}, Cls X.K (Rec.c (R := α) Γ) → Meth X.K (Rec.c (R := α) Γ) nm fa → FnOk X.prog X.w X.K X.mg X.base CX0 k fa fd ps sp → Binds X.K fd ps [] → PE X (.Call (.Attribute e1 nm apos) [e2, e3, e4] [] pos) (tMeth (Rec.c (R := α) Γ) nm sp [] E0 (wpE X e1) (tCons (wpE X e2) (tCons (wpE X e3) (tCons (wpE X e4) tNil)))) := by intro r _ _ _ _ a b F d; exact pe_meth pe_wp a b F r d .nil pass0 (pa_cons pe_wp (pa_cons pe_wp (pa_cons pe_wp pa_nil)))) :
    NOX X Γ W0 B (.Call (.Attribute e1 nm apos) [e2, e3, e4] [] pos) ρ (bnd m1 fun x1 => bnd m2 fun x2 => bnd m3 fun x3 => bnd m4 fun x4 => opt (f x1 x2 x3 x4)) := ⟨fun n P hm W σ N Q k => by
  obtain ⟨fa, fd, ps, c0, c1, F, c2, _⟩ := c.ex
  refine wp_of (hp (hr.mono hk) c0 c1 F c2) ?_
  refine h1.run n _ hm W σ N _ fun x1 n1 v1 W2 g1 wb1 ok1 bk1 i1 => ?_
  obtain ⟨pa, dx, us, q1, q2, q3, q4⟩ := id i1
  refine ⟨pa, dx, us, q1, ok1.ins q2, lookup_none q3 hnk, ?_⟩
  refine h2.run n1 _ g1 W2 σ (N.mono wb1 ok1 bk1) _ fun x2 n2 v2 W3 g2 wb2 ok2 bk2 i2 => ?_
  refine h3.run n2 _ g2 W3 σ (N.mono (wb1.trans wb2) ok2 bk2) _ fun x3 n3 v3 W4 g3 wb3 ok3 bk3 i3 => ?_
  refine h4.run n3 _ g3 W4 σ (N.mono ((wb1.trans wb2).trans wb3) ok3 bk3) _ fun x4 n4 v4 W5 ⟨z, gz, g4⟩ wb4 ok4 bk4 i4 => ?_
  exact ⟨W5, v1, v2, v3, v4, x1, x2, x3, x4, z, rfl, rfl, ok4, (Rep.mono ((wb2.trans wb3).trans wb4).f i1), (Rep.mono (wb3.trans wb4).f i2), (Rep.mono wb4.f i3), i4, gz, fun w W8 le8 ok8 ⟨p, ws, e8, h8, h9, h10, h11⟩ => by
    subst e8
    exact k z n4 p ws W8 g4 ((((wb1.trans wb2).trans wb3).trans wb4).trans (.of le8)) ok8 (bk4.le le8) ((((wb1.trans wb2).trans wb3).trans wb4).free h8) h9 h10 h11⟩⟩
end
end SR
end
section
set_option Elab.async false
set_option linter.all false
set_option maxRecDepth 100000
set_option maxHeartbeats 4000000
namespace SR
open PySem PySem.Spec PyProof.Rows L2

section
variable {X : Cx} {Γ : Cs} {W0 : Wd} {B : Bx} {ρ : List Slot}
/-- targets keep the box apart -/
theorem TgS.n {g : TG} {α : Type} [Rep α] {put : List Slot → α → List Slot} {vs : List Nat} (ts : TgS Γ g put vs) {W : Wd} {v : V} {x : α} {σ : St} {n : Nat} {Q : St → Hp → Prop} (N : NEnv Γ W0 B W ρ σ n) (i : Is Γ W.F v x) (nr : noRd (put ρ x) = true)
    (k : ∀ σ2, NEnv Γ W0 B W (put ρ x) σ2 n → L2.wipe σ2 vs = L2.wipe σ vs → Q σ2 W.H) : g v σ W.H Q := by
  obtain ⟨W1, E1, s1, s2, s3, s4⟩ := snap N.E
  exact ts W1 W v x ρ σ Q E1 i fun σ2 E2 hw => k σ2 (N.back s1 s2 s3 s4 E2 nr) hw
theorem NEnv.drop {W : Wd} {σ : St} {n : Nat} (N : NEnv Γ W0 B W ρ σ n) (i : Nat) (o : Option V) : NEnv Γ W0 B W (ρ.set i .un) (σ.set i o) n := ⟨N.E.drop i o, N.bk, fun a m j s e1 e2 e3 => by
  by_cases z : i = j
  · subst z
    have hi : i < ρ.length := by
      have := (List.getElem?_eq_some_iff.mp e1).1
      rw [List.length_set] at this
      exact this
    rw [List.getElem?_set_self hi] at e1
    rw [← Option.some.inj e1] at e2
    cases e2
  · rw [List.getElem?_set_ne z] at e1 e3
    exact N.nb a m j s e1 e2 e3, N.w0⟩
theorem NEnv.wipe {W : Wd} {σ : St} {n : Nat} (N : NEnv Γ W0 B W ρ σ n) : ∀ vs : List Nat, NEnv Γ W0 B W (wipeS ρ vs) (L2.wipe σ vs) n
  | [] => N
  | v :: vs => (NEnv.wipe N vs).drop v none
/-- an object of nobody's changes -/
theorem NEnv.poke {W : Wd} {σ : St} {n : Nat} {D : Addr} {o : HO} (N : NEnv Γ W0 B W ρ σ n) (h0 : W0.H D = none) (hF : W.F D = none) (hn : NotOwned ρ σ D) (hD : ∀ a, Mv B a → a ≠ D) : NEnv Γ W0 B ⟨W.F, upd W.H D o⟩ ρ σ n :=
  ⟨N.E.poke h0 hF hn, by
    obtain ⟨c, xs, ys, b1, b2, b3, b4⟩ := N.bk
    exact ⟨c, xs, ys, by show upd W.H D o _ = _; rw [upd_ne (hD _ (.inl rfl))]; exact b1, by show upd W.H D o _ = _; rw [upd_ne (hD _ (.inr (.inl rfl)))]; exact b2, by show upd W.H D o _ = _; rw [upd_ne (hD _ (.inr (.inr rfl)))]; exact b3, b4⟩, N.nb, N.w0⟩
theorem wb_poke {Ws W : Wd} {D : Addr} {o : HO} (wb : WB B Ws W) (h : Ws.H D = none) : WB B Ws ⟨W.F, upd W.H D o⟩ := by
  have ne : ∀ {a : Addr} {u : HO}, Ws.H a = some u → a ≠ D := fun {a u} e z => by rw [z, h] at e; cases e
  refine ⟨fun a u m e => ?_, wb.f, wb.own, fun a e => ?_⟩
  · show upd W.H D o a = some u
    rw [upd_ne (ne e)]
    exact wb.h a u m e
  · show upd W.H D o a ≠ none
    by_cases z : a = D
    · rw [z, upd_same]; exact (fun z => nomatch z)
    · rw [upd_ne z]; exact wb.th a e

/-! ### [elt for x in ..], the elements drawn -/
def lcN {α β : Type} (f : α → Mi β) : List α → Mi (List β)
  | [] => ret []
  | x :: xs => bnd (f x) fun y => bnd (lcN f xs) fun ys => ret (y :: ys)
def capN {α : Type} (xs : List α) : Option (List α) := if (xs.length : Int) < cap then some xs else none
theorem rd_lcN {α β : Type} [Rep α] [Rep β] {tg iter elt : Expr} {scope : Scope} {own : List (Str × Nat)} {g : TG} {put : List Slot → α → List Slot} {ml : Option (List α)} {f : α → Mi β}
    (hi : IX X Γ W0 tg iter ρ ml) (ts : TgS Γ g put (own.map (·.2))) (nr : ∀ x, noRd (put (wipeS ρ (own.map (·.2))) x) = true)
    (he : ∀ (s : Shared) (H : Hp) (C : Addr) (cl : List (Str × Addr)) (fp : List Addr) (x : α), NX (X.blk s H scope (compEnvC scope cl C X.env) fp) Γ W0 B elt (put (wipeS ρ (own.map (·.2))) x) (f x))
    {n : Nat} {P : List β → Nat → Prop} {xs : List α} (hx : ml = some xs) (hcap : (xs.length : Int) < cap) (hm : lcN f xs n P) {W : Wd} {σ : St} (N : NEnv Γ W0 B W ρ σ n) {Q : VK} (k : ∀ ys n' p vs W2, P ys n' → WB B W W2 → HLe W2.F W2.H → Bok B W2 n' → W.H p = none → W2.F p = none → W2.H p = some (.lst vs) → IsAll Γ W2.F vs ys → Q (.ref p) W2.H) :
    tLc (wpI X tg iter) g (fun σ H Q => ∀ (s : Shared) (H0 : Hp) (C : Addr) (cl : List (Str × Addr)) (fp : List Addr) pins s1, Inv (X.blk s H0 scope (compEnvC scope cl C X.env) fp) pins σ H s1 →
        wpAny (model X.prog X.w) X.A (forIn ([] : List Expr) true fun c r => if r = true then do let ok ← isTrue c (compEnvC scope cl C X.env) (eval c (compEnvC scope cl C X.env)); pure (ForInStep.yield ok) else pure (ForInStep.yield r)) (TP (X.blk s H0 scope (compEnvC scope cl C X.env) fp) pins σ Q) (fun _ _ => False) s1)
      (fun σ H Q => ∀ (s : Shared) (H0 : Hp) (C : Addr) (cl : List (Str × Addr)) (fp : List Addr), wpE (X.blk s H0 scope (compEnvC scope cl C X.env) fp) elt σ H Q) (own.map (·.2)) σ W.H Q := by
  refine hi.run xs hx W σ N.E _ fun J W2 le ok hw => ?_
  intro D hD
  have hD0 : W.H D = none := le.free hD
  have hDW0 : W0.H D = none := N.E.le.free hD0
  have hDm : ∀ a, Mv B a → a ≠ D := fun a m z => N.bk.there m (by rw [z]; exact hD0)
  have hDn : ¬ Mv B D := fun m => hDm D m rfl
  have N2 := (N.le le ok).wipe (own.map (·.2))
  have hDN : NotOwned (wipeS ρ (own.map (·.2))) (L2.wipe σ (own.map (·.2))) D := N2.E.notOwned hD
  refine ⟨fun i m H' => m = xs.length - i ∧ i ≤ xs.length ∧ ∃ (W3 : Wd) (acc : List V) (as : List β) (n3 : Nat), W3.H = H' ∧ WB B W W3 ∧ HLe W2.F W3.F ∧ NEnv Γ W0 B W3 (wipeS ρ (own.map (·.2))) (L2.wipe σ (own.map (·.2))) n3 ∧ W3.F D = none ∧ W3.H D = some (.lst acc) ∧ IsAll Γ W3.F acc as ∧ as.length ≤ i ∧ lcN f (xs.drop i) n3 (fun ys n' => P (as ++ ys) n'), ?_, ?_⟩
  · have hDF : W2.F D = none := ok.none_of hD
    exact ⟨xs.length, by omega, Nat.zero_le _, ⟨W2.F, upd W2.H D (.lst [])⟩, [], [], n, rfl, wb_poke (.of le) hD0, .refl, N2.poke hDW0 hDF hDN hDm, hDF, upd_same, .nil, Nat.le_refl _, hm⟩
  · rintro i m H' ⟨rfl, hi', W3, acc, as, n3, rfl, wb3, hF, N3, hDF, hDH, ha, hal, h3⟩
    obtain ⟨w1, w2⟩ := hw W3 N3.E.le hF N3.E.ok i
    by_cases hlt : i < xs.length
    · have hx : xs[i]? = some xs[i] := List.getElem?_eq_getElem hlt
      obtain ⟨go, w3⟩ := w2 _ hx
      rw [drop_at hx] at h3
      refine .inr ⟨go, fun H4 => ∃ (W4 : Wd) (acc : List V) (as : List β) (n4 : Nat), W4.H = H4 ∧ WB B W W4 ∧ HLe W2.F W4.F ∧ NEnv Γ W0 B W4 (wipeS ρ (own.map (·.2))) (L2.wipe σ (own.map (·.2))) n4 ∧ W4.F D = none ∧ W4.H D = some (.lst acc) ∧ IsAll Γ W4.F acc as ∧ as.length ≤ i + 1 ∧ lcN f (xs.drop (i + 1)) n4 (fun ys n' => P (as ++ ys) n'),
        fun H4 k4 => ⟨xs.length - (i + 1), by omega, rfl, hlt, k4⟩, fun v H4 y => ?_⟩
      obtain ⟨W4, rfl, le4, ok4, is4⟩ := w3 v H4 y
      refine TgS.n ts (N3.le le4 ok4) is4 (nr _) fun σ5 N5 hwp => ⟨?_, ?_⟩
      · have e : L2.wipe σ5 (own.map (·.2)) = L2.wipe (L2.wipe σ (own.map (·.2))) (own.map (·.2)) := hwp
        rw [e]
        exact wipe_wipe _ _
      · intro s H0 C cl fp pins s1 I1
        refine (ts_nil (X := X.blk s H0 scope (compEnvC scope cl C X.env) fp) (Γ := Γ) (W0 := W0)).run true rfl W4 σ5 N5.E _ (fun W6 le6 ok6 => ?_) pins s1 I1
        refine iteT fun s H0 C cl fp => ?_
        have h3' : f xs[i] n3 fun y n' => lcN f (xs.drop (i + 1)) n' fun ys n'' => P (as ++ (y :: ys)) n'' := h3
        refine (he s H0 C cl fp xs[i]).run n3 _ h3' W6 σ5 (N5.le le6 ok6) _ fun z n7 u W7 h7 wb7 ok7 bk7 is7 => ?_
        have wb37 : WB B W3 W7 := (WB.of (le4.trans le6)).trans wb7
        have hDH7 : W7.H D = some (.lst acc) := wb37.h D _ hDn hDH
        have hDF7 : W7.F D = none := wb37.own D (by rw [hDH]; exact (fun z => nomatch z)) hDF
        have hN7 := N3.mono wb37 ok7 bk7
        refine ⟨acc, hDH7, ?_, ⟨W7.F, upd W7.H D (.lst (acc ++ [u]))⟩, acc ++ [u], as ++ [z], n7, rfl, wb_poke (wb3.trans wb37) hD0, hF.trans wb37.f, hN7.poke hDW0 hDF7 hDN hDm, hDF7, upd_same, Paired.snoc (ha.mono wb37.f) is7, ?_, ?_⟩
        · have := ha.len
          refine Nat.lt_of_le_of_lt ?_ (cap_ok hcap)
          omega
        · rw [List.length_append, List.length_singleton]
          omega
        · have e : (fun ys n'' => P (as ++ (z :: ys)) n'') = (fun ys n' => P (as ++ [z] ++ ys) n') := by
            funext ys n''
            rw [List.append_assoc]
            rfl
          rw [← e]
          exact h7
    · have e : i = xs.length := by omega
      subst e
      rw [List.drop_length] at h3
      have h4 : P (as ++ []) n3 := h3
      rw [List.append_nil] at h4
      exact .inl ⟨w1 (Nat.le_refl _), k as n3 D acc W3 h4 wb3 N3.E.ok N3.bk hD0 hDF hDH ha⟩
theorem no_lc {α β : Type} [Rep α] [Rep β] {tg iter elt : Expr} {scope : Scope} {own : List (Str × Nat)} {pos : Pos} {g : TG} {put : List Slot → α → List Slot} {ml : Option (List α)} {f : α → Mi β}
    (own_ : own = own) (nd : X.N.Nodup) (ok : BlkOk X.N X.env.scope scope own) (hi : IX X Γ W0 tg iter ρ ml) (hg : ∀ (s : Shared) (H : Hp) (C : Addr) (cl : List (Str × Addr)) (fp : List Addr), PG (X.blk s H scope (compEnvC scope cl C X.env) fp) tg g) (ts : TgS Γ g put (own.map (·.2)))
    (he : ∀ (s : Shared) (H : Hp) (C : Addr) (cl : List (Str × Addr)) (fp : List Addr) (x : α), NX (X.blk s H scope (compEnvC scope cl C X.env) fp) Γ W0 B elt (put (wipeS ρ (own.map (·.2))) x) (f x))
    (nr : ∀ x, noRd (put (wipeS ρ (own.map (·.2))) x) = true := by intro _; rfl) (hc : X.calm = true := by rfl) (hs : ∀ x, foldedSetIterable iter X.env x = pure x := by intro _; rfl) :
    NOX X Γ W0 B (.ListComp elt [⟨tg, iter, [], 0⟩] scope pos) ρ (bnd (opt (ml.bind capN)) fun xs => lcN f xs) := ⟨fun n P hm W σ N Q k => by
  obtain ⟨xs, hx, hm⟩ := hm
  obtain ⟨ys, hy, hx⟩ := bindo hx
  unfold capN at hx
  split at hx
  · rename_i hcap
    cases hx
    refine wp_of (pe_lc (own := own) hc nd pi_wp ok hg (fun s H C cl fp => ⟨fun pins s1 σ1 H1 Q1 I1 h1 => ?_⟩) (fun s H C cl fp => ⟨fun pins s1 σ1 H1 Q1 I1 h1 => ?_⟩) hs) (rd_lcN hi ts nr he hy hcap hm N k)
    · exact h1 s H C cl fp pins s1 I1
    · exact h1 s H C cl fp pins s1 I1
  · cases hx⟩

/-! ### statements -/
theorem n_set {α : Type} [Rep α] {e : Expr} {x : Str} {pos pos' : Pos} {m : Mi α} (i : Nat) (h : NX X Γ W0 B e ρ m) (nd : X.N.Nodup) (hN : X.N[i]? = some x := by rfl) (hx : Loc X.env.scope x := by first | exact Or.inl rfl | exact Or.inr rfl)
    (hs : swapsWithSole [.Name x pos'] e pos.line X.env = pure false := by rfl) (hw : swappedStores [.Name x pos'] e X.env = pure none := by rfl) (hf : X.fn x = true ∨ X.env.scope.names.lookup x = some .local := by first | exact .inl rfl | exact .inr rfl) : NSX X Γ W0 B (.Assign [.Name x pos'] e pos) ρ m (fun x => ρ.set i (fz x)) := ⟨fun n P hm W σ N D q => by
  refine ws_of (ps_asg pe_wp (pg_name (i := i) nd hN hx hf) hs hw rfl) ?_
  exact h.run n P hm W σ N _ fun x n' v W2 hp wb ok bk i1 => q x n' W2 _ hp wb.f ((N.mono wb ok bk).set i i1)⟩
theorem n_setO {α : Type} [Rep α] {e : Expr} {x : Str} {pos pos' : Pos} {m : Mi (List α)} (i : Nat) (h : NOX X Γ W0 B e ρ m) (nd : X.N.Nodup) (hN : X.N[i]? = some x := by rfl) (hx : Loc X.env.scope x := by first | exact Or.inl rfl | exact Or.inr rfl)
    (hs : swapsWithSole [.Name x pos'] e pos.line X.env = pure false := by rfl) (hw : swappedStores [.Name x pos'] e X.env = pure none := by rfl) (hf : X.fn x = true ∨ X.env.scope.names.lookup x = some .local := by first | exact .inl rfl | exact .inr rfl) : NSX X Γ W0 B (.Assign [.Name x pos'] e pos) ρ m (fun x => ρ.set i (.owL x)) := ⟨fun n P hm W σ N D q => by
  refine ws_of (ps_asg pe_wp (pg_name (i := i) nd hN hx hf) hs hw rfl) ?_
  refine h.run n P hm W σ N _ fun xs n' p vs W2 hp wb ok bk h1 h2 h3 h4 => ?_
  have N2 := N.mono wb ok bk
  have np : ∀ a, Mv B a → a ≠ p := fun a m z => N.bk.there m (by rw [z]; exact h1)
  refine q xs n' W2 _ hp wb.f ⟨N2.E.setOwn i (fun j s e1 e2 e3 => N.E.notOwned h1 j s e1 e2 e3) rfl ⟨p, vs, rfl, N.E.le.free h1, h2, h3, h4⟩, bk, fun a m j s e1 e2 e3 => ?_, N2.w0⟩
  by_cases z : i = j
  · subst z
    have hi : i < σ.length := by
      have := (List.getElem?_eq_some_iff.mp e3).1
      rw [List.length_set] at this
      exact this
    rw [List.getElem?_set_self hi] at e3
    have e4 := Option.some.inj (Option.some.inj e3)
    injection e4 with e4
    exact np a m e4.symm
  · rw [List.getElem?_set_ne z] at e1 e3
    exact N.nb a m j s e1 e2 e3⟩
theorem n_unp {α : Type} [Rep α] {tg e : Expr} {pos : Pos} {g : TG} {put : List Slot → α → List Slot} {vs : List Nat} {m : Mi α} (he : NX X Γ W0 B e ρ m) (hg : PG X tg g) (ts : TgS Γ g put vs) (nr : ∀ x, noRd (put ρ x) = true := by intro _; rfl) (hs : swapsWithSole [tg] e pos.line X.env = pure false := by rfl) (hw : swappedStores [tg] e X.env = pure none := by rfl)
    (h1 : (assignEach [tg] X.env).map (·.2) = [assign tg X.env] := by rfl) : NSX X Γ W0 B (.Assign [tg] e pos) ρ m (fun x => put ρ x) := ⟨fun n P hm W σ N D k => by
  refine ws_of (ps_asg pe_wp hg hs hw h1) ?_
  refine he.run n P hm W σ N _ fun x n' v W2 hp wb ok bk i1 => ?_
  exact TgS.n ts (N.mono wb ok bk) i1 (nr x) fun σ2 N2 _ => k x n' W2 σ2 hp wb.f N2⟩
theorem n_par {α β : Type} [Rep α] [Rep β] {a b : Expr} {x y : Str} {px py pt pos pt2 : Pos} {kt k2 : Nat} {ma : Mi α} {mb : Mi β} (i j : Nat) (ha : NX X Γ W0 B a ρ ma) (hb : NX X Γ W0 B b ρ mb) (nd : X.N.Nodup) (hi : X.N[i]? = some x := by rfl) (hj : X.N[j]? = some y := by rfl) (hij : i ≠ j := by decide)
    (hx : X.env.scope.names.lookup x = some .local := by rfl) (hy : X.env.scope.names.lookup y = some .local := by rfl) (hc : X.calm = true := by rfl)
    (hw : swappedStores [.Tuple [.Name x px, .Name y py] kt pt] (.Tuple [a, b] k2 pt2) X.env = pure (some [x, y]) := by rfl) (hs : swapsWithSole [.Tuple [.Name x px, .Name y py] kt pt] (.Tuple [a, b] k2 pt2) pos.line X.env = pure false := by rfl)
    (hp : X.calm = true → X.N.Nodup → X.N[i]? = some x → X.N[j]? = some y → i ≠ j → X.env.scope.names.lookup x = some .local → X.env.scope.names.lookup y = some .local → swappedStores [.Tuple [.Name x px, .Name y py] kt pt] (.Tuple [a, b] k2 pt2) X.env = pure (some [x, y]) → swapsWithSole [.Tuple [.Name x px, .Name y py] kt pt] (.Tuple [a, b] k2 pt2) pos.line X.env = pure false → PS X (.Assign [.Tuple [.Name x px, .Name y py] kt pt] (.Tuple [a, b] k2 pt2) pos) (tPar i j (tCons (wpE X a) (tCons (wpE X b) tNil))) := by intro a1 a2 a3 a4 a5 a6 a7 a8 a9; exact ps_par a1 a2 a3 a4 a5 a6 a7 (pa_cons pe_wp (pa_cons pe_wp pa_nil)) a8 a9) :
    NSX X Γ W0 B (.Assign [.Tuple [.Name x px, .Name y py] kt pt] (.Tuple [a, b] k2 pt2) pos) ρ (bnd ma fun x => bnd mb fun y => ret (x, y)) (fun z => (ρ.set i (fz z.1)).set j (fz z.2)) := ⟨fun n P hm W σ N D k => by
  refine ws_of (hp hc nd hi hj hij hx hy hw hs) ?_
  refine ha.run n _ hm W σ N _ fun u n1 a' W2 h1 wb ok bk i1 => ?_
  refine hb.run n1 _ h1 W2 σ (N.mono wb ok bk) _ fun v n2 b' W3 h2 wb2 ok2 bk2 i2 => ?_
  exact ⟨a', b', rfl, k (u, v) n2 W3 _ h2 (wb.f.trans wb2.f) (((N.mono (wb.trans wb2) ok2 bk2).set i (Rep.mono wb2.f i1)).set j i2)⟩⟩
def iteN {α : Type} (c : Mi Bool) (a b : Mi α) : Mi α := bnd c fun x => if x = true then a else b
theorem n_if {β : Type} {c : Expr} {A C : List Stmt} {pos : Pos} {mc : Mi Bool} {mA mB : Mi β} {ρ' : β → List Slot} (hc : NTX X Γ W0 B c ρ mc) (hA : NBX X Γ W0 B A ρ mA ρ') (hB : NBX X Γ W0 B C ρ mB ρ') : NSX X Γ W0 B (.If c A C pos) ρ (iteN mc mA mB) ρ' := ⟨fun n P hm W σ N D q => by
  refine ws_of (ps_if pt_wp pss_wp pss_wp) ?_
  refine hc.run n _ hm W σ N _ fun b n1 W2 h1 wb ok bk => ?_
  have N2 := N.mono wb ok bk
  cases b with
  | true => exact iteT (hA.run n1 P h1 W2 σ N2 D fun s n' W3 σ3 hp le N3 => q s n' W3 σ3 hp (wb.f.trans le) N3)
  | false => exact iteF (hB.run n1 P h1 W2 σ N2 D fun s n' W3 σ3 hp le N3 => q s n' W3 σ3 hp (wb.f.trans le) N3)⟩
/-! blocks -/
theorem nb_nil {β : Type} {b : β} {ρ' : β → List Slot} (h : Weak ρ (ρ' b) := by repeat (first | exact Weak.nil | refine Weak.keep ?_ | refine Weak.drop ?_)) : NBX X Γ W0 B [] ρ (ret b) ρ' := ⟨fun n P hm W σ N D k => wss_of pss_nil (k b n W σ hm .refl (N.weak h))⟩
theorem nb_cons {β γ : Type} {st : Stmt} {rest : List Stmt} {m : Mi β} {k : β → Mi γ} {ρ1 : β → List Slot} {ρ2 : γ → List Slot} (h1 : NSX X Γ W0 B st ρ m ρ1) (h2 : ∀ b, NBX X Γ W0 B rest (ρ1 b) (k b) ρ2) : NBX X Γ W0 B (st :: rest) ρ (bnd m k) ρ2 := ⟨fun n P hm W σ N D q => by
  refine wss_of (pss_cons ps_wp pss_wp) ?_
  exact h1.run n _ hm W σ N _ fun b n1 W2 σ2 hp le N2 => (h2 b).run n1 P hp W2 σ2 N2 D fun c n2 W3 σ3 hq le2 N3 => q c n2 W3 σ3 hq (le.trans le2) N3⟩
variable {R : Type} {K : RK R}
theorem nr_cons {β : Type} {st : Stmt} {rest : List Stmt} {m : Mi β} {k : β → Mi R} {ρ1 : β → List Slot} (h1 : NSX X Γ W0 B st ρ m ρ1) (h2 : ∀ b, NRX X Γ W0 B K rest (ρ1 b) (k b)) : NRX X Γ W0 B K (st :: rest) ρ (bnd m k) := ⟨fun n P hm W σ N D q => by
  refine wss_of (pss_cons ps_wp pss_wp) ?_
  exact h1.run n _ hm W σ N _ fun b n1 W2 σ2 hp le N2 => (h2 b).run n1 P hp W2 σ2 N2 D fun r n2 v W3 hq l0 le2 ok bk i => q r n2 v W3 hq l0 (le.trans le2) ok bk i⟩
theorem nr_ret {α : Type} [Rep α] {e : Expr} {pos : Pos} {m : Mi α} (h : NX X Γ W0 B e ρ m) : NRX X Γ W0 B (kF Γ) [.Return (some e) pos] ρ m := ⟨fun n P hm W σ N D q => by
  refine wss_of (pss_one (ps_ret pe_wp)) ?_
  refine h.run n P hm W σ N _ fun r n' v W2 hp wb ok bk i => ?_
  exact q r n' v W2 hp (N.mono wb ok bk).E.le wb.f ok bk i⟩
theorem nr_ifr {c : Expr} {A rest : List Stmt} {pos : Pos} {mc : Mi Bool} {mA mB : Mi R} (hc : NTX X Γ W0 B c ρ mc) (hA : NRX X Γ W0 B K A ρ mA) (hB : NRX X Γ W0 B K rest ρ mB) : NRX X Γ W0 B K (.If c A [] pos :: rest) ρ (iteN mc mA mB) := ⟨fun n P hm W σ N D q => by
  refine wss_of (pss_cons (ps_if pt_wp pss_wp pss_nil) pss_wp) ?_
  refine hc.run n _ hm W σ N _ fun b n1 W2 h1 wb ok bk => ?_
  have N2 := N.mono wb ok bk
  cases b with
  | true => exact iteT (hA.run n1 P h1 W2 σ N2 _ fun r n' v W3 hp l0 le ok bk i => q r n' v W3 hp l0 (wb.f.trans le) ok bk i)
  | false => exact iteF (hB.run n1 P h1 W2 σ N2 D fun r n' v W3 hp l0 le ok bk i => q r n' v W3 hp l0 (wb.f.trans le) ok bk i)⟩
theorem ng_cons {β S : Type} {st : Stmt} {rest : List Stmt} {m : Mi β} {k : β → Mi (Out S R)} {ρ1 : β → List Slot} {ρ2 : S → List Slot} (h1 : NSX X Γ W0 B st ρ m ρ1) (h2 : ∀ b, NGX X Γ W0 B K rest (ρ1 b) (k b) ρ2) : NGX X Γ W0 B K (st :: rest) ρ (bnd m k) ρ2 := ⟨fun n P hm W σ N D q => by
  refine wss_of (pss_cons ps_wp pss_wp) ?_
  exact h1.run n _ hm W σ N _ fun b n1 W2 σ2 hp le N2 => (h2 b).run n1 P hp W2 σ2 N2 D fun o n2 hq => (q o n2 hq).mono le⟩
theorem ng_nil {S : Type} {b : S} {ρ' : S → List Slot} (h : Weak ρ (ρ' b) := by repeat (first | exact Weak.nil | refine Weak.keep ?_ | refine Weak.drop ?_)) : NGX X Γ W0 B K [] ρ (ret (.nx b)) ρ' := ⟨fun n P hm W σ N D k => wss_of pss_nil (k _ n hm W σ .refl (N.weak h)).1⟩
theorem ng_ifr {S : Type} {c : Expr} {A rest : List Stmt} {pos : Pos} {mc : Mi Bool} {mA : Mi R} {mB : Mi (Out S R)} {ρ' : S → List Slot} (hc : NTX X Γ W0 B c ρ mc) (hA : NRX X Γ W0 B K A ρ mA) (hB : NGX X Γ W0 B K rest ρ mB ρ') :
    NGX X Γ W0 B K (.If c A [] pos :: rest) ρ (iteN mc (bnd mA fun r => ret (.rt r)) mB) ρ' := ⟨fun n P hm W σ N D q => by
  refine wss_of (pss_cons (ps_if pt_wp pss_wp pss_nil) pss_wp) ?_
  refine hc.run n _ hm W σ N _ fun b n1 W2 h1 wb ok bk => ?_
  have N2 := N.mono wb ok bk
  cases b with
  | true => exact iteT (hA.run n1 _ h1 W2 σ N2 _ fun r n' v W3 hp l0 le ok bk i => q (.rt r) n' hp v W3 l0 (wb.f.trans le) ok bk i)
  | false => exact iteF (hB.run n1 P h1 W2 σ N2 D fun o n' hq => (q o n' hq).mono wb.f)⟩
theorem ng_if {S : Type} {c : Expr} {A C : List Stmt} {pos : Pos} {mc : Mi Bool} {mA mB : Mi (Out S R)} {ρ' : S → List Slot} (hc : NTX X Γ W0 B c ρ mc) (hA : NGX X Γ W0 B K A ρ mA ρ') (hB : NGX X Γ W0 B K C ρ mB ρ') : NGX X Γ W0 B K [.If c A C pos] ρ (iteN mc mA mB) ρ' := ⟨fun n P hm W σ N D q => by
  refine wss_of (pss_one (ps_if pt_wp pss_wp pss_wp)) ?_
  refine hc.run n _ hm W σ N _ fun b n1 W2 h1 wb ok bk => ?_
  have N2 := N.mono wb ok bk
  cases b with
  | true => exact iteT (hA.run n1 P h1 W2 σ N2 D fun o n' hq => (q o n' hq).mono wb.f)
  | false => exact iteF (hB.run n1 P h1 W2 σ N2 D fun o n' hq => (q o n' hq).mono wb.f)⟩
/-- an own list is frozen on the way -/
theorem NEnv.freeze {α : Type} [Rep α] {W : Wd} {σ : St} {n : Nat} {xs : List α} (N : NEnv Γ W0 B W ρ σ n) {i : Nat} (h1 : ρ[i]? = some (.owL xs)) : ∃ W2 : Wd, W2.H = W.H ∧ HLe W.F W2.F ∧ NEnv Γ W0 B W2 (ρ.set i (fz xs)) σ n := by
  obtain ⟨o, g1, a, vs, g2, g3, g4, g5, g6⟩ := N.E.slot h1
  subst g2
  obtain ⟨le, E2⟩ := N.E.freeze (d := ⟨xs⟩) h1 rfl g1 g5 ⟨a, vs, rfl, upd_same, g6.mono (HLe.upd_new g4)⟩
  refine ⟨⟨upd W.F a (.lst vs), W.H⟩, rfl, le, E2, ?_, fun b m j s e1 e2 e3 => ?_, N.w0⟩
  · obtain ⟨c, xs', ys, b1, b2, b3, b4, b5⟩ := N.bk
    exact ⟨c, xs', ys, b1, b2, b3, fun b m => by
      show upd W.F a (.lst vs) b = none
      rw [upd_ne (fun z => N.nb b m i _ h1 rfl (by rw [g1, z]))]
      exact b4 b m, b5⟩
  · by_cases z : i = j
    · subst z
      have hi : i < ρ.length := (List.getElem?_eq_some_iff.mp h1).1
      rw [List.getElem?_set_self hi] at e1
      rw [← Option.some.inj e1] at e2
      cases e2
    · rw [List.getElem?_set_ne z] at e1
      exact N.nb b m j s e1 e2 e3
theorem nr_freeze {α : Type} [Rep α] {sts : List Stmt} {xs : List α} {m : Mi R} (i : Nat) (h : NRX X Γ W0 B K sts (ρ.set i (fz xs)) m) (h1 : ρ[i]? = some (.owL xs) := by rfl) : NRX X Γ W0 B K sts ρ m := ⟨fun n P hm W σ N D q => by
  obtain ⟨W2, e, le, N2⟩ := N.freeze h1
  rw [← e]
  exact h.run n P hm W2 σ N2 D fun r n' v W3 hp l0 le2 ok bk i => q r n' v W3 hp l0 (le.trans le2) ok bk i⟩
theorem nb_freeze {α β : Type} [Rep α] {sts : List Stmt} {xs : List α} {m : Mi β} {ρ' : β → List Slot} (i : Nat) (h : NBX X Γ W0 B sts (ρ.set i (fz xs)) m ρ') (h1 : ρ[i]? = some (.owL xs) := by rfl) : NBX X Γ W0 B sts ρ m ρ' := ⟨fun n P hm W σ N D q => by
  obtain ⟨W2, e, le, N2⟩ := N.freeze h1
  rw [← e]
  exact h.run n P hm W2 σ N2 D fun b n' W3 σ3 hp le2 N3 => q b n' W3 σ3 hp (le.trans le2) N3⟩
theorem ng_freeze {α S : Type} [Rep α] {sts : List Stmt} {xs : List α} {m : Mi (Out S R)} {ρ' : S → List Slot} (i : Nat) (h : NGX X Γ W0 B K sts (ρ.set i (fz xs)) m ρ') (h1 : ρ[i]? = some (.owL xs) := by rfl) : NGX X Γ W0 B K sts ρ m ρ' := ⟨fun n P hm W σ N D q => by
  obtain ⟨W2, e, le, N2⟩ := N.freeze h1
  rw [← e]
  exact h.run n P hm W2 σ N2 D fun o n' hq => (q o n' hq).mono le⟩
/-! loops that may return -/
def loopN {S R α : Type} (f : S → α → Mi (Out S R)) : S → List α → Mi (Out S R)
  | s, [] => ret (.nx s)
  | s, x :: xs => bnd (f s x) fun o => match o with
    | .nx s' => loopN f s' xs
    | .rt r => ret (.rt r)
    | .bk s' => ret (.bk s')
/-- the item's iterable may draw ahead of the loop: it is a call -/
structure NIX (X : Cx) (Γ : Cs) (W0 : Wd) (B : Bx) (tg iter : Expr) (ρ : List Slot) {α : Type} [Rep α] (m : Mi (List α)) : Prop where
  run : ∀ n P, m n P → ∀ W σ, NEnv Γ W0 B W ρ σ n → ∀ R : It → Hp → Prop, (∀ xs n' J W2, P xs n' → WB B W W2 → HLe W2.F W2.H → Bok B W2 n' → Walks Γ W0 J W2.F xs → R J W2.H) → wpI X tg iter σ W.H R
theorem IX.n {α : Type} [Rep α] {tg iter : Expr} {m : Option (List α)} (h : IX X Γ W0 tg iter ρ m) : NIX X Γ W0 B tg iter ρ (opt m) := ⟨fun n P ⟨x, hm, hp⟩ W σ N R k => h.run x hm W σ N.E R fun J W2 le ok w => k x n J W2 hp (.of le) ok (N.bk.le le) w⟩
theorem niw_list {α : Type} [Rep α] {tg e : Expr} {m : Mi (List α)} (h : NX X Γ W0 B e ρ m) : NIX X Γ W0 B tg e ρ m := ⟨fun n P hm W σ N R k => by
  refine wi_of (pi_list pe_wp) ?_
  refine h.run n P hm W σ N _ fun xs n' v W2 hp wb ok bk ⟨a, vs, e1, e2, e3⟩ => ?_
  refine ⟨a, e1, ⟨vs, SqL.of (ok.lst e2)⟩, k xs n' _ W2 hp wb ok bk fun W3 _ hF ok3 i => ?_⟩
  have q := ok3.lst (hF.lst e2)
  have hl := Paired.length e3
  refine ⟨fun hi => ⟨vs, SqL.of q, by omega⟩, fun x hx => ?_⟩
  have hi : i < xs.length := (List.getElem?_eq_some_iff.mp hx).1
  have hv : vs[i]? = some (vs[i]'(by omega)) := List.getElem?_eq_getElem (by omega)
  refine ⟨⟨vs, _, SqL.of q, hv⟩, fun v H' ⟨g1, g2⟩ => ⟨W3, g1.symm, .refl, ok3, ?_⟩⟩
  have e4 := g2 vs (SqL.of q)
  rw [hv] at e4
  rw [← Option.some.inj e4]
  exact Rep.mono hF (e3.at hv hx)⟩
def outN {S R T : Type} (k : S → Mi (Out T R)) : Out S R → Mi (Out T R)
  | .nx s => k s
  | .rt r => ret (.rt r)
  | .bk s => k s
def outR {S R : Type} (k : S → Mi R) : Out S R → Mi R
  | .nx s => k s
  | .rt r => ret r
  | .bk s => k s
/-- the loop's turn, for both kinds of what follows -/
theorem n_turns {α S : Type} [Rep α] {tg iter : Expr} {body : List Stmt} {pos : Pos} {g : TG} {put : List Slot → α → List Slot} {vs : List Nat} {ml : Mi (List α)} {f : S → α → Mi (Out S R)} {s0 : S} {ρL : S → List Slot}
    (hi : NIX X Γ W0 B tg iter ρ ml) (hg : PG X tg g) (ts : TgS Γ g put vs) (nr : ∀ s x, noRd (put (ρL s) x) = true) (hb : ∀ s x, NGX X Γ W0 B K body (put (ρL s) x) (f s x) ρL) (hp : PassesOwn (model X.prog X.w) X.A X.env X.xe) (hc : X.calm = true) (h0 : Weak ρ (ρL s0)) (hs : ∀ x, foldedSetIterable iter X.env x = pure x)
    {n : Nat} {P : Out S R → Nat → Prop} (hm : ml n fun xs n' => loopN f s0 xs n' P) {W : Wd} {σ : St} (N : NEnv Γ W0 B W ρ σ n) {D : Ends}
    (kn : ∀ s n' W2 σ2, (P (.nx s) n' ∨ P (.bk s) n') → HLe W.F W2.F → NEnv Γ W0 B W2 (ρL s) σ2 n' → D.nx σ2 W2.H) (kr : ∀ r n' v W2, P (.rt r) n' → W0.le W2 → HLe W.F W2.F → HLe W2.F W2.H → Bok B W2 n' → K v W2 r → D.rt v W2.H) : wpS X (.For tg iter body [] pos) D σ W.H := by
  refine ws_of (ps_for hp hc pi_wp hg pss_wp hs) ?_
  refine hi.run n _ hm W σ N _ fun xs n1 J W2 h1 wb ok bk hw => ?_
  refine ⟨fun i m σ' H' => m = xs.length - i ∧ i ≤ xs.length ∧ ∃ W3 s n3, W3.H = H' ∧ HLe W2.F W3.F ∧ NEnv Γ W0 B W3 (ρL s) σ' n3 ∧ loopN f s (xs.drop i) n3 P, ⟨xs.length, by omega, Nat.zero_le _, W2, s0, n1, rfl, .refl, (N.mono wb ok bk).weak h0, h1⟩, ?_⟩
  rintro i m σ' H' ⟨rfl, hi', W3, s, n3, rfl, hF, N3, h3⟩
  obtain ⟨w1, w2⟩ := hw W3 N3.E.le hF N3.E.ok i
  by_cases hlt : i < xs.length
  · have hx : xs[i]? = some xs[i] := List.getElem?_eq_getElem hlt
    obtain ⟨go, w3⟩ := w2 _ hx
    rw [drop_at hx] at h3
    refine .inr ⟨go, fun σ4 H4 => i + 1 ≤ xs.length ∧ ∃ W4 s n4, W4.H = H4 ∧ HLe W2.F W4.F ∧ NEnv Γ W0 B W4 (ρL s) σ4 n4 ∧ loopN f s (xs.drop (i + 1)) n4 P, fun σ4 H4 ⟨l4, k4⟩ => ⟨xs.length - (i + 1), by omega, rfl, l4, k4⟩, fun v H4 y => ?_⟩
    obtain ⟨W4, rfl, le4, ok4, is4⟩ := w3 v H4 y
    refine TgS.n ts (N3.le le4 ok4) is4 (nr s _) fun σ5 N5 _ => ?_
    refine (hb s xs[i]).run n3 _ h3 W4 σ5 N5 _ fun o n' hq => ?_
    cases o with
    | nx s' => exact fun W6 σ6 le6 N6 => ⟨⟨hlt, W6, s', n', rfl, (hF.trans le4.f).trans le6, N6, hq⟩, ⟨hlt, W6, s', n', rfl, (hF.trans le4.f).trans le6, N6, hq⟩⟩
    | rt r => exact fun v W6 l0 le6 ok6 bk6 i6 => kr r n' v W6 hq l0 (((wb.f.trans hF).trans le4.f).trans le6) ok6 bk6 i6
    | bk s' => exact fun W6 σ6 le6 N6 => kn s' n' W6 σ6 (.inr hq) (((wb.f.trans hF).trans le4.f).trans le6) N6
  · have e : i = xs.length := by omega
    subst e
    rw [List.drop_length] at h3
    exact .inl ⟨w1 (Nat.le_refl _), kn s n3 W3 σ' (.inl h3) (wb.f.trans hF) N3⟩
theorem nr_forR {α S : Type} [Rep α] {tg iter : Expr} {body rest : List Stmt} {pos : Pos} {g : TG} {put : List Slot → α → List Slot} {vs : List Nat} {ml : Mi (List α)} {f : S → α → Mi (Out S R)} {s0 : S} {ρL : S → List Slot} {k : S → Mi R}
    (hi : NIX X Γ W0 B tg iter ρ ml) (hg : PG X tg g) (ts : TgS Γ g put vs) (hb : ∀ s x, NGX X Γ W0 B K body (put (ρL s) x) (f s x) ρL) (hr : ∀ s, NRX X Γ W0 B K rest (ρL s) (k s)) (hp : PassesOwn (model X.prog X.w) X.A X.env X.xe) (hc : X.calm = true := by rfl)
    (h0 : Weak ρ (ρL s0) := by repeat (first | exact Weak.nil | refine Weak.keep ?_ | refine Weak.drop ?_)) (hs : ∀ x, foldedSetIterable iter X.env x = pure x := by intro _; rfl) (nr : ∀ s x, noRd (put (ρL s) x) = true := by intro _ _; rfl) :
    NRX X Γ W0 B K (.For tg iter body [] pos :: rest) ρ (bnd ml fun xs => bnd (loopN f s0 xs) fun o => outR k o) := ⟨fun n P hm W σ N D q => by
  refine wss_of (pss_cons ps_wp pss_wp) ?_
  refine n_turns hi hg ts nr hb hp hc h0 hs hm N (fun s n' W2 σ2 hq le N2 => ?_) fun r n' v W2 hq l0 le ok bk i => q r n' v W2 hq l0 le ok bk i
  have hq' : k s n' P := by rcases hq with h | h <;> exact h
  exact (hr s).run n' P hq' W2 σ2 N2 D fun r n2 v W3 h2 l0 le2 ok bk i => q r n2 v W3 h2 l0 (le.trans le2) ok bk i⟩
theorem ng_forR {α S T : Type} [Rep α] {tg iter : Expr} {body rest : List Stmt} {pos : Pos} {g : TG} {put : List Slot → α → List Slot} {vs : List Nat} {ml : Mi (List α)} {f : S → α → Mi (Out S R)} {s0 : S} {ρL : S → List Slot} {k : S → Mi (Out T R)} {ρ' : T → List Slot}
    (hi : NIX X Γ W0 B tg iter ρ ml) (hg : PG X tg g) (ts : TgS Γ g put vs) (hb : ∀ s x, NGX X Γ W0 B K body (put (ρL s) x) (f s x) ρL) (hr : ∀ s, NGX X Γ W0 B K rest (ρL s) (k s) ρ') (hp : PassesOwn (model X.prog X.w) X.A X.env X.xe) (hc : X.calm = true := by rfl)
    (h0 : Weak ρ (ρL s0) := by repeat (first | exact Weak.nil | refine Weak.keep ?_ | refine Weak.drop ?_)) (hs : ∀ x, foldedSetIterable iter X.env x = pure x := by intro _; rfl) (nr : ∀ s x, noRd (put (ρL s) x) = true := by intro _ _; rfl) :
    NGX X Γ W0 B K (.For tg iter body [] pos :: rest) ρ (bnd ml fun xs => bnd (loopN f s0 xs) fun o => outN k o) ρ' := ⟨fun n P hm W σ N D q => by
  refine wss_of (pss_cons ps_wp pss_wp) ?_
  refine n_turns hi hg ts nr hb hp hc h0 hs hm N (fun s n' W2 σ2 hq le N2 => ?_) fun r n' v W2 hq l0 le ok bk i => q (.rt r) n' hq v W2 l0 le ok bk i
  have hq' : k s n' P := by rcases hq with h | h <;> exact h
  exact (hr s).run n' P hq' W2 σ2 N2 D fun o n2 h2 => (q o n2 h2).mono le⟩
end
end SR
end
section
set_option Elab.async false
set_option linter.all false
set_option maxRecDepth 100000
set_option maxHeartbeats 4000000
namespace SR
open PySem PySem.Spec PyProof.Rows L2

/-- an address that is handed on -/
structure Ptr where
  a : Addr
instance : Rep Ptr := ⟨fun _ _ v x => v = .ref x.a, fun _ h => h⟩
/-- the promise of a def that draws from the box -/
def sn1 (Γ : Cs) {α R : Type} [Rep α] (K : Wd → RK R) (f : α → Mi R) : Sp := fun vs H Q _ => ∃ (W : Wd) (B : Bx) (n : Nat) (v1 : V) (x1 : α) (P : R → Nat → Prop), vs = [.ref B.b, v1] ∧ W.H = H ∧ HLe W.F W.H ∧ Bok B W n ∧ Is Γ W.F v1 x1 ∧ f x1 n P ∧
  ∀ r n' w W2, P r n' → WB B W W2 → HLe W2.F W2.H → Bok B W2 n' → K W w W2 r → Q w W2.H
section
variable {X : Cx} {Γ : Cs} {W0 : Wd} {B : Bx} {ρ : List Slot}
theorem n_box1 {α R : Type} [Rep α] [Rep R] {es e1 : Expr} {m1 : Mi α} {f : α → Mi R} {nm : Str} {p pos : Pos} {k j : Nat} (c : CalF X.prog X.w X.K X.mg X.base k nm (sn1 Γ (fun _ => kF Γ) f)) (hr : Room j X.A) (hb : EX X Γ W0 es ρ (some (Ptr.mk B.b))) (h1 : NX X Γ W0 B e1 ρ m1) (hk : k ≤ j := by decide) (hg : Gl X nm := by rfl)
    (hp : Room k X.A → Gl X nm → ∀ {fa : Addr} {fd : FuncData} {ps : List Str} {sp : Sp}, FnOk X.prog X.w X.K X.mg X.base CX0 k fa fd ps sp → X.mg nm = some (.ref fa) → PySem.W.keepIn X.K (.ref fa) = true → Binds X.K fd ps [] → PE X (.Call (.Name nm p) [es, e1] [] pos) (tCall sp [] E0 (tCons (wpE X es) (tCons (wpE X e1) tNil))) := by intro r g _ _ _ _ F a b c; exact pe_call F r g a b c .nil pass0 (pa_cons pe_wp (pa_cons pe_wp pa_nil))) :
    NX X Γ W0 B (.Call (.Name nm p) [es, e1] [] pos) ρ (bnd m1 f) := ⟨fun n P hm W σ N Q k => by
  obtain ⟨fa, fd, ps, F, c1, c2, c3⟩ := c.ex
  refine wp_of (hp (hr.mono hk) hg F c1 c2 c3) ?_
  refine hb.run _ rfl W σ N.E _ fun v0 W1 le0 ok0 i0 => ?_
  have e0 : v0 = .ref B.b := i0
  subst e0
  refine h1.run n _ hm W1 σ (N.le le0 ok0) _ fun x1 n1 v1 W2 g1 wb1 ok1 bk1 i1 => ?_
  exact ⟨W2, B, n1, v1, x1, P, rfl, rfl, ok1, bk1, i1, g1, fun r n' w W3 hp wb2 ok2 bk2 i2 => k r n' w W3 hp (((WB.of le0).trans wb1).trans wb2) ok2 bk2 i2⟩⟩
end
/-- what stood, without the box -/
theorem cutB (B : Bx) (W : Wd) : ∃ W0 : Wd, W0.F = W.F ∧ (∀ a, Mv B a → W0.H a = none) ∧ ∀ a, ¬ Mv B a → W0.H a = W.H a := by
  refine ⟨⟨W.F, fun a => @ite _ (Mv B a) (Classical.propDecidable _) none (W.H a)⟩, rfl, fun a m => ?_, fun a m => ?_⟩
  · show @ite _ _ (Classical.propDecidable _) _ _ = _
    rw [if_pos m]
  · show @ite _ _ (Classical.propDecidable _) _ _ = _
    rw [if_neg m]
theorem cut_le {B : Bx} {W W0 : Wd} (h1 : W0.F = W.F) (h2 : ∀ a, Mv B a → W0.H a = none) (h3 : ∀ a, ¬ Mv B a → W0.H a = W.H a) : W0.le W := by
  refine ⟨fun a o e => ?_, h1 ▸ .refl, fun a _ e => h1 ▸ e⟩
  have m : ¬ Mv B a := fun m => by rw [h2 a m] at e; cases e
  rw [← h3 a m]
  exact e
theorem cut_wb {B : Bx} {W W0 W2 : Wd} {n : Nat} (bk : Bok B W n) (h1 : W0.F = W.F) (h3 : ∀ a, ¬ Mv B a → W0.H a = W.H a) (le : W0.le W2) {n' : Nat} (bk2 : Bok B W2 n') : WB B W W2 := by
  refine ⟨fun a o m e => le.h a o (by rw [h3 a m]; exact e), h1 ▸ le.f, fun a e1 e2 => ?_, fun a e => ?_⟩
  · rcases Classical.em (Mv B a) with m | m
    · exact bk2.nf m
    · exact le.own a (by rw [h3 a m]; exact e1) (by rw [h1]; exact e2)
  · rcases Classical.em (Mv B a) with m | m
    · exact bk2.there m
    · cases z : W.H a with
      | none => exact absurd z e
      | some o => rw [le.h a o (by rw [h3 a m]; exact z)]; exact (fun z => nomatch z)
section
variable {P : Program} {w : World} {K : PySem.W.Frag} {mg : Str → Option Value} {base : Heap} {N ps : List Str} {nm qual : Str} {params : Arguments} {body : List Stmt} {scope : Scope} {dvs : List V} {kws : List (Str × V)} {fa : Addr} {fd : FuncData} {k : Nat} {Γ : Cs}
theorem bodyN1 {α R : Type} [Rep α] [Rep R] {f : α → Mi R} (F : FunD K nm qual params body scope dvs kws fa fd) (S : FnScope N ps scope) (hl : ps.length = 2) (hN : 2 ≤ N.length)
    (hb : ∀ (x1 : α) (cdv : Value) (A : Around) (outer : List Env) (s : Shared) (H : Hp) (E : XK) (W0 : Wd) (B : Bx), Room k (A.deeper (envOfC qual scope s.heap.objs.size fa cdv)) →
      NRX (cxOf CX0 P w K mg base N qual scope fa cdv A outer s H E).nox Γ W0 B (kF Γ) body (slots N.length [fz (Ptr.mk B.b), fz x1]) (f x1)) : FnOk P w K mg base CX0 (k + 1) fa fd ps (sn1 Γ (fun _ => kF Γ) f) := by
  refine F.ok S (fun vs H Q E h => ?_) (fun cdv A outer s H vs Q E hr h => ?_)
  · obtain ⟨W, B, n, v1, x1, P, rfl, _⟩ := h
    rw [hl]
    rfl
  · obtain ⟨W, B, n, v1, x1, P, rfl, rfl, ok, bk, i1, hm, q⟩ := h
    refine ⟨_, PSs.nox pss_wp, ?_⟩
    obtain ⟨W0, h1, h2, h3⟩ := cutB B W
    have hn : ∀ s ∈ ([fz (Ptr.mk B.b), fz x1] : List Slot), s.own = false := fun s hs => by
      simp only [List.mem_cons, List.not_mem_nil, or_false] at hs
      rcases hs with h | h <;> (subst h; rfl)
    have all : AllP (fun (v : V) (d : Slot) => SlotOk Γ W0 W d (some v)) [.ref B.b, v1] [fz (Ptr.mk B.b), fz x1] := .cons ⟨_, rfl, rfl⟩ (.cons ⟨_, rfl, i1⟩ .nil)
    have NE : NEnv Γ W0 B W (slots N.length [fz (Ptr.mk B.b), fz x1]) (L2.start N [.ref B.b, v1]) n := by
      refine ⟨⟨ok, cut_le h1 h2 h3, by rw [slots_len (by simpa using hN), start_len (by simpa using hN)], fun i s o e1 e2 => slots_at all N i s o e1 e2, fun i j s t a e1 _ e3 => ?_⟩, bk, fun a m i s e1 e2 => ?_, h2⟩
      · rw [slots_own hn e1] at e3
        cases e3
      · rw [slots_own hn e1] at e2
        cases e2
    exact (hb x1 cdv A outer s W.H E W0 B hr).run n P hm W _ NE _ fun r n' v W2 hp le0 leF ok2 bk2 i2 => q r n' v W2 hp (cut_wb bk h1 h3 le0 bk2) ok2 bk2 i2
end
end SR
end
section
set_option Elab.async false
set_option linter.all false
set_option maxRecDepth 100000
set_option maxHeartbeats 4000000
namespace SR
open PySem PySem.Spec PyProof.Rows L2

section
variable {X : Cx} {Γ : Cs} {W0 : Wd} {B : Bx} {ρ : List Slot}
/-- the box is written -/
theorem NEnv.box {W : Wd} {σ : St} {n n' : Nat} {a : Addr} {o : HO} (N : NEnv Γ W0 B W ρ σ n) (m : Mv B a) (bk : Bok B ⟨W.F, upd W.H a o⟩ n') : NEnv Γ W0 B ⟨W.F, upd W.H a o⟩ ρ σ n' := by
  refine N.mono ⟨fun b u nm e => ?_, .refl, fun b _ e => e, fun b e => ?_⟩ (HLe.poke N.E.ok (N.bk.nf m)) bk
  · show upd W.H a o b = some u
    rw [upd_ne (fun z => nm (by rw [z]; exact m))]
    exact e
  · show upd W.H a o b ≠ none
    by_cases z : b = a
    · rw [z, upd_same]; exact (fun z => nomatch z)
    · rw [upd_ne z]; exact e
theorem nb3 (i : Nat) {nm : Str} {p p2 pos : Pos} {jj : Nat} (h : ρ[i]? = some (fz (Ptr.mk B.b)) := by rfl) (hN : X.N[i]? = some nm := by rfl)
    (hv : Vis X.env.scope nm := by first | exact Or.inl rfl | exact Or.inr (Or.inl rfl) | exact Or.inr (Or.inr rfl)) (hd : (nm == ("__debug__" : Str)) = false := by decide)
    (hcd : (nm == ("__classdict__" : Str)) = false := by decide) (hs : PlainIx (.Constant (.int 3) jj p2) := by intro _ _; rfl) : NX X Γ W0 B (.Subscript (.Name nm p) (.Constant (.int 3) jj p2) pos) ρ (fun n P => P (n : Int) n) := ⟨fun n P hm W σ N Q k => by
  obtain ⟨v, g1, g2⟩ := N.E.get h
  have e : v = .ref B.b := g2
  subst e
  obtain ⟨c, xs, ys, b1, b2⟩ := id N.bk
  refine wp_of (pe_ix ix_list (pv i hN hv hd hcd) pe_int hs) ⟨_, g1, B.b, _, 3, .int n, rfl, rfl, SqL.of b1, rfl, ?_⟩
  exact k n n _ W hm .refl N.E.ok N.bk rfl⟩
theorem nb1 (i : Nat) {nm : Str} {p p2 pos : Pos} {jj : Nat} (h : ρ[i]? = some (fz (Ptr.mk B.b)) := by rfl) (hN : X.N[i]? = some nm := by rfl)
    (hv : Vis X.env.scope nm := by first | exact Or.inl rfl | exact Or.inr (Or.inl rfl) | exact Or.inr (Or.inr rfl)) (hd : (nm == ("__debug__" : Str)) = false := by decide)
    (hcd : (nm == ("__classdict__" : Str)) = false := by decide) (hs : PlainIx (.Constant (.int 1) jj p2) := by intro _ _; rfl) : NX X Γ W0 B (.Subscript (.Name nm p) (.Constant (.int 1) jj p2) pos) ρ (fun n P => ∀ c : Int, 0 ≤ c → P c n) := ⟨fun n P hm W σ N Q k => by
  obtain ⟨v, g1, g2⟩ := N.E.get h
  have e : v = .ref B.b := g2
  subst e
  obtain ⟨c, xs, ys, b1, b2, b3, b4, b5, b6, b7, b8, b9⟩ := id N.bk
  refine wp_of (pe_ix ix_list (pv i hN hv hd hcd) pe_int hs) ⟨_, g1, B.b, _, 1, .int c, rfl, rfl, SqL.of b1, rfl, ?_⟩
  exact k c n _ W (hm c b8) .refl N.E.ok N.bk rfl⟩
/-- box[3] = e -/
theorem ns3 {e : Expr} (i : Nat) {nm : Str} {np sp_ p2 pos : Pos} {jj : Nat} {m : Mi Int} (he : NX X Γ W0 B e ρ m) (h : ρ[i]? = some (fz (Ptr.mk B.b)) := by rfl) (hN : X.N[i]? = some nm := by rfl)
    (hp : X.N[i]? = some nm → PS X (.Assign [.Subscript (.Name nm np) (.Constant (.int 3) jj p2) sp_] e pos) (tAsg (wpE X e) (gSub (tVar i) (fun _ H Q => Q (.int 3) H) rSetL)) := by intro hN; exact ps_asg pe_wp (pg_sub (pv _ hN) pe_int set_list)) :
    NSX X Γ W0 B (.Assign [.Subscript (.Name nm np) (.Constant (.int 3) jj p2) sp_] e pos) ρ (fun n P => m n fun v n1 => v = (n1 : Int) + 1 ∧ P () (n1 + 1)) (fun _ => ρ) := ⟨fun n P hm W σ N D k => by
  refine ws_of (hp hN) ?_
  refine he.run n _ hm W σ N _ fun x n1 v W2 ⟨h1, h2⟩ wb ok bk i1 => ?_
  have ev : v = .int x := i1
  subst ev h1
  have N2 := N.mono wb ok bk
  obtain ⟨v, g1, g2⟩ := N2.E.get h
  have e : v = .ref B.b := g2
  subst e
  obtain ⟨c, xs, ys, b1, b2, b3, b4, b5, b6, b7, b8⟩ := id bk
  refine ⟨_, g1, B.b, _, 3, 3, rfl, rfl, b1, rfl, ?_⟩
  refine k () (n1 + 1) ⟨W2.F, upd W2.H B.b _⟩ σ h2 wb.f (N2.box (.inl rfl) ⟨c, xs, ys, upd_same, ?_, ?_, b4, b5, b6, b7, b8⟩)
  · show upd W2.H B.b _ B.l = _
    rw [upd_ne (Ne.symm b5)]
    exact b2
  · show upd W2.H B.b _ B.r = _
    rw [upd_ne (Ne.symm b6)]
    exact b3⟩
/-- box[1] = e -/
theorem ns1 {e : Expr} (i : Nat) {nm : Str} {np sp_ p2 pos : Pos} {jj : Nat} {m : Mi Int} (he : NX X Γ W0 B e ρ m) (h : ρ[i]? = some (fz (Ptr.mk B.b)) := by rfl) (hN : X.N[i]? = some nm := by rfl)
    (hp : X.N[i]? = some nm → PS X (.Assign [.Subscript (.Name nm np) (.Constant (.int 1) jj p2) sp_] e pos) (tAsg (wpE X e) (gSub (tVar i) (fun _ H Q => Q (.int 1) H) rSetL)) := by intro hN; exact ps_asg pe_wp (pg_sub (pv _ hN) pe_int set_list)) :
    NSX X Γ W0 B (.Assign [.Subscript (.Name nm np) (.Constant (.int 1) jj p2) sp_] e pos) ρ (fun n P => m n fun v n1 => 0 ≤ v ∧ P () n1) (fun _ => ρ) := ⟨fun n P hm W σ N D k => by
  refine ws_of (hp hN) ?_
  refine he.run n _ hm W σ N _ fun x n1 v W2 ⟨h1, h2⟩ wb ok bk i1 => ?_
  have ev : v = .int x := i1
  subst ev
  have N2 := N.mono wb ok bk
  obtain ⟨v, g1, g2⟩ := N2.E.get h
  have e : v = .ref B.b := g2
  subst e
  obtain ⟨c, xs, ys, b1, b2, b3, b4, b5, b6, b7, b8, b9⟩ := id bk
  refine ⟨_, g1, B.b, _, 1, 1, rfl, rfl, b1, rfl, ?_⟩
  refine k () n1 ⟨W2.F, upd W2.H B.b _⟩ σ h2 wb.f (N2.box (.inl rfl) ⟨x, xs, ys, upd_same, ?_, ?_, b4, b5, b6, b7, h1, b9⟩)
  · show upd W2.H B.b _ B.l = _
    rw [upd_ne (Ne.symm b5)]
    exact b2
  · show upd W2.H B.b _ B.r = _
    rw [upd_ne (Ne.symm b6)]
    exact b3⟩
abbrev tBx (K : PySem.W.Frag) (i : Nat) (k : Int) : TE := tOp (rIxL K) (tVar i) (tC (.int k))
abbrev tLen (K : PySem.W.Frag) (t : TE) : TE := tCB (fun xs H Q => ∃ p ys, xs = [.ref p] ∧ (SqL K H p ys ∨ SqT K H p ys) ∧ Q (.int ys.length) H) (tCons t tNil)
/-- if box[1] == 0 and len(box[0]) > 0: box[1] = box[0].pop(0) -/
theorem nspop {st : Stmt} (i : Nat) {nm : Str} (hM : X.mg "len" = none) (h : ρ[i]? = some (fz (Ptr.mk B.b)) := by rfl) (hN : X.N[i]? = some nm := by rfl)
    (hp : X.N[i]? = some nm → X.mg "len" = none → PS X st (tIfS (tAnd (tTest (tOp rEq (tBx X.K i 1) (tC (.int 0)))) (tTest (tOp (rI0 fun i j => .bl (decide (j < i))) (tLen X.K (tBx X.K i 0)) (tC (.int 0))))) (tAsg (tBM X.K "list" rPopAt (tBx X.K i 0) (tCons (tC (.int 0)) tNil)) (gSub (tVar i) (tC (.int 1)) rSetL)) tNext) := by
      intro hN hM; exact ps_if (PW.pt (pw_and (pt_cmpR op_eq (pe_ix ix_list (pv _ hN) pe_int (by intro _ _; rfl)) pe_int (by first | exact nomark _ | rfl)) (pw_and1 (pt_cmpR op_gt (pe_callB call_len_seq rfl hM PySem.boot_len (pa_cons (pe_ix ix_list (pv _ hN) pe_int (by intro _ _; rfl)) pa_nil)) pe_int (by first | exact nomark _ | rfl)))))
        (pss_one (ps_asg (pe_bm PySem.F.plainAttrs_list PySem.F.slot_list_pop PySem.F.type_list_pop mt_popAt (pe_ix ix_list (pv _ hN) pe_int (by intro _ _; rfl)) (pa_cons pe_int pa_nil)) (pg_sub (pv _ hN) pe_int set_list))) pss_nil) :
    NSX X Γ W0 B st ρ (ret ()) (fun _ => ρ) := ⟨fun n P hm W σ N D k => by
  refine ws_of (hp hN hM) ?_
  obtain ⟨v, g1, g2⟩ := N.E.get h
  have e : v = .ref B.b := g2
  subst e
  obtain ⟨c, xs, ys, b1, b2, b3, b4, b5, b6, b7, b8, b9, b10, b11⟩ := id N.bk
  refine ⟨_, g1, B.b, _, 1, .int c, rfl, rfl, SqL.of b1, rfl, ?_⟩
  refine ⟨rfl, _, rfl, ?_⟩
  by_cases hc : c = 0
  · rw [decide_eq_true (show V.int c = V.int 0 by rw [hc])]
    refine iteT ⟨_, g1, B.b, _, 0, .ref B.l, rfl, rfl, SqL.of b1, rfl, B.l, _, rfl, .inl (SqL.of b2), ?_⟩
    refine ⟨_, _, rfl, rfl, _, rfl, ?_⟩
    cases xs with
    | nil => exact iteF (k () n W σ hm .refl N)
    | cons x xs =>
      rw [decide_eq_true (show (0 : Int) < (((x :: xs).map V.int).length : Nat) by simp)]
      refine iteT ⟨_, g1, B.b, _, 0, .ref B.l, rfl, rfl, SqL.of b1, rfl, .inl ⟨rfl, _, SqL.of b2⟩, ?_⟩
      refine ⟨B.l, _, 0, 0, .int x, rfl, rfl, b2, by decide, by decide, seqIndex_of (by decide) (by simp), rfl, ?_⟩
      have N1 : NEnv Γ W0 B ⟨W.F, upd W.H B.l (.lst (((x :: xs).map V.int).eraseIdx 0))⟩ ρ σ n := N.box (.inr (.inl rfl)) ⟨c, xs, ys, by
        show upd W.H B.l _ B.b = _
        rw [upd_ne b5]
        exact b1, upd_same, by
        show upd W.H B.l _ B.r = _
        rw [upd_ne (Ne.symm b7)]
        exact b3, b4, b5, b6, b7, b8, fun y hy => b9 y (List.mem_cons_of_mem _ hy), by simp at b10; omega, b11⟩
      have b1' : upd W.H B.l (.lst (((x :: xs).map V.int).eraseIdx 0)) B.b = some (.lst [.ref B.l, .int c, .ref B.r, .int n]) := by
        rw [upd_ne b5]
        exact b1
      refine ⟨_, g1, B.b, _, 1, 1, rfl, rfl, b1', rfl, ?_⟩
      refine k () n ⟨W.F, upd (upd W.H B.l (.lst (((x :: xs).map V.int).eraseIdx 0))) B.b _⟩ σ hm .refl (N1.box (.inl rfl) ⟨x, xs, ys, upd_same, ?_, ?_, b4, b5, b6, b7, b9 x List.mem_cons_self, fun y hy => b9 y (List.mem_cons_of_mem _ hy), by simp at b10; omega, b11⟩)
      · show upd (upd W.H B.l _) B.b _ B.l = _
        rw [upd_ne (Ne.symm b5), upd_same]
        rfl
      · show upd (upd W.H B.l _) B.b _ B.r = _
        rw [upd_ne (Ne.symm b6), upd_ne (Ne.symm b7)]
        exact b3
  · rw [decide_eq_false (show ¬ V.int c = V.int 0 from fun q => hc (by injection q))]
    exact iteF (iteF (k () n W σ hm .refl N))⟩
/-- 11 * box[3] if box[2] == [] else box[2][int(box[3]) % len(box[2])] -/
theorem nbcell {e : Expr} (i : Nat) {nm : Str} {j : Nat} (hr : Room j X.A) (hM : X.mg "len" = none) (hI : X.mg "int" = none) (h : ρ[i]? = some (fz (Ptr.mk B.b)) := by rfl) (hN : X.N[i]? = some nm := by rfl)
    (hp : X.A.units + PySem.W.Datum.depth (List Int) < cLine → X.N[i]? = some nm → X.mg "len" = none → X.mg "int" = none → PE X e (tIf (tTest (tOp (rDt X.K false (List Int)) (tBx X.K i 2) (tLst tNil))) (tOp (rI CMul fun i j => .int (i * j)) (tC (.int 11)) (tBx X.K i 3)) (tOp (rIxL X.K) (tBx X.K i 2) (tOp (rI (fun _ j => 0 < j) fun i j => .int (i % j)) (tCB (fun xs H Q => (∃ i, xs = [.int i] ∧ Q (.int i) H) ∨ ∃ k, xs = [.bl k] ∧ Q (.int (if k then 1 else 0)) H) (tCons (tBx X.K i 3) tNil)) (tLen X.K (tBx X.K i 2))))) := by
      intro hu hN hM hI; exact pe_ifExp (pt_cmpR (op_eqDt hu) (pe_ix ix_list (pv _ hN) pe_int (by intro _ _; rfl)) (pe_lst pa_nil) (by first | exact nomark _ | rfl)) (pe_op op_mul pe_int (pe_ix ix_list (pv _ hN) pe_int (by intro _ _; rfl)))
        (pe_ix ix_list (pe_ix ix_list (pv _ hN) pe_int (by intro _ _; rfl)) (pe_op op_mod (pe_callTy call_int1 rfl hI (by decide +kernel) (pa_cons (pe_ix ix_list (pv _ hN) pe_int (by intro _ _; rfl)) pa_nil)) (pe_callB call_len_seq rfl hM PySem.boot_len (pa_cons (pe_ix ix_list (pv _ hN) pe_int (by intro _ _; rfl)) pa_nil))) (by intro _ _; rfl))) :
    NX X Γ W0 B e ρ (fun n P => ∀ c : Int, P c n) := ⟨fun n P hm W σ N Q k => by
  have hu : X.A.units + PySem.W.Datum.depth (List Int) < cLine := by
    have := hr.units
    have e : PySem.W.Datum.depth (List Int) = 1 := rfl
    omega
  refine wp_of (hp hu hN hM hI) ?_
  obtain ⟨v, g1, g2⟩ := N.E.get h
  have e : v = .ref B.b := g2
  subst e
  obtain ⟨c, xs, ys, b1, b2, b3, b4, b5, b6, b7, b8, b9, b10, b11⟩ := id N.bk
  refine ⟨_, g1, B.b, _, 2, .ref B.r, rfl, rfl, SqL.of b1, rfl, by show 0 ≤ sizeLine; exact Nat.zero_le _, fun p hp => ?_⟩
  have le : W.le ⟨W.F, upd W.H p (.lst [])⟩ := .new hp
  have ok2 := ok_new (o := .lst []) N.E.ok hp
  have N2 := N.le le ok2
  have b1' := le.h _ _ b1
  have b3' := le.h _ _ b3
  have dall : ∀ zs : List Int, DpAll X.K (upd W.H p (.lst [])) (zs.map V.int) (zs.map PySem.W.Datum.toD) := by
    intro zs
    induction zs with
    | nil => exact .nil
    | cons z zs ih => exact .cons (.int z) ih
  refine ⟨ys, [], .lst (SqL.of b3') (dall ys), .lst (SqL.of upd_same) .nil, _, rfl, ?_⟩
  rw [if_neg (show ¬ false = true from fun z => nomatch z)]
  cases ys with
  | nil =>
    rw [decide_eq_true rfl]
    refine iteT ⟨_, g1, B.b, _, 3, .int n, rfl, rfl, SqL.of b1', rfl, 11, (n : Int), rfl, rfl, .inl (by decide), ?_⟩
    exact k _ n _ ⟨W.F, upd W.H p _⟩ (hm _) (.of le) ok2 N2.bk rfl
  | cons y ys =>
    rw [decide_eq_false (fun z => nomatch z)]
    refine iteF ⟨_, g1, B.b, _, 2, .ref B.r, rfl, rfl, SqL.of b1', rfl, ?_⟩
    refine ⟨_, g1, B.b, _, 3, .int n, rfl, rfl, SqL.of b1', rfl, .inl ⟨(n : Int), rfl, ?_⟩⟩
    refine ⟨_, g1, B.b, _, 2, .ref B.r, rfl, rfl, SqL.of b1', rfl, B.r, _, rfl, .inl (SqL.of b3'), ?_⟩
    have hpos : (0 : Int) < (((y :: ys).map V.int).length : Nat) := by simp
    refine ⟨_, _, rfl, rfl, hpos, ?_⟩
    have h0 : 0 ≤ (n : Int) % (((y :: ys).map V.int).length : Nat) := Int.emod_nonneg _ (by omega)
    have h1 : (n : Int) % (((y :: ys).map V.int).length : Nat) < (((y :: ys).map V.int).length : Nat) := Int.emod_lt_of_pos _ hpos
    have hk : ((n : Int) % (((y :: ys).map V.int).length : Nat)).toNat < (y :: ys).length := by
      simp only [List.length_map] at h0 h1 ⊢
      omega
    refine ⟨B.r, _, _, .int ((y :: ys)[((n : Int) % (((y :: ys).map V.int).length : Nat)).toNat]'hk), rfl, rfl, SqL.of b3', ?_, ?_⟩
    · have e : ((((n : Int) % (((y :: ys).map V.int).length : Nat)).toNat : Nat) : Int) = (n : Int) % (((y :: ys).map V.int).length : Nat) := Int.toNat_of_nonneg h0
      have q := atI_nat (xs := (y :: ys).map V.int) (j := ((n : Int) % (((y :: ys).map V.int).length : Nat)).toNat) (v := .int ((y :: ys)[((n : Int) % (((y :: ys).map V.int).length : Nat)).toNat]'hk)) (by rw [List.getElem?_map, List.getElem?_eq_getElem hk]; rfl)
      rw [e] at q
      exact q
    · exact k _ n _ ⟨W.F, upd W.H p _⟩ (hm _) (.of le) ok2 N2.bk rfl⟩
end
end SR
end
section
set_option Elab.async false
set_option linter.all false
set_option maxRecDepth 100000
set_option maxHeartbeats 4000000
namespace SR
open PySem PySem.Spec PyProof.Rows L2

section
variable {X : Cx} {Γ : Cs} {W0 : Wd} {B : Bx} {ρ : List Slot}
theorem n_intI {e : Expr} {p pos : Pos} {m : Mi Int} (hM : X.mg "int" = none) (h : NX X Γ W0 B e ρ m) (hg : Gl X "int" := by rfl)
    (hp : Gl X "int" → X.mg "int" = none → PE X (.Call (.Name "int" p) [e] [] pos) (tCB (fun xs H Q => (∃ i, xs = [.int i] ∧ Q (.int i) H) ∨ ∃ k, xs = [.bl k] ∧ Q (.int (if k then 1 else 0)) H) (tCons (wpE X e) tNil)) := by intro hg hM; exact pe_callTy call_int1 hg hM (by decide +kernel) (pa_cons pe_wp pa_nil)) : NX X Γ W0 B (.Call (.Name "int" p) [e] [] pos) ρ m := ⟨fun n P hm W σ N Q k => by
  refine wp_of (hp hg hM) ?_
  refine h.run n P hm W σ N _ fun x n' v W2 hp wb ok bk i1 => ?_
  have e : v = .int x := i1
  subst e
  exact .inl ⟨x, rfl, k x n' (.int x) W2 hp wb ok bk rfl⟩⟩
/-- a body that draws, told anew -/
theorem NRX.to {R : Type} {K : RK R} {sts : List Stmt} {m m' : Mi R} (h : NRX X Γ W0 B K sts ρ m) (hm : ∀ n P, m' n P → m n P) : NRX X Γ W0 B K sts ρ m' := ⟨fun n P q => h.run n P (hm n P q)⟩
theorem NX.to {α : Type} [Rep α] {e : Expr} {m m' : Mi α} (h : NX X Γ W0 B e ρ m) (hm : ∀ n P, m' n P → m n P) : NX X Γ W0 B e ρ m' := ⟨fun n P q => h.run n P (hm n P q)⟩
/-- the script: a list of ints that is tracked or the module's -/
theorem iw_scr {tg : Expr} {a : Addr} {xs : List Int} (i : Nat) {nm : Str} {p : Pos} (hS : SqL X.K W0.H a (xs.map V.int)) (h : ρ[i]? = some (fz (Ptr.mk a)) := by rfl) (hN : X.N[i]? = some nm := by rfl)
    (hv : Vis X.env.scope nm := by first | exact Or.inl rfl | exact Or.inr (Or.inl rfl) | exact Or.inr (Or.inr rfl)) (hd : (nm == ("__debug__" : Str)) = false := by decide)
    (hcd : (nm == ("__classdict__" : Str)) = false := by decide) : IX X Γ W0 tg (.Name nm p) ρ (some xs) := ⟨fun ys hm W σ E R k => by
  have em : xs = ys := Option.some.inj hm
  subst em
  obtain ⟨v, g1, g2⟩ := E.get h
  have e : v = .ref a := g2
  subst e
  refine wi_of (pi_list (pv i hN hv hd hcd)) ⟨_, g1, a, rfl, ⟨_, hS.ext E.le.h⟩, k _ W .refl E.ok fun W3 le3 hF ok3 i => ?_⟩
  have q := hS.ext (show Ext W0.H W3.H from le3.h)
  refine ⟨fun hi => ⟨_, q, by simpa using hi⟩, fun x hx => ?_⟩
  have hv : (xs.map V.int)[i]? = some (.int x) := by rw [List.getElem?_map, hx]; rfl
  refine ⟨⟨_, _, q, hv⟩, fun v H' ⟨g1, g2⟩ => ⟨W3, g1.symm, .refl, ok3, ?_⟩⟩
  have e4 := g2 _ q
  rw [hv] at e4
  exact (Option.some.inj e4).symm⟩
end
theorem lcGo_some {t : Int → Option Bool} {f : Int → Option Int} {T : Int → Bool} (ht : ∀ x, t x = some (T x)) (hf : ∀ x, f x = some x) : ∀ xs : List Int, lcGo t f xs = some (xs.filter T)
  | [] => rfl
  | x :: xs => by
    have ih := lcGo_some ht hf xs
    unfold lcGo
    rw [ht x, hf x, ih]
    cases hT : T x <;> simp [hT]
theorem lcM_ok {t : Int → Option Bool} {f : Int → Option Int} {T : Int → Bool} (ht : ∀ x, t x = some (T x)) (hf : ∀ x, f x = some x) {xs : List Int} (h : xs.length ≤ 63) : lcM t f (some xs) = some (xs.filter T) := by
  unfold lcM
  rw [Option.bind_some, if_pos (by unfold cap; omega), lcGo_some ht hf]
/-- the promise of _law_box -/
def sbox (K : PySem.W.Frag) : Sp := fun vs H Q _ => ∃ (W : Wd) (a : Addr) (xs : List Int), vs = [.ref a] ∧ W.H = H ∧ HLe W.F W.H ∧ SqL K W.H a (xs.map V.int) ∧ xs.length ≤ 63 ∧ ∀ (B : Bx) W2, W.le W2 → HLe W2.F W2.H → Bok B W2 0 → (∀ b, Mv B b → W.H b = none) → Q (.ref B.b) W2.H
def spLaw (K : PySem.W.Frag) : Sp := fun vs H Q _ => ∃ (a : Addr) (xs : List Int), vs = [.ref a] ∧ xs.length ≤ 63 ∧ SqL K H a (xs.map V.int) ∧ ∀ H', Q (.bl true) H'
theorem allInt {Γ : Cs} {F : Hp} : ∀ {vs : List V} {xs : List Int}, IsAll Γ F vs xs → vs = xs.map V.int
  | _, _, .nil => rfl
  | _, _, .cons (a := v) h t => by
    have e : v = .int _ := h
    rw [e, allInt t]
    rfl
section
variable {P : Program} {w : World} {K : PySem.W.Frag} {mg : Str → Option Value} {base : Heap} {N ps : List Str} {nm qual : Str} {params : Arguments} {body : List Stmt} {scope : Scope} {dvs : List V} {kws : List (Str × V)} {fa : Addr} {fd : FuncData} {k : Nat} {Γ : Cs}
theorem bodyBox {e1 e2 : Expr} {j1 j2 : Nat} {p1 p2 q1 q2 : Pos} {T1 T2 : Int → Bool} (F : FunD K nm qual params [.Return (some (.List [e1, .Constant (.int 0) j1 p1, e2, .Constant (.int 0) j2 p2] q1)) q2] scope dvs kws fa fd) (S : FnScope N ps scope) (hl : ps.length = 1) (hN : 1 ≤ N.length)
    (h0 : ∀ x, T1 x = true → 0 ≤ x)
    (hb : ∀ (a : Addr) (xs : List Int) (cdv : Value) (A : Around) (outer : List Env) (s : Shared) (H : Hp) (E : XK) (W0 : Wd), xs.length ≤ 63 → SqL K W0.H a (xs.map V.int) → Room k (A.deeper (envOfC qual scope s.heap.objs.size fa cdv)) →
      OX (cxOf CX0 P w K mg base N qual scope fa cdv A outer s H E).nox Γ W0 e1 (slots N.length [fz (Ptr.mk a)]) (some (xs.filter T1)) ∧ OX (cxOf CX0 P w K mg base N qual scope fa cdv A outer s H E).nox Γ W0 e2 (slots N.length [fz (Ptr.mk a)]) (some (xs.filter T2)))
    (hs1 : ∀ env : Env, starEach [e1, .Constant (.int 0) j1 p1, e2, .Constant (.int 0) j2 p2] env = (false, eval e1 env) :: starEach [.Constant (.int 0) j1 p1, e2, .Constant (.int 0) j2 p2] env := by intro _; rfl)
    (hs2 : ∀ env : Env, starEach [e2, .Constant (.int 0) j2 p2] env = (false, eval e2 env) :: starEach [.Constant (.int 0) j2 p2] env := by intro _; rfl) : FnOk P w K mg base CX0 (k + 1) fa fd ps (sbox K) := by
  refine F.ok S (fun vs H Q E h => ?_) (fun cdv A outer s H vs Q E hr h => ?_)
  · obtain ⟨W, a, xs, rfl, _⟩ := h
    rw [hl]
    rfl
  · obtain ⟨W, a, xs, rfl, rfl, ok, hS, hx, q⟩ := h
    refine ⟨_, PSs.nox pss_wp, ?_⟩
    obtain ⟨o1, o2⟩ := hb a xs cdv A outer s W.H E W hx hS hr
    have E0 := env_start (Γ := Γ) ok (N := N) (vs := [.ref a]) (ds := [fz (Ptr.mk a)]) (.cons ⟨_, rfl, rfl⟩ .nil) (fun s hs => by simp only [List.mem_cons, List.not_mem_nil, or_false] at hs; subst hs; rfl) hN
    refine wss_of (pss_one (ps_ret (pe_lst (pa_cons pe_wp (pa_cons pe_int (pa_cons pe_wp (pa_cons pe_int pa_nil) (hs2 _))) (hs1 _))))) ?_
    refine o1.run _ rfl W _ E0 _ fun l vl W1 le1 ok1 a1 a2 a3 a4 => ?_
    refine o2.run _ rfl W1 _ (E0.mono le1 ok1) _ fun r vr W2 le2 ok2 b1 b2 b3 b4 => ?_
    refine ⟨by show 4 ≤ sizeLine; decide, fun b hb' => ?_⟩
    have e1 := allInt a4
    have e2 := allInt b4
    subst e1 e2
    have l1 := List.length_filter_le T1 xs
    have l2 := List.length_filter_le T2 xs
    have hl2 : W2.H l = some (.lst ((xs.filter T1).map V.int)) := le2.h _ _ a3
    have nbl : b ≠ l := fun z => by rw [z, hl2] at hb'; cases hb'
    have nbr : b ≠ r := fun z => by rw [z, b3] at hb'; cases hb'
    have nlr : l ≠ r := fun z => by rw [z, b1] at a3; cases a3
    have fl : W2.F l = none := le2.own l (by rw [a3]; exact (fun z => nomatch z)) a2
    have hF : ∀ x, Mv ⟨b, l, r⟩ x → W2.F x = none := fun x m => by
      rcases m with m | m | m
      · rw [m]; exact ok2.none_of hb'
      · rw [m]; exact fl
      · rw [m]; exact b2
    refine q ⟨b, l, r⟩ ⟨W2.F, upd W2.H b (.lst [.ref l, .int 0, .ref r, .int 0])⟩ ((le1.trans le2).trans (.new hb')) (ok_new ok2 hb') ⟨0, xs.filter T1, xs.filter T2, upd_same, ?_, ?_, hF, nbl, nbr, nlr, by decide, fun x m => h0 x (List.mem_filter.mp m).2, by omega, by omega⟩ fun x m => ?_
    · show upd W2.H b _ l = _
      rw [upd_ne (Ne.symm nbl)]
      exact hl2
    · show upd W2.H b _ r = _
      rw [upd_ne (Ne.symm nbr)]
      exact b3
    · rcases m with m | m | m
      · rw [m]; exact (le1.trans le2).free hb'
      · rw [m]; exact a1
      · rw [m]; exact le1.free b1
theorem bodyLaw {sv nb sc : Str} {p1 p2 p3 p4 p5 : Pos} {rest : List Stmt} {m : Mi Bool} {kb : Nat} (F : FunD K nm qual params (.Assign [.Name sv p1] (.Call (.Name nb p2) [.Name sc p3] [] p4) p5 :: rest) scope dvs kws fa fd) (S : FnScope N ps scope) (hl : ps.length = 1) (hN : 2 ≤ N.length)
    (c : CalF P w K mg base kb nb (sbox K)) (hk : kb ≤ k) (hdb : (nb == ("__debug__" : Str)) = false) (hm : m 0 fun r _ => r = true)
    (hpre : ∀ (cdv : Value) (A : Around) (outer : List Env) (s : Shared) (H : Hp) (E : XK), PE (cxOf CX0 P w K mg base N qual scope fa cdv A outer s H E).nox (.Name sc p3) (tVar 0) ∧ Gl (cxOf CX0 P w K mg base N qual scope fa cdv A outer s H E).nox nb ∧ PG (cxOf CX0 P w K mg base N qual scope fa cdv A outer s H E).nox (.Name sv p1) (gName 1))
    (hb : ∀ (cdv : Value) (A : Around) (outer : List Env) (s : Shared) (H : Hp) (E : XK) (W0 : Wd) (B : Bx), Room k (A.deeper (envOfC qual scope s.heap.objs.size fa cdv)) →
      NRX (cxOf CX0 P w K mg base N qual scope fa cdv A outer s H E).nox Γ W0 B (kF Γ) rest ((slots N.length [.un]).set 1 (fz (Ptr.mk B.b))) m) : FnOk P w K mg base CX0 (k + 1) fa fd ps (spLaw K) := by
  refine F.ok S (fun vs H Q E h => ?_) (fun cdv A outer s H vs Q E hr h => ?_)
  · obtain ⟨a, xs, rfl, _⟩ := h
    rw [hl]
    rfl
  · obtain ⟨a, xs, rfl, hx, hS, q⟩ := h
    refine ⟨_, PSs.nox pss_wp, ?_⟩
    obtain ⟨h1, h2, h3⟩ := hpre cdv A outer s H E
    have E0 : EnvOk Γ ⟨fun _ => none, H⟩ ⟨fun _ => none, H⟩ (slots N.length [.un]) (L2.start N [.ref a]) := env_start (Γ := Γ) (W := ⟨fun _ => none, H⟩) (fun _ _ e => nomatch e) (N := N) (vs := [.ref a]) (ds := [.un]) (.cons trivial .nil) (fun s hs => by simp only [List.mem_cons, List.not_mem_nil, or_false] at hs; subst hs; rfl) (by show 1 ≤ N.length; omega)
    obtain ⟨fb, fdb, psb, Fb, c1, c2, c3⟩ := c.ex
    refine wss_of (pss_cons (ps_asg (pe_call (E := E) Fb (hr.mono hk) h2 c1 c2 c3 .nil pass0 (pa_cons h1 pa_nil) (hdb := hdb)) h3) pss_wp) ?_
    have g1 : (L2.start N [.ref a])[0]? = some (some (.ref a)) := by
      cases N with
      | nil => simp at hN
      | cons n N => rfl
    refine ⟨_, g1, ⟨fun _ => none, H⟩, a, xs, rfl, rfl, (fun _ _ e => nomatch e), hS, hx, fun B W2 le ok bk fr => ?_⟩
    have E2 := (E0.mono le ok).set (α := Ptr) 1 (v := .ref B.b) (x := ⟨B.b⟩) rfl
    have N2 : NEnv Γ ⟨fun _ => none, H⟩ B W2 ((slots N.length [.un]).set 1 (fz (Ptr.mk B.b))) ((L2.start N [.ref a]).set 1 (some (.ref B.b))) 0 := ⟨E2, bk, fun b mb i s e1 e2 => ?_, fr⟩
    · exact (hb cdv A outer s H E ⟨fun _ => none, H⟩ B hr).run 0 _ hm W2 _ N2 _ fun r n' v W3 hr0 _ _ _ _ i => by
        have e : v = .bl r := i
        subst e hr0
        exact q _
    · exfalso
      by_cases z : 1 = i
      · subst z
        have hi : 1 < (slots N.length [Slot.un]).length := by rw [slots_len (by simp; omega)]; omega
        rw [List.getElem?_set_self hi] at e1
        rw [← Option.some.inj e1] at e2
        cases e2
      · rw [List.getElem?_set_ne z] at e1
        rw [slots_own (fun s hs => by simp only [List.mem_cons, List.not_mem_nil, or_false] at hs; subst hs; rfl) e1] at e2
        cases e2
end
end SR
end
section
set_option Elab.async false
set_option linter.all false
set_option maxRecDepth 100000
set_option maxHeartbeats 4000000
/-! == and != of pairs of an instance with its own == and a truth value: only for pairs that are equal -/
namespace SR
open PySem PySem.Spec PyProof.Rows L2
section
open PySem.SeqAt AutoSeq1 MeetsSeq MeetsSeq2 MeetsSeq3 SeqRoads2
variable {prog : Program} {w : World} {A : Around} {R : Result → Shared → Prop}
/-- != of two tuples whose items are equal one by one -/
theorem tup_ne (l b : Addr) (us vs : Array Value) (n n2 : Nat) (dd dd2 : Option Addr) (sl sl2 : Array (Option Value)) (hsz : us.size = vs.size) (I : Nat → Shared → Prop)
    (go : ∀ i (h1 : i < us.size) (h2 : i < vs.size) s, I i s → wpAny (model prog w) A.in1 (eqBool us[i] vs[i]) (fun r s' => r = true ∧ I (i + 1) s') (fun e s' => R (.error e) s') s)
    (done : ∀ s, I us.size s → R (.ok (.ret (.bool false))) s) {s : Shared} (hl1 : s.heap.get? l = some { cls := .type "tuple", dict := dd, data := .seq us n, slots := sl }) (hb1 : s.heap.get? b = some { cls := .type "tuple", dict := dd2, data := .seq vs n2, slots := sl2 }) (h : I 0 s) :
    wpAny (model prog w) A.in1 (Builtin.«tuple.__ne__» ⟨[.ref l, .ref b], []⟩) (GQ.FinOf prog w A R) (fun e s' => R (.error e) s') s := by
  have f2 := AutoSeq1.sub_tuple_tuple
  have hZ : (us.toList.zip vs.toList).length = us.size := by simp [hsz]
  have h0 := h
  obtain ⟨hp, g, d, tk, os⟩ := s
  wp_walk using wpAny_loadPart' hl1, wpAny_loadPart' hb1, wpAny_forIn_list _ (fun rest b s' => b.1 = none ∧ ∃ i, rest = (us.toList.zip vs.toList).drop i ∧ i ≤ us.size ∧ I i s') _
  case turn =>
    rintro ⟨y, x⟩ rest b s' ⟨hb', i, hz, hi, hI⟩
    have hlt : i < (us.toList.zip vs.toList).length := by
      rcases Nat.lt_or_ge i (us.toList.zip vs.toList).length with h' | h'
      · exact h'
      · rw [List.drop_of_length_le h'] at hz; cases hz
    have h1 : i < us.size := hZ ▸ hlt
    have h2 : i < vs.size := hsz ▸ h1
    rw [List.drop_eq_getElem_cons hlt] at hz
    injection hz with hyx hrest
    have hy : y = us[i] := by have := congrArg Prod.fst hyx; simpa using this
    have hx : x = vs[i] := by have := congrArg Prod.snd hyx; simpa using this
    subst hy hx
    refine wpAny_bind (wpAny_mono (go i h1 h2 s' hI) (fun r s2 q2 => ?_) fun _ _ x => x)
    obtain ⟨hr, q2⟩ := q2
    subst hr
    wp_walk
    exact ⟨rfl, i + 1, hrest, h1, q2⟩
  case fin =>
    rintro ⟨b1, b2⟩ s' ⟨hb', i, hz, hi, hI⟩
    simp only at hb'
    subst hb'
    have hge : us.size ≤ i := by
      rcases Nat.lt_or_ge i (us.toList.zip vs.toList).length with h' | h'
      · rw [List.drop_eq_getElem_cons h'] at hz; cases hz
      · exact hZ ▸ h'
    have hi' : i = us.size := by omega
    have hR : R (.ok (.ret (.bool false))) s' := done s' (hi' ▸ hI)
    wp_walk
    simpa [Builtin.Tuple.tupleCompareSizes, hsz] using hR
  case h =>
    exact ⟨rfl, 0, rfl, Nat.zero_le _, h0⟩
end
section
open GQ
variable {prog : Program} {w : World} {A : Around} {E : Value → Shared → Prop} {s : Shared}
theorem rc_tupNe {l b : Addr} {us vs : Array Value} {Q : Value → Shared → Prop} (hsz : us.size = vs.size) (hu : A.units < cLine) (I : Nat → Shared → Prop)
    (hl : s.heap.IsTuple l us) (hb : s.heap.IsTuple b vs)
    (go : ∀ i (h1 : i < us.size) (h2 : i < vs.size) s, I i s → wpAny (model prog w) A.in1 (eqBool us[i] vs[i]) (fun r s' => r = true ∧ I (i + 1) s') E s)
    (done : ∀ s, I us.size s → Q (.bool false) s) (h : I 0 s) : wpAny (model prog w) A (richCompare .NotEq (.ref l) (.ref b)) Q E s := by
  obtain ⟨⟨cls, dd, data, sl⟩, ho, hc, n, hd⟩ := id hl
  obtain ⟨⟨cls2, dd2, data2, sl2⟩, ho2, hc2, n2, hd2⟩ := id hb
  simp only at hc hd hc2 hd2
  subst hc hd hc2 hd2
  refine wpAny_richCompare_same_room (op := .NotEq) ⟨_, ho, rfl⟩ ⟨_, ho2, rfl⟩ F.slot_tuple_ne (call_here F.slot_tuple_ne ⟨_, ho, rfl⟩ F.entry_tuple_ne (F.args_tuple_ne_2 _ _) ?_) hu
  exact tup_ne (R := wants (fun v s' => v ≠ .notImplemented ∧ Q v s') E) l b us vs n n2 dd dd2 sl sl2 hsz I go (fun s' q => ⟨(fun x => nomatch x), done s' q⟩) ho ho2 h
end
section
variable {X : Cx} {n : Nat} {D : Eqv}
def rNeG (D : Eqv) : R2 := fun x y H Q => D x y H ∧ ∀ H', Ext H H' → Q (.bl false) H'
theorem op_neTup (hD : Mon D) (h : EqG X n D) (hr : Room (n + 1) X.A) : OpR X (compareOp .NotEq) (rNeG (DTup X.K D)) := by
  intro pins s σ H x y v u Q I rx ry hq
  obtain ⟨⟨a, b, xs, ys, rfl, rfl, ha, hb, p⟩, q⟩ := hq
  cases rx
  cases ry
  obtain ⟨its, r, e, z⟩ := I.tuple ha
  obtain ⟨its2, r2, e2, z2⟩ := I.tuple hb
  have hsz : its.toArray.size = its2.toArray.size := by rw [List.size_toArray, List.size_toArray, ← r.length, ← r2.length]; exact p.1
  show wpAny (model X.prog X.w) X.A (richCompare .NotEq _ _) (EP X pins σ Q) X.xe s
  exact rc_tupNe hsz hr.units0 (fun _ s' => LoopI X pins σ H s') e e2 (fun i h1 h2 s' q => turnG hD h ⟨hr, rfl⟩ p r r2 i h1 h2 s' q) (fun s' ⟨H', I', e'⟩ => ⟨.bl false, H', I', rfl, q H' e'⟩) ⟨H, I, Ext.rfl'⟩
end
section
variable {X : Cx} {Γ : Cs} {W0 : Wd} {ρ : List Slot}
/-- the two stand for records that the own == finds equal -/
def REq (Γ : Cs) {R : Type} [Rec R] (f : R → R → Option Bool) : Addr → Addr → Hp → Prop := fun a b H => ∃ (F : Hp) (x y : R), HLe F H ∧ Is Γ F (.ref a) x ∧ Is Γ F (.ref b) y ∧ f x y = some true
def DPB (Γ : Cs) {R : Type} [Rec R] (f : R → R → Option Bool) : Eqv := fun x y H => DIns (Rec.c (R := R) Γ) (REq Γ f) x y H ∨ DFlat x y H
theorem ext_hle {F H H' : Hp} (h : HLe F H) (e : Ext H H') : HLe F H' := fun a o q => let ⟨o', h1, h2⟩ := h a o q; ⟨o', e a o' h1, h2⟩
theorem mon_DPB {R : Type} [Rec R] (f : R → R → Option Bool) : Mon (DPB Γ f) := Mon.or (mon_ins fun a b H H' e ⟨F, x, y, h1, h2⟩ => ⟨F, x, y, ext_hle h1 e, h2⟩) mon_flat
theorem eqG_DPB {R : Type} [Rec R] {f : R → R → Option Bool} {k : Nat} (c : MetF X.prog X.w X.K X.mg X.base k (Rec.c (R := R) Γ) "__eq__" (sp2 Γ (fun _ => kF Γ) f)) : EqG X k (DPB Γ f) := by
  obtain ⟨fa, fd, ps, c0, c1, F, c2, _⟩ := c.ex
  refine EqG.or (eqG_ins (F.imp fun vs H Q E h => ?_) c1.at_ c1.fn c2 (E := E0) pass0) (eqG_flat.mono (Nat.zero_le _))
  obtain ⟨a, b, rfl, ⟨F0, x, y, h1, h2, h3, h4⟩, q⟩ := h
  exact ⟨⟨F0, H⟩, .ref a, .ref b, x, y, true, rfl, rfl, h1, h2, h3, h4, fun w W2 le ok i => by
    have e : w = .bl true := i
    subst e
    exact q _ le.h⟩
def eqPB {R : Type} (f : R → R → Option Bool) (x y : R × Bool) : Option Bool := if f x.1 y.1 = some true ∧ x.2 = y.2 then some true else none
def nePB {R : Type} (f : R → R → Option Bool) (x y : R × Bool) : Option Bool := if f x.1 y.1 = some true ∧ x.2 = y.2 then some false else none
theorem dtup {K : PySem.W.Frag} {R : Type} [Rec R] {f : R → R → Option Bool} {W : Wd} {v u : V} {x y : R × Bool} (ok : HLe W.F W.H) (i1 : Is Γ W.F v x) (i2 : Is Γ W.F u y) (h1 : f x.1 y.1 = some true) (h2 : x.2 = y.2) : DTup K (DPB Γ f) v u W.H := by
  obtain ⟨p, a1, a2, e1, e2, e3, e4⟩ := i1
  obtain ⟨p', b1, b2, g1, g2, g3, g4⟩ := i2
  have q3 : a2 = .bl x.2 := e4
  have q4 : b2 = .bl y.2 := g4
  obtain ⟨c1, dx, fs, k1, k2, k3⟩ := id e3
  obtain ⟨c2, dy, gs, l1, l2, l3⟩ := id g3
  subst k1 l1 q3 q4
  refine ⟨p, p', _, _, e1, g1, SqT.of (ok.tup e2), SqT.of (ok.tup g2), .cons (.inl ⟨c1, c2, dx, dy, fs, gs, rfl, rfl, ok.ins k2, ok.ins l2, W.F, x.1, y.1, ok, e3, g3, h1⟩) (.cons (.inr ?_) .nil)⟩
  rw [h2]
  cases y.2 <;> exact ⟨rfl, rfl, rfl⟩
theorem wle_ext {W : Wd} {H' : Hp} (e : Ext W.H H') : W.le ⟨W.F, H'⟩ := ⟨e, .refl, fun _ _ h => h⟩
theorem os_eqPB {K : PySem.W.Frag} {R : Type} [Rec R] {f : R → R → Option Bool} : OpS Γ (rEqG (DTup K (DPB Γ f))) (eqPB (R := R) f) := by
  intro W v u x y z ok i1 i2 hz Q k
  unfold eqPB at hz
  split at hz
  · rename_i h
    cases hz
    exact ⟨dtup ok i1 i2 h.1 h.2, fun H' e => k _ ⟨W.F, H'⟩ (wle_ext e) (ext_hle ok e) rfl⟩
  · cases hz
theorem os_nePB {K : PySem.W.Frag} {R : Type} [Rec R] {f : R → R → Option Bool} : OpS Γ (rNeG (DTup K (DPB Γ f))) (nePB (R := R) f) := by
  intro W v u x y z ok i1 i2 hz Q k
  unfold nePB at hz
  split at hz
  · rename_i h
    cases hz
    exact ⟨dtup ok i1 i2 h.1 h.2, fun H' e => k _ ⟨W.F, H'⟩ (wle_ext e) (ext_hle ok e) rfl⟩
  · cases hz
theorem x_eqPB {R : Type} [Rec R] {a b : Expr} {pos : Pos} {ma mb : Option (R × Bool)} {f : R → R → Option Bool} {k j : Nat} (c : MetF X.prog X.w X.K X.mg X.base k (Rec.c (R := R) Γ) "__eq__" (sp2 Γ (fun _ => kF Γ) f)) (hr : Room j X.A)
    (ha : EX X Γ W0 a ρ ma) (hb : EX X Γ W0 b ρ mb) (hk : k + 1 ≤ j := by decide) : EX X Γ W0 (.Compare a [.Eq] [b] pos) ρ (M2 (eqPB f) ma mb) :=
  x_cmp (op_eqG (rcG_tup (mon_DPB f) (eqG_DPB c)) (hr.mono hk)) os_eqPB ha hb (by first | exact nomark _ | rfl)
theorem t_nePB {R : Type} [Rec R] {a b : Expr} {pos : Pos} {ma mb : Option (R × Bool)} {f : R → R → Option Bool} {k j : Nat} (c : MetF X.prog X.w X.K X.mg X.base k (Rec.c (R := R) Γ) "__eq__" (sp2 Γ (fun _ => kF Γ) f)) (hr : Room j X.A)
    (ha : EX X Γ W0 a ρ ma) (hb : EX X Γ W0 b ρ mb) (hk : k + 1 ≤ j := by decide) : TX X Γ W0 (.Compare a [.NotEq] [b] pos) ρ (M2 (nePB f) ma mb) :=
  t_cmp (op_neTup (mon_DPB f) (eqG_DPB c) (hr.mono hk)) os_nePB ha hb (by first | exact nomark _ | rfl)
end
end SR
end
section
set_option Elab.async false
set_option linter.all false
set_option maxRecDepth 100000
set_option maxHeartbeats 4000000
/-! classmethods that make an instance by their own class; the hook with defs at any address and a test -/
namespace SR
open PySem PySem.Spec PyProof.Rows L2
/-- the promise of a classmethod of the class at C, of one argument -/
def sc1 (Γ : Cs) (C : Addr) {α R : Type} [Rep α] (K : Wd → RK R) (f : α → Option R) : Sp := fun vs H Q _ => ∃ (W : Wd) (v1 : V) (x1 : α) (y : R), vs = [.ref C, v1] ∧ W.H = H ∧ HLe W.F W.H ∧ Is Γ W.F v1 x1 ∧ f x1 = some y ∧ ∀ w W2, W.le W2 → HLe W2.F W2.H → K W w W2 y → Q w W2.H
section
variable {P : Program} {w : World} {K : PySem.W.Frag} {mg : Str → Option Value} {base : Heap} {N ps : List Str} {nm qual : Str} {params : Arguments} {body : List Stmt} {scope : Scope} {dvs : List V} {kws : List (Str × V)} {fa : Addr} {fd : FuncData} {k : Nat} {Γ : Cs}
structure CmF (P : Program) (w : World) (K : PySem.W.Frag) (mg : Str → Option Value) (base : Heap) (k : Nat) (x : Str) (C : Addr) (m : Str) (sp : Sp) : Prop where
  ex : ∃ (p g : Addr), ClX.CRead K C (.type "type") ∧ ClX.CMet K C (.type "type") m p g ∧ FnR P w K mg base CX0 k g sp ∧ mg x = some (.ref C)
theorem cmF {x C m : Str} (F : FunD K nm qual params body scope [] kws (He5.wf K (He.ga K C) "classmethod" m) fd) {sp : Sp} (ok : FnOk P w K mg base CX0 k (He5.wf K (He.ga K C) "classmethod" m) fd ps sp)
    (r : ClX.CRead K (He.ga K C) (.type "type")) (hw : He5.wrapB K (He.ga K C) "classmethod" "classmethod.__get__" m = true) (hg : mg x = some (.ref (He.ga K C)))
    (h : ∀ (kV doc pm : Value) (an : Option Addr) (cdv ct : Value) (us : List Value), us.length = ps.length → bindArgs (PySem.W.fnOf nm qual params body scope .none kV doc pm an cdv ct) ⟨us, []⟩ = pure (ps.zip us)) : CmF P w K mg base k x (He.ga K C) m sp := by
  refine ⟨⟨_, _, r, He5.cmet_of hw ?_, (ok.raw (F.bindsN h) .nil).imp fun vs H Q E q => by rw [List.append_nil]; exact q, hg⟩⟩
  obtain ⟨oc, od, dV, kV, doc, pm, an, cdv, ct, osl, e, lk, _⟩ := F.ex
  unfold PySem.W.fnIn
  rw [lk]
theorem bodyC1 {α R : Type} [Rep α] {C : Addr} {K1 : Wd → RK R} {f : α → Option R} (F : FunD K nm qual params body scope dvs kws fa fd) (S : FnScope N ps scope) (hl : ps.length = 2) (hN : 2 ≤ N.length)
    (hb : ∀ (x1 : α) (cdv : Value) (A : Around) (outer : List Env) (s : Shared) (H : Hp) (E : XK) (W0 : Wd), Room k (A.deeper (envOfC qual scope s.heap.objs.size fa cdv)) →
      RX (cxOf CX0 P w K mg base N qual scope fa cdv A outer s H E).nox Γ W0 (K1 W0) body (slots N.length [fz (Ptr.mk C), fz x1]) (f x1)) : FnOk P w K mg base CX0 (k + 1) fa fd ps (sc1 Γ C K1 f) := by
  refine F.ok S (fun vs H Q E h => ?_) (fun cdv A outer s H vs Q E hr h => ?_)
  · obtain ⟨W, v1, x1, y, rfl, _⟩ := h
    rw [hl]
    rfl
  · obtain ⟨W, v1, x1, y, rfl, rfl, ok, i1, hm, q⟩ := h
    refine ⟨_, PSs.nox pss_wp, ?_⟩
    refine (hb x1 cdv A outer s W.H E W hr).run y hm W _ (env_start ok (N := N) (ds := [fz (Ptr.mk C), fz x1]) (.cons ⟨_, rfl, rfl⟩ (.cons ⟨_, rfl, i1⟩ .nil)) (fun s hs => by simp only [List.mem_cons, List.not_mem_nil, or_false] at hs; rcases hs with hs | hs <;> (subst hs; rfl)) hN) _ fun v W2 le _ ok2 i => q v W2 le ok2 i
end
/-- the i-th slot holds the class -/
def tMakeL (i : Nat) (C : Addr) (sp : Sp) (dvs : List V) (E : XK) (t : TA) : TE := fun σ H Q => σ[i]? = some (some (.ref C)) ∧ tMake C sp dvs E t σ H Q
section
variable {X : Cx} {Γ : Cs} {W0 : Wd} {ρ : List Slot}
theorem pe_makeL {CX : CXT} {k i : Nat} {C f : Addr} {fd : FuncData} {ps : List Str} {sp : Sp} {dvs : List V} {ds : List Value} {E : XK} {x : Str} {p pos : Pos} {e : Expr} {es : List Expr} {t : TA} (M : Mk X.K C f) (F : FnOk X.prog X.w X.K X.mg X.base CX k f fd ps sp) (hr : Room (k + 1) X.A) (hN : X.N[i]? = some x) (hv : Vis X.env.scope x) (hb : Binds X.K fd ps ds) (hd : Vals dvs ds) (hx : Passes CX X E)
    (ha : PA X (e :: es) t) (hdb : (x == ("__debug__" : Str)) = false := by decide) (hcd : (x == ("__classdict__" : Str)) = false := by decide) (he : starEach (e :: es) X.env = (false, eval e X.env) :: starEach es X.env := by rfl) (hpl : (backTo pos (starEach es X.env)).any (·.1) = false := by rfl) :
    PE X (.Call (.Name x p) (e :: es) [] pos) (tMakeL i C sp dvs E t) := by
  refine ⟨fun pins s σ H Q I h => ?_⟩
  obtain ⟨hs, ht⟩ := h
  refine wpAny_Call_Name_kw (thn ((pe_var (pos := p) hN hv hdb hcd).run pins s σ H (fun v H1 => v = .ref C ∧ H1 = H) I ⟨.ref C, hs, rfl, rfl⟩) fun u s1 ⟨v, H1, I1, r1, q1⟩ => ?_)
  obtain ⟨rfl, rfl⟩ := q1
  cases r1
  refine PySem.W.callWith_K (h₀ := X.base) I.ok.mod.kin M.kp (thn (ha.run pos pins s1 σ _ _ I1 ht) fun us s2 ⟨vs, H2, I2, r, q⟩ => ⟨I2.kIn, ?_⟩) he hpl
  exact run_make M F hr hb hd hx I2 r q
theorem x_makeL2 {α β : Type} [Rep α] [Rep β] {R : Type} [Rec R] {e1 e2 : Expr} {m1 : Option α} {m2 : Option β} {f : α → β → Option R} {n x : Str} {p pos : Pos} {k j : Nat} (i : Nat) (c : MakF X.prog X.w X.K X.mg X.base k n (Rec.c (R := R) Γ) (si2 Γ (Rec.c (R := R) Γ) f)) (hr : Room j X.A) (h1 : EX X Γ W0 e1 ρ m1) (h2 : EX X Γ W0 e2 ρ m2) (hk : k + 1 ≤ j := by decide)
    (h : ρ[i]? = some (fz (Ptr.mk (Rec.c (R := R) Γ))) := by rfl) (hN : X.N[i]? = some x := by rfl) (hv : Vis X.env.scope x := by first | exact Or.inl rfl | exact Or.inr (Or.inl rfl) | exact Or.inr (Or.inr rfl))
    (hp : Room (k + 1) X.A → X.N[i]? = some x → Vis X.env.scope x → ∀ {fa : Addr} {fd : FuncData} {ps : List Str} {sp : Sp}, Mk X.K (Rec.c (R := R) Γ) fa → FnOk X.prog X.w X.K X.mg X.base CX0 k fa fd ps sp → Binds X.K fd ps [] → PE X (.Call (.Name x p) [e1, e2] [] pos) (tMakeL i (Rec.c (R := R) Γ) sp [] E0 (tCons (wpE X e1) (tCons (wpE X e2) tNil))) := by intro r g v _ _ _ _ m F c; exact pe_makeL m F r g v c .nil pass0 (pa_cons pe_wp (pa_cons pe_wp pa_nil))) :
    EX X Γ W0 (.Call (.Name x p) [e1, e2] [] pos) ρ (M2 f m1 m2) := ⟨fun z hm W σ E Q k => by
  obtain ⟨x1, g1, hm⟩ := bindo hm
  obtain ⟨x2, g2, hm⟩ := bindo hm
  obtain ⟨fa, fd, ps, m, F, c1, c2⟩ := c.ex
  refine wp_of (hp (hr.mono hk) hN hv m F c2) ?_
  obtain ⟨v0, q1, q2⟩ := E.get h
  have e0 : v0 = .ref (Rec.c (R := R) Γ) := q2
  subst e0
  refine ⟨q1, ?_⟩
  refine h1.run x1 g1 W σ E _ fun v1 W2 le1 ok1 i1 => ?_
  refine h2.run x2 g2 W2 σ (E.mono le1 ok1) _ fun v2 W3 le2 ok2 i2 => ?_
  intro pp dx hpp hdx hne
  obtain ⟨w1, w2, w3⟩ := made_le (C := Rec.c (R := R) Γ) ok2 hpp hdx hne
  refine ⟨⟨W3.F, upd (upd W3.H dx (.own pp)) pp (.ins _ dx [])⟩, pp, dx, v1, v2, x1, x2, z, rfl, rfl, w1, ok2.none_of hpp, upd_same, (Rep.mono le2.f i1), i2, hm, fun W8 le8 ok8 i8 => ⟨rfl, ?_⟩⟩
  refine k _ W8 ((le1.trans le2).trans ?_) ok8 i8
  rw [show W3 = Wd.mk W3.F (rem pp dx (upd (upd W3.H dx (.own pp)) pp (.ins _ dx []))) by rw [w2]]
  exact le8⟩
/-- C.m(e) -/
theorem x_cm1 {α R : Type} [Rep α] [Rep R] {e1 : Expr} {m1 : Option α} {f : α → Option R} {x m : Str} {C : Addr} {p apos pos : Pos} {k j : Nat} (c : CmF X.prog X.w X.K X.mg X.base k x C m (sc1 Γ C (fun _ => kF Γ) f)) (hr : Room j X.A) (h1 : EX X Γ W0 e1 ρ m1) (hk : k ≤ j := by decide) (hg : Gl X x := by rfl)
    (hp : Room k X.A → Gl X x → X.mg x = some (.ref C) → ∀ {q g : Addr} {sp : Sp}, ClX.CRead X.K C (.type "type") → ClX.CMet X.K C (.type "type") m q g → FnR X.prog X.w X.K X.mg X.base CX0 k g sp → PE X (.Call (.Attribute (.Name x p) m apos) [e1] [] pos) (ClX.tCMeth C sp E0 (tC (.ref C)) (tCons (wpE X e1) tNil)) := by intro r g hm _ _ _ cr cm F; exact ClX.pe_cmeth (pe_glob g hm rfl) cr cm F r pass0 (pa_cons pe_wp pa_nil)) :
    EX X Γ W0 (.Call (.Attribute (.Name x p) m apos) [e1] [] pos) ρ (M1 f m1) := ⟨fun z hm W σ E Q k => by
  obtain ⟨x1, g1, hm⟩ := bindo hm
  obtain ⟨q, g, cr, cm, F, hg2⟩ := c.ex
  refine wp_of (hp (hr.mono hk) hg hg2 cr cm F) ⟨rfl, ?_⟩
  refine h1.run x1 g1 W σ E _ fun v1 W2 le1 ok1 i1 => ?_
  exact ⟨W2, v1, x1, z, rfl, rfl, ok1, i1, hm, fun w W8 le8 ok8 i8 => k w W8 (le1.trans le8) ok8 i8⟩⟩
end
/-! ### the hook: defs at any address, facts, a test -/
def hookT (n : Nat) (fa : List He.Fa) (fn : List He5.DefA) (ex : PySem.W.Frag → Bool) : PySem.W.Hook where
  α := Bool × He.AlD
  obs := fun s => (ex (He.frG s.heap.get? (He5.asA s.heap.get? n)), He5.obsAG n fa fn s.heap.get?)
  val := fun _ => (true, He5.valA fn)
  says := fun _ h => ∃ K : PySem.W.Frag, K.In h ∧ He5.SaysA fa fn K ∧ ex K = true
  of := fun _ _ e => ⟨_, He.frG_in, congrArg Prod.snd e, congrArg Prod.fst e⟩
  keeps := fun _ _ _ ⟨K, hK, c⟩ k => ⟨K, PySem.W.Frag.In.keeps hK k, c⟩
def obsT (n : Nat) (fa : List He.Fa) (fn : List He5.DefA) (ex : PySem.W.Frag → Bool) (g : Addr → Option Obj) : Bool × He.AlD := (ex (He.frG g (He5.asA g n)), He5.obsAG n fa fn g)
theorem obsT_eq {n : Nat} {fa : List He.Fa} {fn : List He5.DefA} {ex : PySem.W.Frag → Bool} {g : Addr → Option Obj} {s : Shared} (h : ∀ a, g a = s.heap.get? a) : obsT n fa fn ex g = (hookT n fa fn ex).obs s := by
  have e : g = s.heap.get? := funext h
  rw [e] <;> rfl
end SR
end
section
set_option Elab.async false
set_option linter.all false
set_option maxRecDepth 100000
set_option maxHeartbeats 4000000
/-! what a drawing computation may end in: at most c draws, results in R -/
namespace SR
open PySem
def Spec {α : Type} (m : Mi α) (c : Nat) (R : α → Prop) : Prop := ∀ n P, n + c ≤ 1000000 → (∀ x n', R x → n' ≤ n + c → P x n') → m n P
theorem Spec.imp {α : Type} {m : Mi α} {c c' : Nat} {R R' : α → Prop} (h : Spec m c R) (hc : c ≤ c') (hr : ∀ x, R x → R' x) : Spec m c' R' := fun n P hn k => h n P (by omega) fun x n' q l => k x n' (hr x q) (by omega)
theorem sp_ret {α : Type} {x : α} {R : α → Prop} (h : R x) : Spec (SR.ret x) 0 R := fun n P _ k => k x n h (by omega)
theorem sp_opt {α : Type} {m : Option α} {x : α} {R : α → Prop} (e : m = some x) (h : R x) : Spec (SR.opt m) 0 R := fun n P _ k => ⟨x, e, k x n h (by omega)⟩
theorem sp_opt' {α : Type} {m : Option α} {R : α → Prop} (h : ∃ x, m = some x ∧ R x) : Spec (SR.opt m) 0 R := let ⟨_, e, h⟩ := h; sp_opt e h
theorem sp_draw {size : Int} (h1 : 0 < size) (h2 : size < 1073741824) : Spec (draw size) 1 fun d => 0 ≤ d ∧ d < size := fun n P hn k => ⟨h1, h2, by omega, fun d h3 h4 => k d (n + 1) ⟨h3, h4⟩ (by omega)⟩
theorem sp_bnd {α β : Type} {m : Mi α} {k : α → Mi β} {c c' : Nat} {R : α → Prop} {R' : β → Prop} (h : Spec m c R) (hk : ∀ x, R x → Spec (k x) c' R') : Spec (SR.bnd m k) (c + c') R' := fun n P hn q => h n _ (by omega) fun x n' r l => hk x r n' P (by omega) fun y n2 r2 l2 => q y n2 r2 (by omega)
theorem sp_ite {α : Type} {mc : Mi Bool} {a b : Mi α} {c c' : Nat} {R : α → Prop} {T : Bool → Prop} (h : Spec mc c T) (ha : T true → Spec a c' R) (hb : T false → Spec b c' R) : Spec (iteN mc a b) (c + c') R := sp_bnd h fun x t => by
  cases x with
  | true => exact ha t
  | false => exact hb t
inductive All2 {α β : Type} (R : α → β → Prop) : List α → List β → Prop
  | nil : All2 R [] []
  | cons {x : α} {y : β} {xs : List α} {ys : List β} : R x y → All2 R xs ys → All2 R (x :: xs) (y :: ys)
theorem All2.length {α β : Type} {R : α → β → Prop} : ∀ {xs : List α} {ys : List β}, All2 R xs ys → ys.length = xs.length
  | _, _, .nil => rfl
  | _, _, .cons _ t => by rw [List.length_cons, List.length_cons, t.length]
theorem All2.right {α β : Type} {R : α → β → Prop} {S : β → Prop} (hS : ∀ x y, R x y → S y) : ∀ {xs : List α} {ys : List β}, All2 R xs ys → ∀ y ∈ ys, S y
  | _, _, .nil, _, m => by cases m
  | _, _, .cons (x := a) h t, y, m => by
    rcases List.mem_cons.mp m with e | m
    · rw [e]; exact hS a _ h
    · exact t.right hS y m
theorem sp_lc {α β : Type} {f : α → Mi β} {c : Nat} {R : α → β → Prop} : ∀ {xs : List α}, (∀ x ∈ xs, Spec (f x) c (R x)) → Spec (lcN f xs) (c * xs.length) (All2 R xs)
  | [], _ => sp_ret .nil
  | x :: xs, h => (sp_bnd (h x List.mem_cons_self) fun y hy => sp_bnd (sp_lc fun z m => h z (List.mem_cons_of_mem _ m)) fun ys hys => sp_ret (.cons hy hys)).imp (by rw [List.length_cons, Nat.mul_succ]; omega) fun _ q => q
theorem sp_loop {α R : Type} {f : Unit → α → Mi (Out Unit R)} {c : Nat} : ∀ {xs : List α}, (∀ x ∈ xs, Spec (f () x) c fun o => o = .nx ()) → Spec (loopN f () xs) (c * xs.length) fun o => o = .nx ()
  | [], _ => sp_ret rfl
  | x :: xs, h => (sp_bnd (h x List.mem_cons_self) fun o e => by
      subst e
      exact sp_loop fun z m => h z (List.mem_cons_of_mem _ m)).imp (by rw [List.length_cons, Nat.mul_succ]; omega) fun _ q => q
/-- all lists of k digits below p -/
def rows (p : Nat) : Nat → List (List Int)
  | 0 => [[]]
  | k + 1 => ((List.range p).map fun (d : Nat) => (rows p k).map fun (r : List Int) => (d : Int) :: r).flatten
theorem mem_rows {p : Nat} : ∀ {k : Nat} {xs : List Int}, xs.length = k → (∀ d ∈ xs, 0 ≤ d ∧ d < (p : Int)) → xs ∈ rows p k
  | 0, [], _, _ => List.mem_singleton.mpr rfl
  | k + 1, d :: xs, h, hd => by
    obtain ⟨h1, h2⟩ := hd d List.mem_cons_self
    unfold rows
    have hd' : d.toNat < p := by omega
    refine List.mem_flatten.mpr ⟨_, List.mem_map.mpr ⟨d.toNat, List.mem_range.mpr hd', rfl⟩, List.mem_map.mpr ⟨xs, mem_rows (by simpa using h) fun e m => hd e (List.mem_cons_of_mem _ m), ?_⟩⟩
    rw [Int.toNat_of_nonneg h1]
end SR
end
section
set_option Elab.async false
set_option linter.all false
set_option maxRecDepth 100000
set_option maxHeartbeats 4000000
namespace W82
open PySem PySem.Spec PyProof.Rows L2 SR
def m_is_integer  (x_thing : Int) : Option Bool := (SR.andM ((some x_thing).bind fun _ => some true) (SR.notM ((some x_thing).bind fun _ => some false)))
def m_is_list {α : Type} [Rep α] [SeqLike α] (x_thing : α) : Option Bool := ((some x_thing).bind fun _ => some true)
def m_is_prime  (x_thing : Int) : Option Bool := (SR.andM (M1 m_is_integer (some x_thing)) ((some x_thing).bind fun x => some (([2, 3, 5, 7] : List Int).contains x)))
def m_are_digits  (x_prime : Int) (x_thing : (SR.LT Int)) : Option Bool := (SR.andM (M1 m_is_list (some x_thing)) (M1 allM (lcM (fun x2 : Int => (some true)) (fun x2 : Int => (SR.andM (M1 m_is_integer (some x2)) (chM leI ltI (some (0 : Int)) (some x2) (some x_prime)))) (M1 ltL (some x_thing)))))
def m_inverse  (x_prime : Int) (x_digit : Int) : Option Int := (M2 ixM (lcM (fun x2 : Int => (M2 eqI (M2 modI (M2 mulI (some x2) (some x_digit)) (some x_prime)) (some (1 : Int)))) (fun x2 : Int => (some x2)) (M2 rangeM (some (1 : Int)) (some x_prime))) (some (0 : Int)))
def m_divided  (x_prime : Int) (x_terms : (List (Int × Int))) (x_divisor : (List Int)) : Option ((Dct Int) × (List Int)) := (bindM (M2 pairM (M2 subI (M1 lenM (some x_divisor)) (some (1 : Int))) (M2 m_inverse (some x_prime) (M2 ixM (some x_divisor) (some (0 : Int))))) fun b1 => (bindM (some ([] : List (Int × Int))) fun b2 => (bindM (some ([] : List (Int × Int))) fun b3 => (bindM ((some x_terms).bind fun xs => forM (fun (s4 : ((List (Int × Int)))) (x5 : (Int × Int)) => (bindM (M2 (fun x k => putM s4 k x) (some x5.2) (some x5.1)) fun b6 => (some b6))) b2 xs) fun b7 => (bindM (M1 minL (lcM (fun x9 : Int => (some true)) (fun x9 : Int => (M1 intI (some x9))) (M1 capM (M2 consM (some (0 : Int)) (M2 appM (M1 keysM (some b7)) (some ([] : List Int))))))) fun b10 => (bindM (M1 maxL (lcM (fun x12 : Int => (some true)) (fun x12 : Int => (M1 intI (some x12))) (M1 capM (M2 consM (some (0 : Int)) (M2 appM (M1 keysM (some b7)) (some ([] : List Int))))))) fun b13 => (bindM ((M2 catM (M2 rangeM (some b10) (some (0 : Int))) (M2 downM (some b13) (M2 subI (some b1.1) (some (1 : Int))))).bind fun xs => forM (fun (s14 : ((List (Int × Int)) × (List (Int × Int)))) (x15 : Int) => (bindM (M2 pairM (M3 dgetD (some s14.2) (some x15) (some (0 : Int))) (M2 subI (some x15) (some b1.1))) fun b16 => (bindM (iteM (M2 ltI (some x15) (some (0 : Int))) (bindM (M2 pairM (M2 modI (M2 mulI (some b16.1) (some b1.2)) (some x_prime)) (some x15)) fun b17 => (some (b17.1, b17.2))) (some (b16.1, b16.2))) fun b19 => (bindM (iteM (M2 gtI (some b19.1) (some (0 : Int))) (bindM (M2 (fun x k => putM s14.1 k x) (some b19.1) (some b19.2)) fun b20 => (bindM ((M1 enumM (some x_divisor)).bind fun xs => forM (fun (s21 : ((List (Int × Int)))) (x22 : (Int × Int)) => (bindM (M2 (fun x k => putM s21 k x) (M2 modI (M2 subI (M3 dgetD (some s21) (M2 addI (some b19.2) (some x22.1)) (some (0 : Int))) (M2 mulI (some b19.1) (some x22.2))) (some x_prime)) (M2 addI (some b19.2) (some x22.1))) fun b23 => (some b23))) s14.2 xs) fun b24 => (some (b20, b24)))) (some (s14.1, s14.2))) fun b26 => (some (b26.1, b26.2)))))) (b3, b7) xs) fun b27 => (M2 pairM (some (Dct.mk b27.1)) (lcM (fun x28 : Int => (some true)) (fun x28 : Int => (M3 dgetD (some b27.2) (some x28) (some (0 : Int)))) (M1 (rangeM 0) (some b1.1)))))))))))
def m_product_rest  (x_prime : Int) (x_divisor : (List Int)) (x_one : (List Int)) (x_other : (List Int)) : Option (List Int) := (bindM (M2 subI (M1 lenM (some x_divisor)) (some (1 : Int))) fun b1 => (bindM (some ([] : List (Int × Int))) fun b2 => (bindM ((M1 enumM (some x_one)).bind fun xs => forM (fun (s3 : ((List (Int × Int)))) (x4 : (Int × Int)) => (bindM ((M1 enumM (some x_other)).bind fun xs => forM (fun (s5 : ((List (Int × Int)))) (x6 : (Int × Int)) => (bindM (M2 (fun x k => putM s5 k x) (M2 addI (M3 dgetD (some s5) (M2 addI (some x4.1) (some x6.1)) (some (0 : Int))) (M2 mulI (some x4.2) (some x6.2))) (M2 addI (some x4.1) (some x6.1))) fun b7 => (some b7))) s3 xs) fun b8 => (some b8))) b2 xs) fun b9 => (bindM ((M2 downM (M2 subI (M2 mulI (some (2 : Int)) (some b1)) (some (2 : Int))) (M2 subI (some b1) (some (1 : Int)))).bind fun xs => forM (fun (s10 : ((List (Int × Int)))) (x11 : Int) => (bindM (M2 modI (M2 dgetM (some s10) (some x11)) (some x_prime)) fun b12 => (bindM ((M1 (rangeM 0) (some b1)).bind fun xs => forM (fun (s13 : ((List (Int × Int)))) (x14 : Int) => (bindM (M2 (fun x k => putM s13 k x) (M2 subI (M2 dgetM (some s13) (M2 addI (M2 subI (some x11) (some b1)) (some x14))) (M2 mulI (some b12) (M2 ixM (some x_divisor) (some x14)))) (M2 addI (M2 subI (some x11) (some b1)) (some x14))) fun b15 => (some b15))) s10 xs) fun b16 => (some b16)))) b9 xs) fun b17 => (lcM (fun x18 : Int => (some true)) (fun x18 : Int => (M2 modI (M2 dgetM (some b17) (some x18)) (some x_prime))) (M1 (rangeM 0) (some b1)))))))
def m_shift_rest  (x_prime : Int) (x_divisor : (List Int)) (x_back : Bool) : Option (List Int) := (bindM (M2 subI (M1 lenM (some x_divisor)) (some (1 : Int))) fun b1 => (iteM (some x_back) (bindM (M2 subI (some (0 : Int)) (M2 m_inverse (some x_prime) (M2 ixM (some x_divisor) (some (0 : Int))))) fun b2 => (lcM (fun x3 : Int => (some true)) (fun x3 : Int => (M2 modI (M2 mulI (some b2) (some x3)) (some x_prime))) (M3 cutM (some x_divisor) ((some (1 : Int)).bind fun i => some (some i)) (some none)))) (iteM (M2 eqI (some b1) (some (1 : Int))) (M1 capM (M2 consM (M2 modI (M2 subI (some (0 : Int)) (M2 ixM (some x_divisor) (some (0 : Int)))) (some x_prime)) (some ([] : List Int)))) (lcM (fun x4 : Int => (some true)) (fun x4 : Int => (M1 intB (M2 eqI (some x4) (some (1 : Int))))) (M1 (rangeM 0) (some b1))))))
def m_moved_rest  (x_prime : Int) (x_divisor : (List Int)) (x_rest : (List Int)) : Option (List Int) := (bindM (M2 catM (M1 capM (M2 consM (some (0 : Int)) (some ([] : List Int)))) (some x_rest)) fun b1 => (lcM (fun x2 : Int => (some true)) (fun x2 : Int => (M2 modI (M2 subI (M2 ixM (some b1) (some x2)) (M2 mulI (M2 ixM (some b1) ((some (1 : Int)).bind fun i => some (-i))) (M2 ixM (some x_divisor) (some x2)))) (some x_prime))) (M1 (rangeM 0) (M1 lenM (some x_rest)))))
def m_far_rest  (x_prime : Int) (x_divisor : (List Int)) (x_places : Int) : Option (List Int) := (bindM (M2 subI (M1 lenM (some x_divisor)) (some (1 : Int))) fun b1 => (iteM (M2 eqI (some b1) (some (0 : Int))) (some ([] : (List Int))) (bindM (lcM (fun x2 : Int => (some true)) (fun x2 : Int => (M1 intB (M2 eqI (some x2) (some (0 : Int))))) (M1 (rangeM 0) (some b1))) fun b3 => (bindM (M2 pairM (M3 m_shift_rest (some x_prime) (some x_divisor) (M2 ltI (some x_places) (some (0 : Int)))) (M1 absI (some x_places))) fun b4 => (bindM (whileM (fun (s5 : ((List Int) × (List Int) × Int)) => (M2 gtI (some s5.2.2) (some (0 : Int)))) (fun (s5 : ((List Int) × (List Int) × Int)) => (bindM (iteM (M2 eqI (M2 modI (some s5.2.2) (some (2 : Int))) (some (1 : Int))) (bindM (M4 m_product_rest (some x_prime) (some x_divisor) (some s5.1) (some s5.2.1)) fun b6 => (some b6)) (some s5.1)) fun b8 => (bindM (M4 m_product_rest (some x_prime) (some x_divisor) (some s5.2.1) (some s5.2.1)) fun b9 => (bindM (M2 divI (some s5.2.2) (some (2 : Int))) fun b10 => (some (b8, b9, b10)))))) 64 (b3, b4.1, b4.2)) fun b11 => (some b11.1))))))
def m_is_term  (x_thing : (Int × Int)) : Option Bool := (SR.andM (M1 m_is_list (some x_thing)) (SR.andM (M2 eqI ((some x_thing).bind fun _ => some (2 : Int)) (some (2 : Int))) (SR.andM (M1 m_is_integer ((some x_thing).bind fun x => some x.1)) (M1 m_is_integer ((some x_thing).bind fun x => some x.2)))))
def m_Filter_init  (x_prime : Int) (x_terms : (List (Int × Int))) : Option Flt := (bindM (iteM (SR.notM (M1 m_is_prime (some x_prime))) none (some ())) fun b1 => (bindM (iteM (SR.notM (M1 m_is_list (some x_terms))) none (some ())) fun b2 => (bindM (some ([] : List (Int × Int))) fun b3 => (bindM ((M1 enumM (some x_terms)).bind fun xs => forM (fun (s4 : ((List (Int × Int)))) (x5 : (Int × (Int × Int))) => (bindM (iteM (SR.notM (M1 m_is_term (some x5.2))) none (some ())) fun b6 => (bindM (M2 (fun x k => putM s4 k x) (M2 modI (M2 addI (M3 dgetD (some s4) ((some x5.2).bind fun x => some x.1) (some (0 : Int))) ((some x5.2).bind fun x => some x.2)) (some x_prime)) ((some x5.2).bind fun x => some x.1)) fun b7 => (some b7)))) b3 xs) fun b8 => (bindM (M1 sortM (lcM (fun x10 : Int => (some true)) (fun x10 : Int => (M1 intI (some x10))) (some ((Dct.mk b8).kvs.map (·.1))))) fun b11 => (bindM (some x_prime) fun b12 => (bindM (lcM (fun x13 : Int => (M2 gtI (M2 dgetM ((some (Dct.mk b8)).bind fun d => some d.kvs) (some x13)) (some (0 : Int)))) (fun x13 : Int => (M2 pairM (some x13) (M2 dgetM ((some (Dct.mk b8)).bind fun d => some d.kvs) (some x13)))) (some b11)) fun b14 => (bindM ((M1 mergeM (some b14)).bind fun kvs => some (Dct.mk kvs)) fun b15 => (some (⟨b12, b14, b15⟩ : Flt))))))))))
def m_Filter_getitem  (x_self : Flt) (x_offset : Int) : Option Int := (M3 dgetD (((some x_self).bind fun r => some r.held).bind fun d => some d.kvs) (some x_offset) (some (0 : Int)))
def m_Filter_bool  (x_self : Flt) : Option Bool := (M1 neL ((some x_self).bind fun r => some r.kept))
def m_Filter_eq  (x_self : Flt) (x_other : Flt) : Option Bool := (SR.andM ((some x_other).bind fun _ => some true) (SR.andM (M2 eqI ((some x_self).bind fun r => some r.prime) ((some x_other).bind fun r => some r.prime)) (M2 eqL ((some x_self).bind fun r => some r.kept) ((some x_other).bind fun r => some r.kept))))
def m_Filter_terms  (x_self : Flt) : Option (List (Int × Int)) := ((some x_self).bind fun r => some r.kept)
def m_Filter_low  (x_self : Flt) : Option (Option Int) := (iteM (M1 neL ((some x_self).bind fun r => some r.kept)) (((M2 ixM ((some x_self).bind fun r => some r.kept) (some (0 : Int))).bind fun x => some x.1).bind fun x => some (some x)) (some (none : (Option Int))))
def m_Filter_high  (x_self : Flt) : Option (Option Int) := (iteM (M1 neL ((some x_self).bind fun r => some r.kept)) (((M2 ixM ((some x_self).bind fun r => some r.kept) ((some (1 : Int)).bind fun i => some (-i))).bind fun x => some x.1).bind fun x => some (some x)) (some (none : (Option Int))))
def m_Filter_span  (x_self : Flt) : Option (Option Int) := (iteM (M1 neL ((some x_self).bind fun r => some r.kept)) ((M2 subI ((M2 ixM ((some x_self).bind fun r => some r.kept) ((some (1 : Int)).bind fun i => some (-i))).bind fun x => some x.1) ((M2 ixM ((some x_self).bind fun r => some r.kept) (some (0 : Int))).bind fun x => some x.1)).bind fun x => some (some x)) (some (none : (Option Int))))
def m_Filter_normal  (x_self : Flt) : Option Flt := (iteM (SR.notM (M1 neL ((some x_self).bind fun r => some r.kept))) (some x_self) (bindM (M2 pairM ((M2 ixM ((some x_self).bind fun r => some r.kept) (some (0 : Int))).bind fun x => some x.1) (M2 m_inverse ((some x_self).bind fun r => some r.prime) ((M2 ixM ((some x_self).bind fun r => some r.kept) ((some (1 : Int)).bind fun i => some (-i))).bind fun x => some x.2))) fun b1 => (M2 m_Filter_init ((some x_self).bind fun r => some r.prime) (lcM (fun x2 : (Int × Int) => (some true)) (fun x2 : (Int × Int) => (M2 pairM (M2 subI (some x2.1) (some b1.1)) (M2 mulI (some b1.2) (some x2.2)))) ((some x_self).bind fun r => some r.kept)))))
def m_check_primes  (x_one : Flt) (x_other : Flt) : Option Unit := (bindM (iteM (M2 neI ((some x_one).bind fun r => some r.prime) ((some x_other).bind fun r => some r.prime)) none (some ())) fun b1 => (some ()))
def m_divisor_of  (x_f : Flt) : Option (List Int) := (bindM (M1 m_Filter_normal (some x_f)) fun b1 => (lcM (fun x2 : Int => (some true)) (fun x2 : Int => (M2 m_Filter_getitem (some b1) (some x2))) (M1 (rangeM 0) (M2 addI ((M1 m_Filter_span (some b1)).bind fun x => x) (some (1 : Int))))))
def m_Filter_mod  (x_self : Flt) (x_other : Flt) : Option Flt := (iteM (SR.notM ((some x_other).bind fun _ => some true)) none (iteM (SR.notM (M1 m_Filter_bool (some x_other))) none (bindM (M2 m_check_primes (some x_self) (some x_other)) fun b1 => (bindM (M1 m_divisor_of (some x_other)) fun b2 => (bindM (lcM (fun x3 : (Int × Int) => (M2 leI (M1 absI (some x3.1)) (some (2000 : Int)))) (fun x3 : (Int × Int) => (M2 pairM (some x3.1) (some x3.2))) ((some x_self).bind fun r => some r.kept)) fun b4 => (bindM (M1 enumM ((M3 m_divided ((some x_self).bind fun r => some r.prime) (some b4) (some b2)).bind fun x => some x.2)) fun b5 => (bindM (((some x_self).bind fun r => some r.kept).bind fun xs => forM (fun (s6 : ((List (Int × Int)))) (x7 : (Int × Int)) => (bindM (iteM (M2 gtI (M1 absI (some x7.1)) (some (2000 : Int))) (bindM (M3 m_far_rest ((some x_self).bind fun r => some r.prime) (some b2) (some x7.1)) fun b8 => (bindM (M2 catM (some s6) (lcM (fun x10 : (Int × Int) => (some true)) (fun x10 : (Int × Int) => (M2 pairM (some x10.1) (M2 mulI (some x7.2) (some x10.2)))) (M1 enumM (some b8)))) fun b11 => (some b11))) (some s6)) fun b13 => (some b13))) b5 xs) fun b14 => (M2 m_Filter_init ((some x_self).bind fun r => some r.prime) (some b14)))))))))
def m_Filter_floordiv  (x_self : Flt) (x_other : Flt) : Option Flt := (iteM (SR.notM ((some x_other).bind fun _ => some true)) none (iteM (SR.notM (M1 m_Filter_bool (some x_other))) none (bindM (M2 m_check_primes (some x_self) (some x_other)) fun b1 => (bindM ((M3 m_divided ((some x_self).bind fun r => some r.prime) ((some x_self).bind fun r => some r.kept) (M1 m_divisor_of (some x_other))).bind fun x => some x.1) fun b2 => (bindM (M2 pairM (M1 m_Filter_low (some x_other)) (M2 m_inverse ((some x_self).bind fun r => some r.prime) (M2 m_Filter_getitem (some x_other) ((M1 m_Filter_high (some x_other)).bind fun x => x)))) fun b3 => (M2 m_Filter_init ((some x_self).bind fun r => some r.prime) (lcM (fun x4 : (Int × Int) => (some true)) (fun x4 : (Int × Int) => (M2 pairM (M2 subI (some x4.1) ((some b3.1).bind fun x => x)) (M2 mulI (some b3.2) (some x4.2)))) (some b2.kvs))))))))
def m_gcd  (x_f : Flt) (x_g : Flt) : Option Flt := (bindM (M2 m_check_primes (some x_f) (some x_g)) fun b1 => (bindM (M2 pairM (M1 m_Filter_normal (some x_f)) (M1 m_Filter_normal (some x_g))) fun b2 => (bindM (whileM (fun (s3 : (Flt × Flt)) => (M1 m_Filter_bool (some s3.2))) (fun (s3 : (Flt × Flt)) => (bindM (M2 pairM (some s3.2) (M1 m_Filter_normal (M2 m_Filter_mod (some s3.1) (some s3.2)))) fun b4 => (some (b4.1, b4.2)))) 64 (b2.1, b2.2)) fun b5 => (some b5.1))))
def m_least_rule  (x_rule : Flt) (x_digits : (List Int)) : Option Flt := (bindM (some ([] : (List (Int × Int)))) fun b1 => (bindM ((M1 (rangeM 0) ((M1 m_Filter_span (some x_rule)).bind fun x => x)).bind fun xs => forM (fun (s2 : ((List (Int × Int)))) (x3 : Int) => (bindM (some (0 : Int)) fun b4 => (bindM ((M2 rangeM (M2 addI (some x3) (some (1 : Int))) (M2 addI ((M1 m_Filter_span (some x_rule)).bind fun x => x) (some (1 : Int)))).bind fun xs => forM (fun (s5 : (Int)) (x6 : Int) => (bindM (M2 addI (some s5) (M2 mulI (M2 m_Filter_getitem (some x_rule) (some x6)) (M2 ixM (some x_digits) (M2 subI (M2 subI (some x6) (some x3)) (some (1 : Int)))))) fun b7 => (some b7))) b4 xs) fun b8 => (bindM (M1 (addL s2) (M2 pairM (some x3) (some b8))) fun b9 => (some b9))))) b1 xs) fun b10 => (M2 m_Filter_floordiv (some x_rule) (M2 m_gcd (some x_rule) (M2 m_Filter_init ((some x_rule).bind fun r => some r.prime) (some b10))))))
def m_Sequence_init  (x_rule : Flt) (x_digits : (List Int)) : Option Sqn := (bindM (iteM (SR.orM (SR.notM ((some x_rule).bind fun _ => some true)) (SR.notM (M1 m_Filter_bool (some x_rule)))) none (some ())) fun b1 => (bindM (iteM (SR.orM (SR.notM (M2 m_are_digits ((some x_rule).bind fun r => some r.prime) (M1 ltM (some x_digits)))) (M2 neI (M1 lenM (some x_digits)) ((M1 m_Filter_span (some x_rule)).bind fun x => x))) none (some ())) fun b2 => (bindM ((some x_rule).bind fun r => some r.prime) fun b3 => (bindM (M2 m_least_rule (M1 m_Filter_normal (some x_rule)) (some x_digits)) fun b4 => (bindM (M3 cutM (some x_digits) (some none) (((M1 m_Filter_span (some b4)).bind fun x => x).bind fun i => some (some i))) fun b5 => (bindM (M1 m_divisor_of (some b4)) fun b6 => (some (⟨b3, b4, b5, b6⟩ : Sqn))))))))
def m_Sequence_led  (x_self : Sqn) (x_rest : (List Int)) : Option Int := (M2 modI (M1 sumM (lcM (fun x2 : (Int × Int) => (some true)) (fun x2 : (Int × Int) => (M2 mulI (some x2.1) (some x2.2))) (M2 zipM (some x_rest) ((some x_self).bind fun r => some r.front)))) ((some x_self).bind fun r => some r.prime))
def m_Sequence_rule  (x_self : Sqn) : Option Flt := ((some x_self).bind fun r => some r.ruler)
def m_Sequence_eq  (x_self : Sqn) (x_other : Sqn) : Option Bool := (SR.andM ((some x_other).bind fun _ => some true) (SR.andM (M2 m_Filter_eq ((some x_self).bind fun r => some r.ruler) ((some x_other).bind fun r => some r.ruler)) (M2 eqL ((some x_self).bind fun r => some r.front) ((some x_other).bind fun r => some r.front))))
def m_Sequence_digits  (x_self : Sqn) (x_start : Int) (x_count : Int) : Option (List Int) := (bindM (some ([] : (List Int))) fun b1 => (bindM (M2 pairM (M1 lenM ((some x_self).bind fun r => some r.front)) (M3 m_far_rest ((some x_self).bind fun r => some r.prime) ((some x_self).bind fun r => some r.divisor) (some x_start))) fun b2 => (bindM (whileM (fun (s3 : ((List Int) × (List Int))) => (M2 ltI (M1 lenM (some s3.2)) (some x_count))) (fun (s3 : ((List Int) × (List Int))) => (bindM (iteM (M2 ltI (M1 lenM (some s3.2)) (some b2.1)) (bindM (M1 (addL s3.2) (M2 m_Sequence_led (some x_self) (some s3.1))) fun b4 => (bindM (M3 m_moved_rest ((some x_self).bind fun r => some r.prime) ((some x_self).bind fun r => some r.divisor) (some s3.1)) fun b5 => (some (b4, b5)))) (bindM (M3 cutM (some s3.2) ((M2 subI (M1 lenM (some s3.2)) (some b2.1)).bind fun i => some (some i)) (some none)) fun b6 => (bindM (M1 (addL s3.2) (M2 modI (M2 subI (some (0 : Int)) (M1 sumM (lcM (fun x8 : (Int × Int) => (some true)) (fun x8 : (Int × Int) => (M2 mulI (some x8.1) (some x8.2))) (M2 zipM ((some x_self).bind fun r => some r.divisor) (some b6))))) ((some x_self).bind fun r => some r.prime))) fun b9 => (some (b9, s3.1))))) fun b11 => (some (b11.2, b11.1)))) 64 (b2.2, b1)) fun b12 => (some b12.2))))
def m_less  (x_prime : Int) (x_one : (Dct Int)) (x_other : (Dct Int)) (x_digit : Int) : Option (Dct Int) := (bindM (some ([] : List (Int × Int))) fun b1 => (bindM ((M1 capM (M2 appM (M1 keysM ((some x_one).bind fun d => some d.kvs)) (M2 appM (lcM (fun x3 : Int => (M2 dninM (some x3) ((some x_one).bind fun d => some d.kvs))) (fun x3 : Int => (some x3)) (some (x_other.kvs.map (·.1)))) (some ([] : List Int))))).bind fun xs => forM (fun (s4 : ((List (Int × Int)))) (x5 : Int) => (bindM (M2 modI (M2 subI (M3 dgetD ((some x_one).bind fun d => some d.kvs) (some x5) (some (0 : Int))) (M2 mulI (some x_digit) (M3 dgetD ((some x_other).bind fun d => some d.kvs) (some x5) (some (0 : Int))))) (some x_prime)) fun b6 => (bindM (iteM (M2 gtI (some b6) (some (0 : Int))) (bindM (M2 (fun x k => putM s4 k x) (some b6) (some x5)) fun b7 => (some b7)) (some s4)) fun b9 => (some b9)))) b1 xs) fun b10 => (some (Dct.mk b10))))
def m_cleared  (x_prime : Int) (x_vector : (Dct Int)) (x_parts : (List Int)) (x_done : (RdL (SR.T3 Int (Dct Int) (List Int)))) : Option ((Dct Int) × (List Int)) := (bindM ((some x_done.xs).bind fun xs => forM (fun (s1 : ((Dct Int) × (List Int))) (x2 : (SR.T3 Int (Dct Int) (List Int))) => (bindM (M3 dgetD ((some s1.1).bind fun d => some d.kvs) (some x2.a) (some (0 : Int))) fun b3 => (bindM (iteM (M2 gtI (some b3) (some (0 : Int))) (bindM (M4 m_less (some x_prime) (some s1.1) (some x2.b) (some b3)) fun b4 => (bindM (lcM (fun x5 : (Int × Int) => (some true)) (fun x5 : (Int × Int) => (M2 modI (M2 subI (some x5.1) (M2 mulI (some b3) (some x5.2))) (some x_prime))) (M2 zipM (some s1.2) (some x2.c))) fun b6 => (some (b4, b6)))) (some (s1.1, s1.2))) fun b8 => (some (b8.1, b8.2))))) (x_vector, x_parts) xs) fun b9 => (M2 pairM (some b9.1) (some b9.2)))
def m_spanned  (x_prime : Int) (x_vectors : (List (Dct Int))) : Option (SR.T3 (List (SR.T3 Int (Dct Int) (List Int))) (List (List Int)) (List Int)) := (bindM (some ([] : (List (SR.T3 Int (Dct Int) (List Int))))) fun b1 => (bindM (some ([] : (List (List Int)))) fun b2 => (bindM (some ([] : (List Int))) fun b3 => (bindM ((M1 enumM (some x_vectors)).bind fun xs => forM (fun (s4 : ((List (List Int)) × (List (SR.T3 Int (Dct Int) (List Int))) × (List Int))) (x5 : (Int × (Dct Int))) => (bindM (M4 m_cleared (some x_prime) (some x5.2) (lcM (fun x6 : Int => (some true)) (fun x6 : Int => (M1 intB (M2 eqI (some x6) (some x5.1)))) (M1 (rangeM 0) (M1 lenM (some x_vectors)))) (M1 rdM (some s4.2.1))) fun b7 => (bindM (iteM (M1 dnilM ((some b7.1).bind fun d => some d.kvs)) (bindM (M1 (addL s4.1) (some b7.2)) fun b8 => (some (b8, s4.2.1, s4.2.2))) (bindM (M2 ixM (lcM (fun x12 : Int => (some true)) (fun x12 : Int => (some x12)) (some (b7.1.kvs.map (·.1)))) (some (0 : Int))) fun b13 => (bindM (M2 m_inverse (some x_prime) (M2 dgetM ((some b7.1).bind fun d => some d.kvs) (some b13))) fun b14 => (bindM (dcM (fun x15 : (Int × Int) => (some true)) (fun x15 : (Int × Int) => (some x15.1)) (fun x15 : (Int × Int) => (M2 modI (M2 mulI (some x15.2) (some b14)) (some x_prime))) (some b7.1.kvs)) fun b16 => (bindM (M1 (addL s4.2.1) (M3 tripM (some b13) (some (Dct.mk b16)) (lcM (fun x17 : Int => (some true)) (fun x17 : Int => (M2 modI (M2 mulI (some x17) (some b14)) (some x_prime))) (some b7.2)))) fun b18 => (bindM (M1 (addL s4.2.2) (some x5.1)) fun b19 => (some (s4.1, b18, b19)))))))) fun b21 => (some (b21.1, b21.2.1, b21.2.2))))) (b2, b1, b3) xs) fun b22 => (M3 tripM (some b22.2.1) (some b22.1) (some b22.2.2))))))
def m_fits  (x_rule : Flt) (x_digits : (SR.LT Int)) : Option Bool := (iteM (SR.orM (SR.notM ((some x_rule).bind fun _ => some true)) (SR.notM (M1 m_Filter_bool (some x_rule)))) none (iteM (SR.notM (M2 m_are_digits ((some x_rule).bind fun r => some r.prime) (some x_digits))) none (bindM (M2 pairM (M1 m_Filter_low (some x_rule)) (M2 subI (M1 ltLen (some x_digits)) ((M1 m_Filter_span (some x_rule)).bind fun x => x))) fun b1 => ((M1 (rangeM 0) (M2 max2I (some (0 : Int)) (some b1.2))).bind fun xs => (loopM (fun (s2 : Unit) (x3 : Int) => (iteM (M2 gtI (M2 modI (M1 sumM (lcM (fun x8 : (Int × Int) => (some true)) (fun x8 : (Int × Int) => (M2 mulI (some x8.2) (M2 ltIx (some x_digits) (M2 subI (M2 addI (some x3) (some x8.1)) ((some b1.1).bind fun x => x))))) (M1 m_Filter_terms (some x_rule)))) ((some x_rule).bind fun r => some r.prime)) (some (0 : Int))) ((some false).bind fun r => some (Out.rt r)) (some (Out.nx ())))) () xs).bind fun o => outM (fun (s4 : Unit) => (some true)) o))))
def m_rules_that_fit  (x_prime : Int) (x_digits : (SR.LT Int)) (x_span : Int) : Option ((Option Flt) × Bool) := (iteM (M2 eqI (some x_span) (some (0 : Int))) (M2 pairM (iteM (SR.notM (M1 (fun t => anyI t.xs) (some x_digits))) ((M2 m_Filter_init (some x_prime) (M1 capM (M2 consM (M2 pairM (some (0 : Int)) (some (1 : Int))) (some ([] : List (Int × Int)))))).bind fun x => some (some x)) (some (none : (Option Flt)))) (some true)) (bindM (M2 max2I (some (0 : Int)) (M2 subI (M1 ltLen (some x_digits)) (some x_span))) fun b1 => (bindM (some ([] : (List (Dct Int)))) fun b2 => (bindM ((M1 (rangeM 0) (M2 addI (some x_span) (some (1 : Int)))).bind fun xs => forM (fun (s3 : ((List (Dct Int)))) (x4 : Int) => (bindM (M1 (addL s3) ((dcM (fun x5 : Int => (M2 gtI (M2 ltIx (some x_digits) (M2 addI (some x5) (some x4))) (some (0 : Int)))) (fun x5 : Int => (some x5)) (fun x5 : Int => (M2 ltIx (some x_digits) (M2 addI (some x5) (some x4)))) (M1 (rangeM 0) (some b1))).bind fun kvs => some (Dct.mk kvs))) fun b6 => (some b6))) b2 xs) fun b7 => (bindM (M2 m_spanned (some x_prime) (some b7)) fun b8 => (bindM (lcM (fun x9 : (List Int) => (M2 gtI (M2 ixM (some x9) (some x_span)) (some (0 : Int)))) (fun x9 : (List Int) => (some x9)) (some b8.b)) fun b10 => (iteM (M2 eqL (some b10) (some ([] : (List (List Int))))) (M2 pairM (some (none : (Option Flt))) (some false)) (bindM (M2 m_inverse (some x_prime) (M2 ixM (M2 ixM (some b10) (some (0 : Int))) (some x_span))) fun b11 => (bindM (lcM (fun x12 : Int => (some true)) (fun x12 : Int => (M2 modI (M2 mulI (some b11) (some x12)) (some x_prime))) (M2 ixM (some b10) (some (0 : Int)))) fun b13 => (bindM (lcM (fun x14 : (List Int) => (M2 eqI (M2 ixM (some x14) (some x_span)) (some (0 : Int)))) (fun x14 : (List Int) => (some x14)) (some b8.b)) fun b15 => (bindM (lcM (fun x16 : (List Int) => (M2 gtI (M2 ixM (some x16) (some (0 : Int))) (some (0 : Int)))) (fun x16 : (List Int) => (some x16)) (some b15)) fun b17 => (iteM (SR.andM (M2 eqI (M2 ixM (some b13) (some (0 : Int))) (some (0 : Int))) (M2 eqL (some b17) (some ([] : (List (List Int)))))) (M2 pairM (some (none : (Option Flt))) (some false)) (bindM (iteM (M2 eqI (M2 ixM (some b13) (some (0 : Int))) (some (0 : Int))) (bindM (lcM (fun x18 : (Int × Int) => (some true)) (fun x18 : (Int × Int) => (M2 modI (M2 addI (some x18.1) (some x18.2)) (some x_prime))) (M2 zipM (some b13) (M2 ixM (some b17) (some (0 : Int))))) fun b19 => (some b19)) (some b13)) fun b21 => (bindM (SR.orM (M2 eqL (some b15) (some ([] : (List (List Int))))) (SR.andM (M2 eqI (some x_prime) (some (2 : Int))) (SR.andM (M2 eqI (M1 lenM (some b15)) (some (1 : Int))) (M2 neqL (some b17) (some ([] : (List (List Int)))))))) fun b22 => (M2 pairM ((M2 m_Filter_init (some x_prime) (lcM (fun x23 : (Int × Int) => (some true)) (fun x23 : (Int × Int) => (M2 pairM (some x23.1) (some x23.2))) (M1 enumM (some b21)))).bind fun x => some (some x)) (some b22))))))))))))))))
def m_guessed  (x_prime : Int) (x_digits : (SR.LT Int)) : Option (Sqn × Bool) := (iteM (SR.notM (M1 m_is_prime (some x_prime))) none (iteM (SR.notM (M2 m_are_digits (some x_prime) (some x_digits))) none (bindM (M2 pairM (some (0 : Int)) (some (none : (Option Flt)))) fun b1 => (bindM (whileP (M2 isN (some b1.2) (some ())) (bindM (M3 m_rules_that_fit (some x_prime) (some x_digits) (some b1.1)) fun b2 => (bindM (augM (fun i j => i + j) b1.1 (some (1 : Int))) fun b3 => (some (b2.1, b2.2, b3)))) (fun (s4 : ((Option Flt) × Bool × Int)) => (M2 isN (some s4.1) (some ()))) (fun (s4 : ((Option Flt) × Bool × Int)) => (bindM (M3 m_rules_that_fit (some x_prime) (some x_digits) (some s4.2.2)) fun b5 => (bindM (augM (fun i j => i + j) s4.2.2 (some (1 : Int))) fun b6 => (some (b5.1, b5.2, b6))))) 64) fun b7 => (M2 pairM (M2 m_Sequence_init ((some b7.1).bind fun x => x) (M3 cutM (M1 ltL (some x_digits)) (some none) (((M1 m_Filter_span ((some b7.1).bind fun x => x)).bind fun x => x).bind fun i => some (some i)))) (some b7.2.1))))))
def m_Sequence_zero (x_prime : Int) : Option Sqn := M2 m_Sequence_init (M2 m_Filter_init (some x_prime) (M1 capM (M2 consM (M2 pairM (some (0 : Int)) (some (1 : Int))) (some ([] : List (Int × Int)))))) (some ([] : List Int))

def m__law_all_rows : Nat → Int → Int → Option (List (List Int))
  | 0, _, _ => none
  | k + 1, x_p, x_many => (iteM (M2 eqI (some x_many) (some (0 : Int))) (M1 capM (M2 consM (some ([] : (List Int))) (some ([] : List (List Int))))) (bindM (some ([] : (List (List Int)))) fun b1 => (bindM ((M2 (fun a b => m__law_all_rows k a b) (some x_p) (M2 subI (some x_many) (some (1 : Int)))).bind fun xs => forM (fun (s2 : ((List (List Int)))) (x3 : (List Int)) => (bindM (M1 (extL s2) (lcM (fun x4 : Int => (some true)) (fun x4 : Int => (M2 catM (some x3) (M1 capM (M2 consM (some x4) (some ([] : List Int)))))) (M1 (rangeM 0) (some x_p)))) fun b5 => (some b5))) b1 xs) fun b6 => (some b6))))
def m__law_fits  (x_p : Int) (x_row : (List Int)) (x_digits : (List Int)) : Option Bool := ((M1 (rangeM 0) (M2 addI (M2 subI (M1 lenM (some x_digits)) (M1 lenM (some x_row))) (some (1 : Int)))).bind fun xs => (loopM (fun (s1 : Unit) (x2 : Int) => (iteM (M2 neI (M2 modI (M1 sumM (lcM (fun x7 : (Int × Int) => (some true)) (fun x7 : (Int × Int) => (M2 mulI (some x7.2) (M2 ixM (some x_digits) (M2 addI (some x2) (some x7.1))))) (M1 enumM (some x_row)))) (some x_p)) (some (0 : Int))) ((some false).bind fun r => some (Out.rt r)) (some (Out.nx ())))) () xs).bind fun o => outM (fun (s3 : Unit) => (some true)) o)
def m__law_rules  (x_p : Int) (x_digits : (List Int)) (x_span : Int) : Option (List (List Int)) := (iteM (M2 eqI (some x_span) (some (0 : Int))) (iteM (SR.notM (M1 anyI (some x_digits))) (M1 capM (M2 consM (M1 capM (M2 consM (some (1 : Int)) (some ([] : List Int)))) (some ([] : List (List Int))))) (some ([] : (List (List Int))))) (bindM (some ([] : (List (List Int)))) fun b1 => (bindM ((M2 rangeM (some (1 : Int)) (some x_p)).bind fun xs => forM (fun (s2 : ((List (List Int)))) (x3 : Int) => (bindM (M1 (extL s2) (lcM (fun x4 : (List Int) => (some true)) (fun x4 : (List Int) => (M2 catM (M2 catM (M1 capM (M2 consM (some x3) (some ([] : List Int)))) (some x4)) (M1 capM (M2 consM (some (1 : Int)) (some ([] : List Int)))))) (M2 (m__law_all_rows 8) (some x_p) (M2 subI (some x_span) (some (1 : Int)))))) fun b5 => (some b5))) b1 xs) fun b6 => (lcM (fun x7 : (List Int) => (M3 m__law_fits (some x_p) (some x7) (some x_digits))) (fun x7 : (List Int) => (some x7)) (some b6)))))
def m__law_shortest  (x_p : Int) (x_digits : (List Int)) : Option (List (List Int)) := ((M1 (rangeM 0) (M2 addI (M1 lenM (some x_digits)) (some (1 : Int)))).bind fun xs => (loopM (fun (s1 : Unit) (x2 : Int) => (bindM (M3 m__law_rules (some x_p) (some x_digits) (some x2)) fun b4 => (iteM (M2 neqL (some b4) (some ([] : (List (List Int))))) ((some b4).bind fun r => some (Out.rt r)) (some (Out.nx ()))))) () xs).bind fun o => outM (fun (s3 : Unit) => (some ([] : (List (List Int))))) o)
def m__law_take (x_size : Int) : Mi Int := (bnd (fun n P => (bnd (fun n P => P (n : Int) n) fun x => bnd (SR.opt (some (1 : Int))) fun y => SR.opt (addI x y)) n fun v n1 => v = (n1 : Int) + 1 ∧ P () (n1 + 1)) fun _ => bnd (ret ()) fun _ =>
  iteN (bnd (fun n P => ∀ c : Int, 0 ≤ c → P c n) fun x => bnd (SR.opt (some (0 : Int))) fun y => SR.opt (gtI x y))
    (bnd (bnd (fun n P => ∀ c : Int, 0 ≤ c → P c n) fun x => bnd (SR.opt (some x_size)) fun y => SR.opt (modI x y)) fun b =>
      bnd (fun n P => (bnd (fun n P => ∀ c : Int, 0 ≤ c → P c n) fun x => bnd (SR.opt (some x_size)) fun y => SR.opt (divI x y)) n fun v n1 => 0 ≤ v ∧ P () n1) fun _ => SR.opt (some b))
    (bnd (fun n P => ∀ c : Int, P c n) fun cell =>
      bnd (bnd (bnd (SR.opt (some cell)) fun x => bnd (SR.opt (some (2147483647 : Int))) fun y => SR.opt (modI x y)) fun x => bnd (bnd (bnd (SR.opt (some (7919 : Int))) fun x => bnd (fun n P => P (n : Int) n) fun y => SR.opt (mulI x y)) fun x => bnd (fun n P => P (n : Int) n) fun y => SR.opt (mulI x y)) fun y => SR.opt (addI x y)) fun whole =>
      bnd (bnd (bnd (bnd (bnd (SR.opt (some whole)) fun x => bnd (bnd (SR.opt (some (104729 : Int))) fun x => bnd (fun n P => P (n : Int) n) fun y => SR.opt (mulI x y)) fun y => SR.opt (addI x y)) fun x => bnd (SR.opt (some (5 : Int))) fun y => SR.opt (addI x y)) fun x => bnd (SR.opt (some (5 : Int))) fun y => SR.opt (powI x y)) fun x => bnd (SR.opt (some (2147483629 : Int))) fun y => SR.opt (modI x y)) fun mixed =>
      bnd (bnd (bnd (bnd (bnd (SR.opt (some mixed)) fun x => bnd (SR.opt (some (40692 : Int))) fun y => SR.opt (mulI x y)) fun x => bnd (bnd (SR.opt (some (6151 : Int))) fun x => bnd (fun n P => P (n : Int) n) fun y => SR.opt (mulI x y)) fun y => SR.opt (addI x y)) fun x => bnd (SR.opt (some (1000000007 : Int))) fun y => SR.opt (modI x y)) fun x => bnd (SR.opt (some (3 : Int))) fun y => SR.opt (divI x y)) fun x => bnd (SR.opt (some x_size)) fun y => SR.opt (modI x y)))
theorem opt_some {α : Type} (x : α) (n : Nat) (P : α → Nat → Prop) : SR.opt (some x) n P = P x n := by
  unfold SR.opt
  exact propext ⟨fun ⟨y, h, p⟩ => by rw [Option.some.inj h]; exact p, fun p => ⟨x, rfl, p⟩⟩
theorem mul_ok {i j : Int} (h1 : -18446744073709551616 < i) (h2 : i < 18446744073709551616) : mulI i j = some (i * j) := by
  unfold mulI inRange
  rw [if_pos (by simp; omega)]
theorem mod_ok {i j : Int} (h : 0 < j) : modI i j = some (i % j) := by unfold modI; rw [if_pos h]
theorem div_ok {i j : Int} (h : 0 < j) (h2 : j < 1073741824) : divI i j = some (i / j) := by unfold divI; rw [if_pos ⟨h, h2⟩]
theorem pow5_ok {i : Int} (h1 : 0 ≤ i) (h2 : i < 18446744073709551616) : powI i 5 = some (i ^ 5) := by unfold powI; rw [if_pos (by omega)]; rfl
theorem take_ok (x_size : Int) (n : Nat) (P : Int → Nat → Prop) (h : draw x_size n P) : m__law_take x_size n P := by
  obtain ⟨h1, h2, h3, h4⟩ := h
  unfold m__law_take
  simp only [SR.bnd, SR.ret, iteN, opt_some, addI, gtI, mod_ok h1, div_ok h1 h2]
  refine ⟨trivial, fun c hc => ?_⟩
  split
  · simp only [SR.bnd, SR.ret, opt_some, addI, gtI, mod_ok h1, div_ok h1 h2]
    intro c2 hc2 c3 hc3
    exact ⟨Int.ediv_nonneg hc3 (by omega), h4 _ (Int.emod_nonneg _ (by omega)) (Int.emod_lt_of_pos _ h1)⟩
  · simp only [SR.bnd, SR.ret, opt_some, addI, gtI, mod_ok h1, div_ok h1 h2]
    intro cell
    have e1 : 0 ≤ cell % 2147483647 := Int.emod_nonneg _ (by decide)
    have e2 : cell % 2147483647 < 2147483647 := Int.emod_lt_of_pos _ (by decide)
    rw [mod_ok (by decide)]
    simp only [opt_some]
    rw [mul_ok (by decide) (by decide)]
    simp only [opt_some]
    generalize hN : ((n + 1 : Nat) : Int) = N
    have n1 : 0 ≤ N := by omega
    have n2 : N ≤ 1000000 := by omega
    rw [mul_ok (by omega) (by omega)]
    simp only [opt_some]
    rw [mul_ok (by decide) (by decide)]
    simp only [opt_some]
    have k1 : 0 ≤ 7919 * N * N := Int.mul_nonneg (by omega) n1
    have k2 : 7919 * N * N ≤ 7919 * 1000000 * 1000000 := Int.mul_le_mul (by omega) n2 n1 (by decide)
    rw [pow5_ok (by omega) (by omega)]
    simp only [opt_some]
    rw [mod_ok (by decide)]
    simp only [opt_some]
    generalize hM : (cell % 2147483647 + 7919 * N * N + 104729 * N + 5) ^ 5 % 2147483629 = M
    have m1 : 0 ≤ M := by rw [← hM]; exact Int.emod_nonneg _ (by decide)
    have m2 : M < 2147483629 := by rw [← hM]; exact Int.emod_lt_of_pos _ (by decide)
    rw [mul_ok (by omega) (by omega)]
    simp only [opt_some]
    rw [mul_ok (by decide) (by decide)]
    simp only [opt_some]
    rw [mod_ok (by decide)]
    simp only [opt_some]
    rw [div_ok (by decide) (by decide)]
    simp only [opt_some]
    exact h4 _ (Int.emod_nonneg _ (by omega)) (Int.emod_lt_of_pos _ h1)

def m__law_pick (x_things : (List (SR.LT Int))) : Mi (SR.LT Int) := (bnd (SR.opt (some x_things)) fun y1 => (bnd (bnd (SR.opt (M1 lenM (some x_things))) draw) fun y2 => SR.opt (ixM y1 y2)))
def m__law_some_digits (x_p : Int) : Mi (List Int) := (bnd (bnd (bnd (SR.opt (iteM (M2 eqI (some x_p) (some (2 : Int))) (some (8 : Int)) (some (7 : Int)))) draw) fun y1 => (bnd (bnd (SR.opt (some (3 : Int))) draw) fun y2 => ret (y1, y2))) fun b1 => (iteN (SR.opt (M2 eqI (some b1.2) (some (0 : Int)))) (bnd (SR.opt (Option.bind (M1 (rangeM 0) (some b1.1)) capN)) fun xs => lcN (fun x2 : Int => (bnd (SR.opt (some x_p)) draw)) xs) (bnd (bnd (SR.opt (some (1 : Int))) fun y1 => (bnd (bnd (SR.opt (some (3 : Int))) draw) fun y2 => SR.opt (addI y1 y2))) fun b3 => (bnd (bnd (bnd (bnd (bnd (bnd (SR.opt (some (0 : Int))) fun y1 => (bnd (bnd (SR.opt (some (1 : Int))) fun y1 => (bnd (bnd (SR.opt (M2 subI (some x_p) (some (1 : Int)))) draw) fun y2 => SR.opt (addI y1 y2))) fun y2 => ret (y1, y2))) fun x => bnd (ret ([] : List (Int × Int))) fun xs => ret (x :: xs)) fun xs => SR.opt (capM xs)) fun y1 => (bnd (bnd (SR.opt (Option.bind (M2 rangeM (some (1 : Int)) (some b3)) capN)) fun xs => lcN (fun x5 : Int => (bnd (SR.opt (some x5)) fun y1 => (bnd (bnd (SR.opt (some x_p)) draw) fun y2 => ret (y1, y2)))) xs) fun y2 => SR.opt (catM y1 y2))) fun y1 => (bnd (SR.opt (M1 capM (M2 consM (M2 pairM (some b3) (some (1 : Int))) (some ([] : List (Int × Int)))))) fun y2 => SR.opt (catM y1 y2))) fun b6 => (bnd (bnd (bnd (SR.opt (M2 m_Filter_init (some x_p) (some b6))) fun y1 => (bnd (bnd (SR.opt (Option.bind (M1 (rangeM 0) (some b3)) capN)) fun xs => lcN (fun x7 : Int => (bnd (SR.opt (some x_p)) draw)) xs) fun y2 => SR.opt (m_Sequence_init y1 y2))) fun y1 => (bnd (SR.opt (some (0 : Int))) fun y2 => (bnd (SR.opt (some b1.1)) fun y3 => SR.opt (m_Sequence_digits y1 y2 y3)))) fun b8 => (bnd (iteN (SR.opt (SR.andM (M2 eqI (some b1.2) (some (1 : Int))) (M2 gtI (some b1.1) (some (0 : Int))))) (bnd (bnd (SR.opt (some b1.1)) draw) fun b9 => (bnd (SR.opt (M2 (fun x j => setL b8 j x) (M2 modI (M1 intI (M2 addI (M2 ixM (some b8) (some b9)) (some (1 : Int)))) (some x_p)) (some b9))) fun b10 => (ret b10))) (ret b8)) fun b12 => (SR.opt (some b12))))))))
def m_law : Mi Bool := (bnd (SR.opt (M1 (rangeM 0) (some (4 : Int)))) fun xs => bnd (loopN (fun (s1 : Unit) (x2 : Int) => (bnd (bnd (SR.opt (M1 capM (M2 consM (some (2 : Int)) (M2 consM (some (3 : Int)) (some ([] : List Int)))))) fun y1 => (bnd (bnd (SR.opt (some (2 : Int))) draw) fun y2 => SR.opt (ixM y1 y2))) fun b4 => (bnd (bnd (bnd (SR.opt (some b4)) m__law_some_digits) fun y1 => (bnd (bnd (bnd (SR.opt (some (9 : Int))) draw) fun y1 => (bnd (SR.opt (some (4 : Int))) fun y2 => SR.opt (subI y1 y2))) fun y2 => ret (y1, y2))) fun b5 => (bnd (bnd (SR.opt (some b4)) fun y1 => (bnd (bnd (SR.opt (some (1 : Int))) fun y1 => (bnd (bnd (SR.opt (some (3 : Int))) draw) fun y2 => SR.opt (addI y1 y2))) fun y2 => SR.opt (m__law_all_rows 8 y1 y2))) fun xs => bnd (loopN (fun (s6 : Unit) (x7 : (List Int)) => (iteN (SR.opt (M1 anyI (some x7))) (bnd (SR.opt (M2 m_Filter_init (some b4) (lcM (fun x10 : (Int × Int) => (some true)) (fun x10 : (Int × Int) => (M2 pairM (M2 addI (some x10.1) (some b5.2)) (some x10.2))) (M1 enumM (some x7))))) fun b11 => (bnd (SR.opt (lcM (fun x12 : Int => (some true)) (fun x12 : Int => (some x12)) (some x7))) fun b13 => (bnd (SR.opt (whileM (fun (s14 : ((List Int))) => (M2 eqI (M2 ixM (some s14) (some (0 : Int))) (some (0 : Int)))) (fun (s14 : ((List Int))) => (bindM (M3 cutM (some s14) ((some (1 : Int)).bind fun i => some (some i)) (some none)) fun b15 => (some b15))) 8 b13)) fun b16 => (bnd (SR.opt (whileM (fun (s17 : ((List Int))) => (M2 eqI (M2 ixM (some s17) ((some (1 : Int)).bind fun i => some (-i))) (some (0 : Int)))) (fun (s17 : ((List Int))) => (bindM (M3 cutM (some s17) (some none) (((some (1 : Int)).bind fun i => some (-i)).bind fun i => some (some i))) fun b18 => (some b18))) 8 b16)) fun b19 => (iteN (bnd (bnd (SR.opt (some b11)) fun y1 => (bnd (bnd (SR.opt (M1 capM (M2 consM (M1 ltM (some b5.1)) (M2 consM (M1 ltT ((some b5.1).bind fun xs => some (Tup.mk xs))) (some ([] : List (SR.LT Int))))))) m__law_pick) fun y2 => SR.opt (m_fits y1 y2))) fun y1 => (bnd (SR.opt (M3 m__law_fits (some b4) (some b19) (some b5.1))) fun y2 => SR.opt (neB y1 y2))) (bnd (SR.opt (some false)) fun r => ret (.rt r)) (ret (Out.nx ()))))))) (ret (Out.nx ())))) () xs) fun o => outN (fun (s8 : Unit) => (bnd (bnd (SR.opt (M2 m__law_shortest (some b4) (some b5.1))) fun y1 => (bnd (bnd (SR.opt (some b4)) fun y1 => (bnd (bnd (SR.opt (M1 capM (M2 consM (M1 ltM (some b5.1)) (M2 consM (M1 ltT ((some b5.1).bind fun xs => some (Tup.mk xs))) (some ([] : List (SR.LT Int))))))) m__law_pick) fun y2 => SR.opt (m_guessed y1 y2))) fun y2 => ret (y1, y2))) fun b20 => (iteN (SR.opt (SR.orM (SR.notM ((some b20.2).bind fun _ => some true)) (SR.orM (M2 neI ((some b20.2).bind fun _ => some (2 : Int)) (some (2 : Int))) (M2 neB ((some b20.2).bind fun x => some x.2) (M2 eqI (M1 lenM (some b20.1)) (some (1 : Int))))))) (bnd (SR.opt (some false)) fun r => ret (.rt r)) (bnd (SR.opt ((some b20.2).bind fun x => some x.1)) fun b21 => (iteN (SR.opt (SR.orM (M2 neqL (M3 m_Sequence_digits (some b21) (some (0 : Int)) (M1 lenM (some b5.1))) (some b5.1)) (SR.orM (M2 neI ((M1 m_Filter_span (M1 m_Sequence_rule (some b21))).bind fun x => x) (M2 subI (M1 lenM (M2 ixM (some b20.1) (some (0 : Int)))) (some (1 : Int)))) (M2 (nePB m_Sequence_eq) (M2 m_guessed (some b4) (M1 ltM (some b5.1))) (some b20.2))))) (bnd (SR.opt (some false)) fun r => ret (.rt r)) (iteN (SR.opt (SR.andM (M2 geI (M1 lenM (some b5.1)) (M2 mulI (some (2 : Int)) ((M1 m_Filter_span (M1 m_Sequence_rule (some b21))).bind fun x => x))) (SR.notM ((some b20.2).bind fun x => some x.2)))) (bnd (SR.opt (some false)) fun r => ret (.rt r)) (ret (Out.nx ())))))))) o)))) () xs) fun o => outR (fun (s3 : Unit) => (SR.opt (M2 (eqPB m_Sequence_eq) (M2 m_guessed (some (5 : Int)) (M1 ltM (some ([] : (List Int))))) (M2 pairM (M1 m_Sequence_zero (some (5 : Int))) (some true))))) o)
end W82
end
section
set_option Elab.async false
set_option linter.all false
set_option maxRecDepth 2000
set_option maxHeartbeats 4000000
namespace W82
open PySem PySem.Spec PyProof.Rows L2 SR
theorem atI_map {α β : Type} (g : α → β) (xs : List α) (i : Int) : atI (xs.map g) i = (atI xs i).map g := by
  unfold atI
  rw [List.length_map]
  cases ixN xs.length i with
  | none => rfl
  | some j => simp
theorem lcGo_map {α β γ : Type} (t : β → Option Bool) (f : β → Option γ) (g : α → β) : ∀ xs : List α, lcGo t f (xs.map g) = lcGo (fun x => t (g x)) (fun x => f (g x)) xs
  | [] => rfl
  | x :: xs => by
    show ((t (g x)).bind fun b => if b = true then (f (g x)).bind fun y => (lcGo t f (xs.map g)).bind fun ys => some (y :: ys) else lcGo t f (xs.map g)) = _
    rw [lcGo_map t f g xs]
    rfl
theorem lcM_map {α β γ : Type} (t : β → Option Bool) (f : β → Option γ) (g : α → β) (xs : List α) : lcM t f (some (xs.map g)) = lcM (fun x => t (g x)) (fun x => f (g x)) (some xs) := by
  unfold lcM
  rw [Option.bind_some, Option.bind_some, lcGo_map]
  by_cases h : (xs.length : Int) < cap
  · rw [if_pos h, if_pos (by rw [List.length_map]; exact h)]
  · rw [if_neg h, if_neg (by rw [List.length_map]; exact h)]
theorem neL_map {α β : Type} (g : α → β) (xs : List α) : neL (xs.map g) = neL xs := by cases xs <;> rfl
/-- fits does not see where a filter lies -/
theorem fits_shift (p : Int) (kept : List (Int × Int)) (h h' : Dct Int) (c : Int) (ds : SR.LT Int) : m_fits ⟨p, kept.map fun x => (x.1 + c, x.2), h'⟩ ds = m_fits ⟨p, kept, h⟩ ds := by
  unfold m_fits m_Filter_bool m_Filter_low m_Filter_span m_Filter_terms
  simp -implicitDefEqProofs only [SR.M1, SR.M2, Option.bind_some, neL_map, ixM, atI_map, lcM_map, subI, addI, SR.bindM]
  cases kept with
  | nil =>
    simp -implicitDefEqProofs only [neL, List.isEmpty_nil, Bool.not_true, Option.bind_some, SR.notM, SR.orM, SR.iteM, Bool.not_false, if_true, Bool.false_eq_true, if_false]
  | cons k r =>
    have e0 : atI (k :: r) 0 = some k := by unfold atI ixN; simp
    simp -implicitDefEqProofs only [e0, neL, Option.bind_some, Option.map_some, List.isEmpty_cons, Bool.not_false, if_true]
    cases atI (k :: r) (-1) with
    | none =>
      simp -implicitDefEqProofs only [Option.map_none, Option.bind_none]
      cases ltLen ds <;> simp -implicitDefEqProofs only [Option.bind_none, Option.bind_some]
    | some l =>
      simp -implicitDefEqProofs only [Option.map_some, Option.bind_some, show ∀ a b : Int, a + c - (b + c) = a - b from fun a b => by omega]
      cases ltLen ds with
      | none => simp -implicitDefEqProofs only [Option.bind_none]
      | some z => simp -implicitDefEqProofs only [Option.bind_some, SR.pairM, show ∀ s a b : Int, s + (a + c) - (b + c) = s + a - b from fun s a b => by omega]
end W82
end
section
set_option Elab.async false
set_option linter.all false
set_option maxRecDepth 100000
set_option maxHeartbeats 4000000
namespace W82
open PySem PySem.Spec PyProof.Rows SR
/-! ### what is checked list by list -/
def eA (told : Sqn × Bool) (due : List (List Int)) : Option Bool := (SR.orM (SR.notM ((some told).bind fun _ => some true)) (SR.orM (SR.M2 neI ((some told).bind fun _ => some (2 : Int)) (some (2 : Int))) (SR.M2 neB ((some told).bind fun x => some x.2) (SR.M2 eqI (SR.M1 lenM (some due)) (some (1 : Int))))))
def eB (ds : List Int) (due : List (List Int)) (told : Sqn × Bool) (x : Sqn) (g : Option (Sqn × Bool)) : Option Bool := (SR.orM (SR.M2 neqL (SR.M3 m_Sequence_digits (some x) (some (0 : Int)) (SR.M1 lenM (some ds))) (some ds)) (SR.orM (SR.M2 neI ((SR.M1 m_Filter_span (SR.M1 m_Sequence_rule (some x))).bind fun x => x) (SR.M2 subI (SR.M1 lenM (SR.M2 ixM (some due) (some (0 : Int)))) (some (1 : Int)))) (SR.M2 (nePB m_Sequence_eq) g (some told))))
def eC (ds : List Int) (told : Sqn × Bool) (x : Sqn) : Option Bool := (SR.andM (SR.M2 geI (SR.M1 lenM (some ds)) (SR.M2 mulI (some (2 : Int)) ((SR.M1 m_Filter_span (SR.M1 m_Sequence_rule (some x))).bind fun x => x))) (SR.notM ((some told).bind fun x => some x.2)))
def chk1 {α : Type} (a : Option α) (F : α → Bool) : Bool := match a with
  | some x => F x
  | none => false
theorem chk1_ok {α : Type} {a : Option α} {F : α → Bool} (h : chk1 a F = true) : ∃ x, a = some x ∧ F x = true := by
  cases a with
  | none => cases h
  | some x => exact ⟨x, rfl, h⟩
theorem and2 {P Q : Prop} [Decidable P] [Decidable Q] (h : (decide P && decide Q) = true) : P ∧ Q := by simpa using h
theorem and3 {P Q R : Prop} [Decidable P] [Decidable Q] [Decidable R] (h : (decide P && (decide Q && decide R)) = true) : P ∧ Q ∧ R := by simpa using h
def gChk (p : Int) (ds : List Int) : Bool := chk1 (m__law_shortest p ds) fun due => chk1 (m_guessed p ⟨ds⟩) fun told => decide (eA told due = some false) && (decide (eB ds due told told.1 (some told) = some false) && decide (eC ds told told.1 = some false))
theorem gChk_ok {p : Int} {ds : List Int} (h : gChk p ds = true) : ∃ due told, m__law_shortest p ds = some due ∧ m_guessed p ⟨ds⟩ = some told ∧ eA told due = some false ∧ eB ds due told told.1 (some told) = some false ∧ eC ds told told.1 = some false := by
  obtain ⟨due, h1, h⟩ := chk1_ok h
  obtain ⟨told, h2, h⟩ := chk1_ok h
  exact ⟨due, told, h1, h2, and3 h⟩
/-! ### rows -/
def mkF (p mv : Int) (row : List Int) : Option Flt := (SR.M2 m_Filter_init (some p) (lcM (fun x10 : (Int × Int) => (some true)) (fun x10 : (Int × Int) => (SR.M2 SR.pairM (SR.M2 addI (some x10.1) (some mv)) (some x10.2))) (SR.M1 enumM (some row))))
def copyM (row : List Int) : Option (List Int) := (lcM (fun x12 : Int => (some true)) (fun x12 : Int => (some x12)) (some row))
def strip1 (b13 : List Int) : Option (List Int) := (whileM (fun (s14 : ((List Int))) => (SR.M2 eqI (SR.M2 ixM (some s14) (some (0 : Int))) (some (0 : Int)))) (fun (s14 : ((List Int))) => (SR.bindM (SR.M3 cutM (some s14) ((some (1 : Int)).bind fun i => some (some i)) (some none)) fun b15 => (some b15))) 8 b13)
def strip2 (b16 : List Int) : Option (List Int) := (whileM (fun (s17 : ((List Int))) => (SR.M2 eqI (SR.M2 ixM (some s17) ((some (1 : Int)).bind fun i => some (-i))) (some (0 : Int)))) (fun (s17 : ((List Int))) => (SR.bindM (SR.M3 cutM (some s17) (some none) (((some (1 : Int)).bind fun i => some (-i)).bind fun i => some (some i))) fun b18 => (some b18))) 8 b16)
/-- the filter of a stripped row, at 0 -/
def flt (p : Int) (s : List Int) : Flt := ⟨p, (s.zipIdx.map fun x => ((x.2 : Int), x.1)).filter fun x => decide (0 < x.2), ⟨[]⟩⟩
def strips (p : Nat) : List (List Int) := ((rows p 1 ++ rows p 2) ++ rows p 3).filter fun s => decide (s.head? ≠ some 0) && decide (s.getLast? ≠ some 0)
def rowChk (p : Nat) (mv : Int) (row : List Int) : Bool := chk1 (mkF p mv row) fun f => chk1 (copyM row) fun c => chk1 (strip1 c) fun c1 => chk1 (strip2 c1) fun s =>
  decide (s ∈ strips p) && (decide (f.prime = p) && decide (f.kept = (flt p s).kept.map fun x => (x.1 + (f.kept.head?.map (·.1)).getD 0, x.2)))
theorem rowChk_ok {p : Nat} {mv : Int} {row : List Int} (h : rowChk p mv row = true) : ∃ f c c1 s k, mkF p mv row = some f ∧ copyM row = some c ∧ strip1 c = some c1 ∧ strip2 c1 = some s ∧ s ∈ strips p ∧ f = ⟨p, (flt p s).kept.map fun x => (x.1 + k, x.2), f.held⟩ := by
  obtain ⟨f, h1, h⟩ := chk1_ok h
  obtain ⟨c, h2, h⟩ := chk1_ok h
  obtain ⟨c1, h3, h⟩ := chk1_ok h
  obtain ⟨s, h4, h⟩ := chk1_ok h
  obtain ⟨h5, e1, e2⟩ := and3 h
  refine ⟨f, c, c1, s, (f.kept.head?.map (·.1)).getD 0, h1, h2, h3, h4, h5, ?_⟩
  obtain ⟨fp, fk, fh⟩ := f
  simp only at e1
  subst e1
  exact congrArg (fun z => Flt.mk p z fh) e2
def fitsChk (p : Nat) (s ds : List Int) : Bool := decide (m_fits (flt p s) ⟨ds⟩ = m__law_fits p s ds) && (m__law_fits p s ds).isSome
def moves : List Int := [-4, -3, -2, -1, 0, 1, 2, 3, 4]
def digs : Nat → List (List Int)
  | 2 => (List.range 8).flatMap (rows 2)
  | _ => (List.range 7).flatMap (rows 3)
/-! ### digits of what is drawn -/
def ruleOf (r0 : Int) (mid : List Int) : List (Int × Int) := (0, r0) :: ((mid.zipIdx.map fun x => ((x.2 : Int) + 1, x.1)) ++ [((mid.length : Int) + 1, 1)])
def seqChk (p : Nat) (r0 : Int) (mid front : List Int) (many : Nat) : Bool := chk1 (m_Filter_init p (ruleOf r0 mid)) fun f => chk1 (m_Sequence_init f front) fun s => chk1 (m_Sequence_digits s 0 many) fun ds => decide (ds.length = many) && decide (∀ d ∈ ds, 0 ≤ d ∧ d < p)
def seqAll (p top : Nat) : Bool := (List.range 3).all fun k => ((List.range (p - 1)).map fun (d : Nat) => (d : Int) + 1).all fun r0 => (rows p k).all fun mid => (rows p (k + 1)).all fun front => (List.range top).all fun many => seqChk p r0 mid front many
end W82
end
section
set_option Elab.async false
set_option linter.all false
set_option maxRecDepth 10000
set_option maxHeartbeats 4000000
namespace W82
open PySem PySem.Spec PyProof.Rows SR
structure OkP (p : Nat) : Prop where
  p23 : p = 2 ∨ p = 3
  row : ∀ k, 1 ≤ k → k ≤ 3 → ∀ r ∈ rows p k, r.all (fun d => decide (d = 0)) = true ∨ ∀ mv ∈ moves, rowChk p mv r = true
  fit : ∀ s ∈ strips p, ∀ ds ∈ digs p, fitsChk p s ds = true
  seq : ∀ k, k < 3 → ∀ d : Nat, d < p - 1 → ∀ mid ∈ rows p k, ∀ front ∈ rows p (k + 1), ∀ many, many < 10 - p → seqChk p (d + 1) mid front many = true
  g : ∀ ds ∈ digs p, gChk p ds = true
theorem M1_some {α β : Type} (f : α → Option β) (a : α) : SR.M1 f (some a) = f a := rfl
theorem M2_some {α β γ : Type} (f : α → β → Option γ) (a : α) (b : β) : SR.M2 f (some a) (some b) = f a b := rfl
theorem M3_some {α β γ δ : Type} (f : α → β → γ → Option δ) (a : α) (b : β) (c : γ) : SR.M3 f (some a) (some b) (some c) = f a b c := rfl
theorem sp_dr {m : Option Int} {size : Int} (e : m = some size) (h1 : 0 < size) (h2 : size < 1073741824) : Spec (SR.bnd (SR.opt m) draw) 1 fun d => 0 ≤ d ∧ d < size :=
  (sp_bnd (sp_opt (R := fun x => x = size) e rfl) fun x hx => by subst hx; exact sp_draw h1 h2).imp (by decide) fun _ q => q
theorem sp_some {α : Type} {x : α} : Spec (SR.opt (some x)) 0 fun y => y = x := sp_opt rfl rfl
theorem rng_ok {m : Int} (h1 : 0 ≤ m) (h2 : m < 100) : Option.bind (SR.M1 (rangeM 0) (some m)) capN = some (rangeL 0 m.toNat) := by
  rw [M1_some]
  unfold rangeM
  rw [if_pos (by unfold cap; omega), Option.bind_some, show m - 0 = m by omega]
  unfold capN
  rw [if_pos (by rw [rangeL_len]; unfold cap; omega)]
theorem top_lt {p : Nat} (h : p = 2 ∨ p = 3) {k : Nat} (hk : k < 10 - p) {ds : List Int} (hd : ds ∈ rows p k) : ds ∈ digs p := by
  rcases h with rfl | rfl
  · exact List.mem_flatMap.mpr ⟨k, List.mem_range.mpr hk, hd⟩
  · exact List.mem_flatMap.mpr ⟨k, List.mem_range.mpr hk, hd⟩
theorem sp_digits {p : Nat} (h : p = 2 ∨ p = 3) (xs : List Int) (hx : xs.length ≤ 9) : Spec (lcN (fun x2 : Int => SR.bnd (SR.opt (some (p : Int))) draw) xs) 9 fun ds => ds ∈ rows p xs.length :=
  (sp_lc (c := 1) (R := fun _ d => 0 ≤ d ∧ d < (p : Int)) fun x _ => sp_dr rfl (by omega) (by omega)).imp (by omega) fun ds q => mem_rows q.length (All2.right (S := fun d => 0 ≤ d ∧ d < (p : Int)) (fun _ _ h => h) q)
theorem rows_len {p : Nat} : ∀ {k : Nat} {xs : List Int}, xs ∈ rows p k → xs.length = k
  | 0, xs, h => by rw [List.mem_singleton.mp h]; rfl
  | k + 1, xs, h => by
    unfold rows at h
    obtain ⟨l, hl, hx⟩ := List.mem_flatten.mp h
    obtain ⟨d, hd, rfl⟩ := List.mem_map.mp hl
    obtain ⟨r, hr, rfl⟩ := List.mem_map.mp hx
    rw [List.length_cons, rows_len hr]
theorem rows_dig {p : Nat} : ∀ {k : Nat} {xs : List Int}, xs ∈ rows p k → ∀ d ∈ xs, 0 ≤ d ∧ d < (p : Int)
  | 0, xs, h, d, m => by rw [List.mem_singleton.mp h] at m; cases m
  | k + 1, xs, h, d, m => by
    unfold rows at h
    obtain ⟨l, hl, hx⟩ := List.mem_flatten.mp h
    obtain ⟨c, hd, rfl⟩ := List.mem_map.mp hl
    obtain ⟨r, hr, rfl⟩ := List.mem_map.mp hx
    have := List.mem_range.mp hd
    rcases List.mem_cons.mp m with e | m
    · omega
    · exact rows_dig hr d m
theorem rows_one {p : Nat} (h : 0 < p) : ∀ k, ∃ r, r ∈ rows p k := fun k => ⟨List.replicate k 0, mem_rows (by simp) fun d hd => by
  have := List.eq_of_mem_replicate hd
  omega⟩
theorem cat_ok {α : Type} {xs ys : List α} (h : xs.length + ys.length < 1000) : catM xs ys = some (xs ++ ys) := by
  unfold catM
  rw [if_pos (by rw [List.length_append]; unfold cap; omega)]
theorem cap_ok1 {α : Type} {xs : List α} (h : xs.length < 1000) : capM xs = some xs := by
  unfold capM
  rw [if_pos (by unfold cap; omega)]
theorem rng2 {k : Nat} (h : k < 3) : Option.bind (SR.M2 rangeM (some 1) (some ((k : Int) + 1))) capN = some (rangeL 1 k) := by
  rw [M2_some]
  unfold rangeM
  rw [if_pos (by unfold cap; omega), Option.bind_some, show ((k : Int) + 1 - 1).toNat = k by omega]
  unfold capN
  rw [if_pos (by rw [rangeL_len]; unfold cap; omega)]
theorem mid_ok {p : Nat} : ∀ {k a : Nat} {ys : List (Int × Int)}, All2 (fun x y => y.1 = x ∧ 0 ≤ y.2 ∧ y.2 < (p : Int)) (rangeL ((a : Int) + 1) k) ys → ys.map (·.2) ∈ rows p k ∧ ys = ((ys.map (·.2)).zipIdx a).map fun x => ((x.2 : Int) + 1, x.1)
  | 0, a, _, .nil => ⟨List.mem_singleton.mpr rfl, rfl⟩
  | k + 1, a, _, .cons (y := y) (ys := ys) h t => by
    have t' : All2 (fun x y => y.1 = x ∧ 0 ≤ y.2 ∧ y.2 < (p : Int)) (rangeL (((a + 1 : Nat) : Int) + 1) k) ys := by
      rw [show (((a + 1 : Nat) : Int) + 1) = (a : Int) + 1 + 1 by omega]
      exact t
    obtain ⟨m1, m2⟩ := mid_ok t'
    refine ⟨?_, ?_⟩
    · have hl := t'.length
      rw [rangeL_len] at hl
      refine mem_rows (by simp [hl]) fun d hd => ?_
      rw [List.map_cons] at hd
      rcases List.mem_cons.mp hd with e | m
      · rw [e]; exact h.2
      · obtain ⟨z, hz, e⟩ := List.mem_map.mp m
        rw [← e]
        exact All2.right (S := fun z => 0 ≤ z.2 ∧ z.2 < (p : Int)) (fun _ _ q => q.2) t' z hz
    · rw [List.map_cons, List.zipIdx_cons, List.map_cons, ← m2]
      obtain ⟨y1, y2⟩ := y
      have e : y1 = (a : Int) + 1 := h.1
      rw [e]
/-- what a rule is made of -/
def IsRule (p : Nat) (k : Nat) (rule : List (Int × Int)) : Prop := ∃ (d : Nat) (mid : List Int), d < p - 1 ∧ mid ∈ rows p k ∧ rule = ruleOf ((d : Int) + 1) mid
theorem some_ok {p : Nat} (O : OkP p) : Spec (m__law_some_digits p) 40 fun ds => ds ∈ digs p := by
  have h23 := O.p23
  unfold m__law_some_digits
  refine (sp_bnd (c := 2) (c' := 30) (R := fun b1 => 0 ≤ b1.1 ∧ b1.1 < ((10 - p : Nat) : Int) ∧ 0 ≤ b1.2 ∧ b1.2 < 3) ?_ fun b1 hb => ?_).imp (by decide) fun _ q => q
  · refine (sp_bnd (c' := 1) (sp_dr (size := ((10 - p : Nat) : Int)) ?_ ?_ ?_) fun y1 h1 => sp_bnd (sp_dr rfl (by decide) (by decide)) fun y2 h2 => sp_ret ⟨h1.1, h1.2, h2.1, h2.2⟩).imp (by decide) fun _ q => q
    · rcases h23 with rfl | rfl <;> decide
    · rcases h23 with rfl | rfl <;> decide
    · rcases h23 with rfl | rfl <;> decide
  obtain ⟨h1, h2, h3, h4⟩ := hb
  have hm : b1.1 < 100 := by omega
  have ht : b1.1.toNat < 10 - p := by omega
  have hl : (rangeL 0 b1.1.toNat).length = b1.1.toNat := rangeL_len _ _
  refine (sp_ite (c := 0) (c' := 30) (T := fun _ => True) (sp_opt rfl trivial) (fun _ => ?_) fun _ => ?_).imp (by decide) fun _ q => q
  · refine (sp_bnd (c := 0) (c' := 9) (sp_opt (R := fun xs => xs = rangeL 0 b1.1.toNat) (rng_ok h1 hm) rfl) fun xs hx => ?_).imp (by decide) fun _ q => q
    subst hx
    refine (sp_digits h23 _ (by omega)).imp (by decide) fun ds q => ?_
    rw [hl] at q
    exact top_lt h23 ht q
  · refine (sp_bnd (c := 1) (c' := 28) (R := fun b3 => b3 = 1 ∨ b3 = 2 ∨ b3 = 3) ?_ fun b3 hb3 => ?_).imp (by decide) fun _ q => q
    · exact (sp_bnd sp_some fun y1 e1 => sp_bnd (sp_dr rfl (by decide) (by decide)) fun y2 h2 => sp_opt rfl (by subst e1; omega)).imp (by decide) fun _ q => q
    obtain ⟨k, hk, rfl⟩ : ∃ k : Nat, k < 3 ∧ b3 = (k : Int) + 1 := ⟨(b3 - 1).toNat, by omega, by omega⟩
    refine (sp_bnd (c := 10) (c' := 18) (R := IsRule p k) ?_ fun b6 hb6 => ?_).imp (by decide) fun _ q => q
    · refine (sp_bnd (c := 10) (c' := 0) (R := fun zs => ∃ (d : Nat) (mid : List Int), d < p - 1 ∧ mid ∈ rows p k ∧ zs = (0, (d : Int) + 1) :: (mid.zipIdx.map fun x => ((x.2 : Int) + 1, x.1))) ?_ fun zs hz => ?_).imp (by decide) fun _ q => q
      · refine (sp_bnd (c := 1) (c' := 9) (R := fun zs => ∃ d : Nat, d < p - 1 ∧ zs = [(0, (d : Int) + 1)]) ?_ fun zs hz => ?_).imp (by decide) fun _ q => q
        · refine (sp_bnd (c := 1) (c' := 0) (R := fun zs => ∃ d : Nat, d < p - 1 ∧ zs = [(0, (d : Int) + 1)]) ?_ fun zs hz => ?_).imp (by decide) fun _ q => q
          · refine (sp_bnd (c := 1) (c' := 0) (R := fun z => ∃ d : Nat, d < p - 1 ∧ z = (0, (d : Int) + 1)) ?_ fun z hz => ?_).imp (by decide) fun _ q => q
            · refine (sp_bnd sp_some fun y1 e1 => sp_bnd (c := 1) (c' := 0) (R := fun z => ∃ d : Nat, d < p - 1 ∧ z = (d : Int) + 1) ?_ fun y2 h2 => ?_).imp (by decide) fun _ q => q
              · refine (sp_bnd sp_some fun y1 e1 => sp_bnd (sp_dr (size := (p : Int) - 1) rfl (by omega) (by omega)) fun y2 h2 => sp_opt rfl ⟨y2.toNat, by omega, ?_⟩).imp (by decide) fun _ q => q
                subst e1
                omega
              · obtain ⟨d, hd, rfl⟩ := h2
                subst e1
                exact sp_ret ⟨d, hd, rfl⟩
            · obtain ⟨d, hd, rfl⟩ := hz
              exact sp_bnd (c := 0) (c' := 0) (R := fun xs => xs = []) (sp_ret rfl) fun xs e => by subst e; exact sp_ret ⟨d, hd, rfl⟩
          · obtain ⟨d, hd, rfl⟩ := hz
            exact sp_opt (cap_ok1 (by simp)) ⟨d, hd, rfl⟩
        · obtain ⟨d, hd, rfl⟩ := hz
          refine (sp_bnd (c := 9) (c' := 0) (R := fun ys => ∃ mid : List Int, mid ∈ rows p k ∧ mid.length = k ∧ ys = mid.zipIdx.map fun x => ((x.2 : Int) + 1, x.1)) ?_ fun ys hy => ?_).imp (by decide) fun _ q => q
          · refine (sp_bnd (c := 0) (c' := 9) (sp_opt (R := fun xs => xs = rangeL 1 k) (rng2 hk) rfl) fun xs hx => ?_).imp (by decide) fun _ q => q
            subst hx
            refine (sp_lc (c := 1) (R := fun x y => y.1 = x ∧ 0 ≤ y.2 ∧ y.2 < (p : Int)) fun x _ => ?_).imp (by rw [rangeL_len]; omega) fun ys q => ?_
            · exact (sp_bnd sp_some fun y1 e1 => sp_bnd (sp_dr rfl (by omega) (by omega)) fun y2 h2 => sp_ret ⟨e1, h2⟩).imp (by decide) fun _ q => q
            · have q' : All2 (fun x y => y.1 = x ∧ 0 ≤ y.2 ∧ y.2 < (p : Int)) (rangeL (((0 : Nat) : Int) + 1) k) ys := q
              obtain ⟨m1, m2⟩ := mid_ok q'
              refine ⟨_, m1, ?_, m2⟩
              rw [List.length_map, q.length, rangeL_len]
          · obtain ⟨mid, h5, h6, rfl⟩ := hy
            refine sp_opt (cat_ok (by simp [h6]; omega)) ⟨d, mid, hd, h5, rfl⟩
      · obtain ⟨d, mid, hd, h5, rfl⟩ := hz
        have h6 : mid.length = k := rows_len h5
        refine (sp_bnd (c := 0) (c' := 0) (R := fun xs => xs = [((k : Int) + 1, 1)]) (sp_opt (show SR.M1 capM (some [((k : Int) + 1, (1 : Int))]) = _ from (M1_some _ _).trans (cap_ok1 (by simp))) rfl) fun xs e => ?_).imp (by decide) fun _ q => q
        subst e
        refine sp_opt (cat_ok (by simp [h6]; omega)) ⟨d, mid, hd, h5, ?_⟩
        unfold ruleOf
        rw [h6]
        rfl
    obtain ⟨d, mid, hd, hmid, rfl⟩ := hb6
    refine (sp_bnd (c := 9) (c' := 9) (R := fun ds => ds ∈ rows p b1.1.toNat) ?_ fun b8 hb8 => ?_).imp (by decide) fun _ q => q
    · refine (sp_bnd (c := 9) (c' := 0) (R := fun s => ∃ f front, m_Filter_init p (ruleOf ((d : Int) + 1) mid) = some f ∧ front ∈ rows p (k + 1) ∧ m_Sequence_init f front = some s) ?_ fun s hs => ?_).imp (by decide) fun _ q => q
      · have hf0 : ∃ f, m_Filter_init p (ruleOf ((d : Int) + 1) mid) = some f := by
          obtain ⟨front, hfr⟩ := rows_one (p := p) (by omega) (k + 1)
          obtain ⟨f, e1, _⟩ := chk1_ok (O.seq k hk d hd mid hmid front hfr _ ht)
          exact ⟨f, e1⟩
        obtain ⟨f, hf⟩ := hf0
        refine (sp_bnd (c := 0) (c' := 9) (R := fun x => x = f) (sp_opt ((M2_some _ _ _).trans hf) rfl) fun x e => ?_).imp (by decide) fun _ q => q
        subst e
        refine (sp_bnd (c := 9) (c' := 0) (R := fun ds => ds ∈ rows p (k + 1)) ?_ fun front hfr => ?_).imp (by decide) fun _ q => q
        · refine (sp_bnd (c := 0) (c' := 9) (sp_opt (R := fun xs => xs = rangeL 0 (k + 1)) ((rng_ok (m := (k : Int) + 1) (by omega) (by omega)).trans (by rw [show ((k : Int) + 1).toNat = k + 1 by omega])) rfl) fun xs hx => ?_).imp (by decide) fun _ q => q
          subst hx
          refine (sp_digits h23 _ (by rw [rangeL_len]; omega)).imp (by decide) fun ds q => ?_
          rw [rangeL_len] at q
          exact q
        · obtain ⟨f', e1, q1⟩ := chk1_ok (O.seq k hk d hd mid hmid front hfr _ ht)
          rw [hf] at e1
          cases e1
          obtain ⟨s, e2, q2⟩ := chk1_ok q1
          exact sp_opt e2 ⟨_, front, hf, hfr, e2⟩
      · obtain ⟨f, front, hf, hfr, e2⟩ := hs
        obtain ⟨f', e1, q1⟩ := chk1_ok (O.seq k hk d hd mid hmid front hfr _ ht)
        rw [hf] at e1
        cases e1
        obtain ⟨s', e3, q2⟩ := chk1_ok q1
        rw [e2] at e3
        cases e3
        obtain ⟨ds, e4, q3⟩ := chk1_ok q2
        obtain ⟨q4, q5⟩ := and2 q3
        refine (sp_bnd sp_some fun y2 e => sp_bnd sp_some fun y3 e' => sp_opt (x := ds) ?_ (mem_rows q4 q5)).imp (by decide) fun _ q => q
        subst e e'
        rw [← e4, Int.toNat_of_nonneg h1]
    refine (sp_bnd (c := 1) (c' := 0) (R := fun ds => ds ∈ rows p b1.1.toNat) ?_ fun b12 hb => sp_opt rfl (top_lt h23 ht hb)).imp (by decide) fun _ q => q
    refine (sp_ite (c := 0) (c' := 1) (T := fun b => b = true → 0 < b1.1) (sp_opt' ?_) (fun hT => ?_) fun _ => (sp_ret hb8).imp (by decide) fun _ q => q).imp (by decide) fun _ q => q
    · refine ⟨decide (b1.2 = 1) && decide (0 < b1.1), ?_, fun h => ?_⟩
      · show SR.andM (some (decide (b1.2 = 1))) (some (decide (0 < b1.1))) = _
        cases decide (b1.2 = 1) <;> rfl
      · rw [Bool.and_eq_true] at h
        exact of_decide_eq_true h.2
    have h0 := hT rfl
    have l8 := rows_len hb8
    refine (sp_bnd (c := 1) (c' := 0) (sp_dr rfl h0 (by omega)) fun b9 h9 => ?_).imp (by decide) fun _ q => q
    have hk9 : b9.toNat < b8.length := by omega
    have e9 : L2.ixN b8.length b9 = some b9.toNat := by
      unfold L2.ixN
      rw [if_pos h9.1, if_pos (by omega)]
    have a9 : ixM b8 b9 = some b8[b9.toNat] := by
      unfold ixM L2.atI
      rw [e9, Option.bind_some, List.getElem?_eq_getElem hk9]
    refine (sp_bnd (c := 0) (c' := 0) (R := fun ds => ds ∈ rows p b1.1.toNat) ?_ fun b10 hb => sp_ret hb).imp (by decide) fun _ q => q
    refine sp_opt (x := b8.set b9.toNat ((b8[b9.toNat] + 1) % (p : Int))) ?_ (mem_rows (by simpa using l8) fun d hd => ?_)
    · have e1 : SR.M2 addI (SR.M2 ixM (some b8) (some b9)) (some 1) = some (b8[b9.toNat] + 1) := by rw [M2_some, a9]; rfl
      rw [e1, M1_some, show intI (b8[b9.toNat] + 1) = some (b8[b9.toNat] + 1) from rfl, M2_some, mod_ok (by omega), M2_some]
      show setL b8 b9 _ = _
      unfold setL
      rw [e9, Option.bind_some]
    · rcases List.mem_or_eq_of_mem_set hd with m | e
      · exact rows_dig hb8 d m
      · rw [e]
        exact ⟨Int.emod_nonneg _ (by omega), Int.emod_lt_of_pos _ (by omega)⟩
end W82
end
section
set_option Elab.async false
set_option linter.all false
set_option maxRecDepth 10000
set_option maxHeartbeats 4000000
namespace W82
open PySem PySem.Spec PyProof.Rows SR
theorem all_rows2 : ∀ k : Nat, k < 3 → m__law_all_rows 8 2 ((k : Int) + 1) = some (rows 2 (k + 1)) := by decide +kernel
theorem all_rows3 : ∀ k : Nat, k < 3 → m__law_all_rows 8 3 ((k : Int) + 1) = some (rows 3 (k + 1)) := by decide +kernel
theorem final_ok : SR.M2 (eqPB m_Sequence_eq) (SR.M2 m_guessed (some (5 : Int)) (SR.M1 ltM (some ([] : (List Int))))) (SR.M2 SR.pairM (SR.M1 m_Sequence_zero (some (5 : Int))) (some true)) = some true := by decide +kernel
def pairL (ds : List Int) : Option (List (SR.LT Int)) := (SR.M1 capM (SR.M2 consM (SR.M1 ltM (some ds)) (SR.M2 consM (SR.M1 ltT ((some ds).bind fun xs => some (SR.Tup.mk xs))) (some ([] : List (SR.LT Int))))))
theorem consM_ok {α : Type} (x : α) (xs : List α) : consM x xs = some (x :: xs) := rfl
theorem pairL_ok (ds : List Int) : pairL ds = some [⟨ds⟩, ⟨ds⟩] := by
  unfold pairL
  rw [M1_some ltM, Option.bind_some, M1_some ltT, show ltM ds = some ⟨ds⟩ from rfl, show ltT (SR.Tup.mk ds) = some ⟨ds⟩ from rfl, M2_some, consM_ok, M2_some, consM_ok, M1_some, cap_ok1 (by simp)]
theorem pick_ok (ds : List Int) : Spec (SR.bnd (SR.opt (pairL ds)) m__law_pick) 1 fun x => x = ⟨ds⟩ := by
  refine (sp_bnd (c := 0) (c' := 1) (sp_opt (R := fun xs => xs = [⟨ds⟩, ⟨ds⟩]) (pairL_ok ds) rfl) fun xs e => ?_).imp (by decide) fun _ q => q
  subst e
  unfold m__law_pick
  refine (sp_bnd sp_some fun y1 e => sp_bnd (sp_dr (size := 2) rfl (by decide) (by decide)) fun y2 h => sp_opt' ⟨⟨ds⟩, ?_, rfl⟩).imp (by decide) fun _ q => q
  subst e
  have : y2 = 0 ∨ y2 = 1 := by omega
  rcases this with rfl | rfl <;> rfl
theorem rowBody {p : Nat} (O : OkP p) {ds : List Int} (hds : ds ∈ digs p) {mv : Int} (hmv : mv ∈ moves) {k : Nat} (h1 : 1 ≤ k) (h3 : k ≤ 3) {row : List Int} (hr : row ∈ rows p k) :
    Spec (iteN (SR.opt (SR.M1 anyI (some row))) (SR.bnd (SR.opt (mkF p mv row)) fun b11 => SR.bnd (SR.opt (copyM row)) fun b13 => SR.bnd (SR.opt (strip1 b13)) fun b16 => SR.bnd (SR.opt (strip2 b16)) fun b19 =>
      iteN (SR.bnd (SR.bnd (SR.opt (some b11)) fun y1 => SR.bnd (SR.bnd (SR.opt (pairL ds)) m__law_pick) fun y2 => SR.opt (m_fits y1 y2)) fun y1 => SR.bnd (SR.opt (SR.M3 m__law_fits (some (p : Int)) (some b19) (some ds))) fun y2 => SR.opt (neB y1 y2)) (SR.bnd (SR.opt (some false)) fun r => SR.ret (Out.rt r)) (SR.ret (Out.nx ()))) (SR.ret (Out.nx ()))) 1 (fun o : Out Unit Bool => o = .nx ()) := by
  refine (sp_ite (c := 0) (c' := 1) (T := fun b => b = true → row.all (fun d => decide (d = 0)) ≠ true) (sp_opt' ?_) (fun hT => ?_) fun _ => (sp_ret (R := fun o => o = Out.nx ()) rfl).imp (by decide) fun _ q => q).imp (by decide) fun _ q => q
  · refine ⟨_, rfl, fun h z => ?_⟩
    rw [List.any_eq_true] at h
    obtain ⟨d, hd, e⟩ := h
    have := of_decide_eq_true (List.all_eq_true.mp z d hd)
    subst this
    cases e
  have hc := (O.row k h1 h3 row hr).resolve_left (hT rfl) mv hmv
  obtain ⟨f, c, c1, s, j, e1, e2, e3, e4, hs, ef⟩ := rowChk_ok hc
  refine (sp_bnd (c := 0) (c' := 1) (sp_opt (R := fun x => x = f) e1 rfl) fun x z => ?_).imp (by decide) fun _ q => q
  have z := z.symm
  subst z
  refine (sp_bnd (c := 0) (c' := 1) (sp_opt (R := fun x => x = c) e2 rfl) fun x z => ?_).imp (by decide) fun _ q => q
  have z := z.symm
  subst z
  refine (sp_bnd (c := 0) (c' := 1) (sp_opt (R := fun x => x = c1) e3 rfl) fun x z => ?_).imp (by decide) fun _ q => q
  have z := z.symm
  subst z
  refine (sp_bnd (c := 0) (c' := 1) (sp_opt (R := fun x => x = s) e4 rfl) fun x z => ?_).imp (by decide) fun _ q => q
  have z := z.symm
  subst z
  have hft := O.fit s hs ds hds
  unfold fitsChk at hft
  rw [Bool.and_eq_true] at hft
  have g1 := of_decide_eq_true hft.1
  obtain ⟨b, g2⟩ := Option.isSome_iff_exists.mp hft.2
  have g3 : m_fits f ⟨ds⟩ = some b := by
    rw [ef, fits_shift (p : Int) (flt p s).kept ⟨[]⟩ f.held j ⟨ds⟩, ← g2, ← g1]
    rfl
  refine (sp_ite (c := 1) (c' := 0) (T := fun b => b = false) ?_ (fun z => nomatch z) fun _ => sp_ret (R := fun o => o = Out.nx ()) rfl).imp (by decide) fun _ q => q
  refine (sp_bnd (c := 1) (c' := 0) (R := fun y => y = b) ?_ fun y1 z => ?_).imp (by decide) fun _ q => q
  · refine (sp_bnd sp_some fun y1 z => sp_bnd (pick_ok ds) fun y2 z2 => sp_opt (R := fun y => y = b) (x := b) ?_ rfl).imp (by decide) fun _ q => q
    rw [z, z2]
    exact g3
  · have z := z.symm
    subst z
    refine (sp_bnd (c := 0) (c' := 0) (sp_opt (R := fun y => y = b) ((M3_some _ _ _ _).trans g2) rfl) fun y2 z => ?_).imp (by decide) fun _ q => q
    have z := z.symm
    subst z
    exact sp_opt' ⟨_, rfl, by cases b <;> rfl⟩
end W82
end
section
set_option Elab.async false
set_option linter.all false
set_option maxRecDepth 10000
set_option maxHeartbeats 4000000
namespace W82
open PySem PySem.Spec PyProof.Rows SR
theorem sp_xeq {α : Type} {m : Option α} {x : α} (e : m = some x) : Spec (SR.opt m) 0 fun y => y = x := sp_opt e rfl
theorem guessBody {p : Nat} (O : OkP p) {ds : List Int} (hds : ds ∈ digs p) :
    Spec (bnd (bnd (SR.opt (SR.M2 m__law_shortest (some (p : Int)) (some ds))) fun y1 => (bnd (bnd (SR.opt (some (p : Int))) fun y1 => (bnd (bnd (SR.opt (pairL ds)) m__law_pick) fun y2 => SR.opt (m_guessed y1 y2))) fun y2 => ret (y1, y2))) fun b20 => (iteN (SR.opt (eA b20.2 b20.1)) (bnd (SR.opt (some false)) fun r => ret (Out.rt r)) (bnd (SR.opt ((some b20.2).bind fun x => some x.1)) fun b21 => (iteN (SR.opt (eB ds b20.1 b20.2 b21 (SR.M2 m_guessed (some (p : Int)) (SR.M1 ltM (some ds))))) (bnd (SR.opt (some false)) fun r => ret (Out.rt r)) (iteN (SR.opt (eC ds b20.2 b21)) (bnd (SR.opt (some false)) fun r => ret (Out.rt r)) (ret (Out.nx ()))))))) 1 (fun o : Out Unit Bool => o = .nx ()) := by
  obtain ⟨due, told, h1, h2, h3, h4, h5⟩ := gChk_ok (O.g ds hds)
  refine (sp_bnd (c := 1) (c' := 0) (R := fun b => b = (due, told)) ?_ fun b e => ?_).imp (by decide) fun _ q => q
  · refine (sp_bnd (sp_xeq ((M2_some _ _ _).trans h1)) fun y1 e1 => sp_bnd (c := 1) (c' := 0) (R := fun y => y = told) ?_ fun y2 e2 => sp_ret (R := fun b => b = (due, told)) (by rw [e1, e2])).imp (by decide) fun _ q => q
    refine (sp_bnd sp_some fun y1 e1 => sp_bnd (pick_ok ds) fun y2 e2 => sp_xeq (by rw [e1, e2]; exact h2)).imp (by decide) fun _ q => q
  subst e
  refine (sp_ite (c := 0) (c' := 0) (T := fun b => b = false) (sp_xeq h3) (fun z => nomatch z) fun _ => ?_).imp (by decide) fun _ q => q
  refine (sp_bnd (c := 0) (c' := 0) (R := fun x => x = told.1) (sp_xeq rfl) fun x e => ?_).imp (by decide) fun _ q => q
  subst e
  refine (sp_ite (c := 0) (c' := 0) (T := fun b => b = false) (sp_xeq ?_) (fun z => nomatch z) fun _ => ?_).imp (by decide) fun _ q => q
  · rw [M1_some, show ltM ds = some ⟨ds⟩ from rfl, M2_some, h2]
    exact h4
  exact (sp_ite (c := 0) (c' := 0) (T := fun b => b = false) (sp_xeq h5) (fun z => nomatch z) fun _ => sp_ret (R := fun o => o = Out.nx ()) rfl).imp (by decide) fun _ q => q
theorem moves_ok {d : Int} (h : 0 ≤ d ∧ d < 9) : d - 4 ∈ moves := by
  obtain ⟨h1, h2⟩ := h
  have : d = 0 ∨ d = 1 ∨ d = 2 ∨ d = 3 ∨ d = 4 ∨ d = 5 ∨ d = 6 ∨ d = 7 ∨ d = 8 := by omega
  rcases this with rfl | rfl | rfl | rfl | rfl | rfl | rfl | rfl | rfl <;> decide
theorem all_rows {p : Nat} (h : p = 2 ∨ p = 3) {k : Nat} (hk : k < 3) : m__law_all_rows 8 p ((k : Int) + 1) = some (rows p (k + 1)) := by
  rcases h with rfl | rfl
  · exact all_rows2 k hk
  · exact all_rows3 k hk
theorem rows_count {p : Nat} (h : p = 2 ∨ p = 3) {k : Nat} (hk : k < 3) : (rows p (k + 1)).length ≤ 27 := by
  have : k = 0 ∨ k = 1 ∨ k = 2 := by omega
  rcases h with rfl | rfl <;> rcases this with rfl | rfl | rfl <;> decide
theorem turnBody {p : Nat} (O : OkP p) {ds : List Int} (hds : ds ∈ digs p) {mv : Int} (hmv : mv ∈ moves) {k : Nat} (hk : k < 3) {G : Unit → Mi (Out Unit Bool)} (hG : ∀ u, Spec (G u) 1 fun o => o = .nx ()) {F : Unit → List Int → Mi (Out Unit Bool)} (hF : ∀ row ∈ rows p (k + 1), Spec (F () row) 1 fun o => o = .nx ()) :
    Spec (bnd (loopN F () (rows p (k + 1))) fun o => outN G o) 28 fun o => o = .nx () := by
  refine (sp_bnd (c := 27) (c' := 1) ((sp_loop (c := 1) hF).imp (by have := rows_count O.p23 hk; omega) fun _ q => q) fun o e => ?_).imp (by decide) fun _ q => q
  subst e
  exact hG ()
theorem law_ok (O2 : OkP 2) (O3 : OkP 3) : Spec m_law 1000 fun r => r = true := by
  unfold m_law
  refine (sp_bnd (c := 0) (c' := 400) (R := fun xs => xs.length = 4) (sp_opt (show SR.M1 (rangeM 0) (some 4) = some (rangeL 0 4) from by decide +kernel) (by decide)) fun xs hx => ?_).imp (by decide) fun _ q => q
  refine (sp_bnd (c := 400) (c' := 0) (R := fun o => o = Out.nx ()) ((sp_loop (c := 100) fun x _ => ?_).imp (by omega) fun _ q => q) fun o e => ?_).imp (by decide) fun _ q => q
  · refine (sp_bnd (c := 1) (c' := 99) (R := fun b : Int => ∃ p : Nat, OkP p ∧ b = (p : Int)) ?_ fun b hb => ?_).imp (by decide) fun _ q => q
    · refine (sp_bnd (c := 0) (c' := 1) (sp_xeq (x := [2, 3]) (by decide +kernel)) fun y1 e1 => sp_bnd (c := 1) (c' := 0) (sp_dr (size := 2) rfl (by decide) (by decide)) fun y2 h => sp_opt' ?_).imp (by decide) fun _ q => q
      subst e1
      have : y2 = 0 ∨ y2 = 1 := by omega
      rcases this with rfl | rfl
      · exact ⟨2, rfl, 2, O2, rfl⟩
      · exact ⟨3, rfl, 3, O3, rfl⟩
    obtain ⟨p, O, rfl⟩ := hb
    refine (sp_bnd (c := 41) (c' := 50) (R := fun b : List Int × Int => b.1 ∈ digs p ∧ b.2 ∈ moves) ?_ fun b hb => ?_).imp (by decide) fun _ q => q
    · refine (sp_bnd (c := 40) (c' := 1) (R := fun ds => ds ∈ digs p) ((sp_bnd sp_some fun y e => by subst e; exact some_ok O).imp (by decide) fun _ q => q) fun y1 h1 => sp_bnd (c := 1) (c' := 0) (R := fun m => m ∈ moves) ?_ fun y2 h2 => sp_ret ⟨h1, h2⟩).imp (by decide) fun _ q => q
      exact (sp_bnd (sp_dr (size := 9) rfl (by decide) (by decide)) fun y1 h => sp_bnd sp_some fun y2 e => sp_opt rfl (by subst e; exact moves_ok h)).imp (by decide) fun _ q => q
    obtain ⟨ds, mv⟩ := b
    obtain ⟨hds, hmv⟩ := hb
    refine (sp_bnd (c := 1) (c' := 28) (R := fun xs => ∃ k, k < 3 ∧ xs = rows p (k + 1)) ?_ fun xs hx => ?_).imp (by decide) fun _ q => q
    · refine (sp_bnd sp_some fun y1 e1 => sp_bnd (c := 1) (c' := 0) (R := fun y => ∃ k : Nat, k < 3 ∧ y = (k : Int) + 1) ?_ fun y2 h => ?_).imp (by decide) fun _ q => q
      · exact (sp_bnd sp_some fun y1 e1 => sp_bnd (sp_dr (size := 3) rfl (by decide) (by decide)) fun y2 h2 => sp_opt rfl ⟨y2.toNat, by omega, by subst e1; omega⟩).imp (by decide) fun _ q => q
      · obtain ⟨k, hk, rfl⟩ := h
        subst e1
        exact sp_opt (all_rows O.p23 hk) ⟨k, hk, rfl⟩
    obtain ⟨k, hk, rfl⟩ := hx
    exact turnBody O hds hmv hk (fun u => guessBody O hds) fun row hr => rowBody O hds hmv (by omega) (by omega) hr
  · subst e
    exact sp_opt final_ok rfl
theorem law_run (O2 : OkP 2) (O3 : OkP 3) : m_law 0 fun r _ => r = true := law_ok O2 O3 0 _ (by decide) fun x n' h _ => h
end W82
end
section
set_option Elab.async false
set_option linter.all false
set_option maxRecDepth 100000
set_option maxHeartbeats 4000000
/-! the same computations over plain recursors: what the kernel works out quickly -/
noncomputable section
@[inline] def Option.bd {α β : Type} (m : Option α) (f : α → Option β) : Option β := @Option.rec α (fun _ => Option β) none f m
namespace FK
open SR (T3 Dct Out RdL)
def br {α : Type} (b : Bool) (t e : α) : α := @Bool.rec (fun _ => α) e t b
def frc {α : Type} (n : Nat) (k : Nat → α) : α := @Nat.rec (fun _ => α) (k 0) (fun m _ => k (Nat.succ m)) n
def ir {α : Type} (i : Int) (p : Nat → α) (q : Nat → α) : α := @Int.rec (fun _ => α) p q i
def bindM {α β : Type} (m : Option α) (f : α → Option β) : Option β := m.bd f
def M1 {α β : Type} (f : α → Option β) (a : Option α) : Option β := a.bd f
def M2 {α β γ : Type} (f : α → β → Option γ) (a : Option α) (b : Option β) : Option γ := a.bd fun x => b.bd fun y => f x y
def M3 {α β γ δ : Type} (f : α → β → γ → Option δ) (a : Option α) (b : Option β) (c : Option γ) : Option δ := a.bd fun x => b.bd fun y => c.bd fun z => f x y z
def M4 {α β γ δ ε : Type} (f : α → β → γ → δ → Option ε) (a : Option α) (b : Option β) (c : Option γ) (d : Option δ) : Option ε := a.bd fun x => b.bd fun y => c.bd fun z => d.bd fun w => f x y z w
def andM (a b : Option Bool) : Option Bool := a.bd fun x => br x b (some false)
def orM (a b : Option Bool) : Option Bool := a.bd fun x => br x (some true) b
def notM (a : Option Bool) : Option Bool := a.bd fun x => br x (some false) (some true)
def iteM {α : Type} (c : Option Bool) (a b : Option α) : Option α := c.bd fun x => br x a b
def forM {S α : Type} (f : S → α → Option S) (s : S) (xs : List α) : Option S := @List.rec α (fun _ => S → Option S) (fun s => some s) (fun x _ ih s => (f s x).bd ih) xs s
def whileM {S : Type} (c : S → Option Bool) (f : S → Option S) (n : Nat) (s : S) : Option S := @Nat.rec (fun _ => S → Option S) (fun _ => none) (fun _ ih s => (c s).bd fun b => br b ((f s).bd ih) (some s)) n s
def whileP {S : Type} (mc0 : Option Bool) (f0 : Option S) (mc : S → Option Bool) (f : S → Option S) (n : Nat) : Option S := mc0.bd fun b => br b (f0.bd fun s => whileM mc f n s) none
def loopM {S R α : Type} (f : S → α → Option (Out S R)) (s : S) (xs : List α) : Option (Out S R) := @List.rec α (fun _ => S → Option (Out S R)) (fun s => some (.nx s)) (fun x _ ih s => (f s x).bd fun o => @Out.rec S R (fun _ => Option (Out S R)) ih (fun r => some (.rt r)) (fun s' => some (.bk s')) o) xs s
def outM {S R : Type} (k : S → Option R) (o : Out S R) : Option R := @Out.rec S R (fun _ => Option R) k some k o
def len {α : Type} (xs : List α) : Nat := @List.rec α (fun _ => Nat) 0 (fun _ _ ih => Nat.succ ih) xs
def lenB {α : Type} (xs : List α) : Bool := Nat.ble (Nat.succ (len xs)) (nat_lit 1000000)
def lcGo {α β : Type} (t : α → Option Bool) (f : α → Option β) (xs : List α) : Option (List β) := @List.rec α (fun _ => Option (List β)) (some []) (fun x _ ih => (t x).bd fun b => br b ((f x).bd fun y => ih.bd fun ys => some (y :: ys)) ih) xs
def lcM {α β : Type} (t : α → Option Bool) (f : α → Option β) (ml : Option (List α)) : Option (List β) := ml.bd fun xs => br (lenB xs) (lcGo t f xs) none
/-! numbers -/
def ltB (i j : Int) : Bool := ir i (fun m => ir j (fun n => Nat.ble (Nat.succ m) n) fun _ => false) fun m => ir j (fun _ => true) fun n => Nat.ble (Nat.succ n) m
def leB (i j : Int) : Bool := ir i (fun m => ir j (fun n => Nat.ble m n) fun _ => false) fun m => ir j (fun _ => true) fun n => Nat.ble n m
def eqB (i j : Int) : Bool := ir i (fun m => ir j (fun n => Nat.beq m n) fun _ => false) fun m => ir j (fun _ => false) fun n => Nat.beq m n
def sOf (n : Nat) : Option Int := frc n fun r => some (Int.ofNat r)
def sNg (n : Nat) : Option Int := frc n fun r => some (Int.negSucc r)
def mix (m n : Nat) : Option Int := br (Nat.ble m n) (sNg (Nat.sub n m)) (sOf (Nat.sub m (Nat.succ n)))
def addI (i j : Int) : Option Int := ir i (fun m => ir j (fun n => sOf (Nat.add m n)) fun n => mix m n) fun m => ir j (fun n => mix n m) fun n => sNg (Nat.succ (Nat.add m n))
def negO (n : Nat) : Option Int := @Nat.rec (fun _ => Option Int) (some (Int.ofNat 0)) (fun k _ => some (Int.negSucc k)) n
def negI (i : Int) : Option Int := ir i negO fun n => some (Int.ofNat (Nat.succ n))
def subI (i j : Int) : Option Int := (negI j).bd fun k => addI i k
def inR (i : Int) : Bool := ir i (fun n => Nat.ble (Nat.succ n) (nat_lit 18446744073709551616)) fun n => Nat.ble (Nat.succ (Nat.succ n)) (nat_lit 18446744073709551616)
def mulI (i j : Int) : Option Int := br (inR i) (ir i (fun m => ir j (fun n => sOf (Nat.mul m n)) fun n => negO (Nat.mul m (Nat.succ n))) fun m => ir j (fun n => negO (Nat.mul (Nat.succ m) n)) fun n => sOf (Nat.mul (Nat.succ m) (Nat.succ n))) none
def modI (i j : Int) : Option Int := ir j (fun n => br (Nat.ble 1 n) (ir i (fun m => sOf (Nat.mod m n)) fun m => sOf (Nat.sub n (Nat.succ (Nat.mod m n)))) none) fun _ => none
def divI (i j : Int) : Option Int := ir j (fun n => br (Nat.ble 1 n) (br (Nat.ble (Nat.succ n) (nat_lit 1073741824)) (ir i (fun m => sOf (Nat.div m n)) fun m => sNg (Nat.div m n)) none) none) fun _ => none
def ltI (i j : Int) : Option Bool := some (ltB i j)
def leI (i j : Int) : Option Bool := some (leB i j)
def gtI (i j : Int) : Option Bool := some (ltB j i)
def geI (i j : Int) : Option Bool := some (leB j i)
def eqI (i j : Int) : Option Bool := some (eqB i j)
def neI (i j : Int) : Option Bool := br (eqB i j) (some false) (some true)
def neB (i j : Bool) : Option Bool := br i (br j (some false) (some true)) (br j (some true) (some false))
def absI (i : Int) : Option Int := ir i (fun n => some (Int.ofNat n)) fun n => some (Int.ofNat (Nat.succ n))
def intI (i : Int) : Option Int := some i
def intB (b : Bool) : Option Int := br b (some (Int.ofNat 1)) (some (Int.ofNat 0))
def augP (x : Int) (m : Option Int) : Option Int := m.bd fun y => addI x y
def max2I (i j : Int) : Option Int := br (ltB i j) (some j) (some i)
def chM {α β δ : Type} (f : α → β → Option Bool) (g : β → δ → Option Bool) (ma : Option α) (mb : Option β) (mc : Option δ) : Option Bool :=
  ma.bd fun x => mb.bd fun y => (f x y).bd fun k => br k (mc.bd fun z => g y z) (some false)
/-! lists -/
def neL {α : Type} (xs : List α) : Option Bool := @List.rec α (fun _ => Option Bool) (some false) (fun _ _ _ => some true) xs
def lenM {α : Type} (xs : List α) : Option Int := sOf (len xs)
def consM {α : Type} (x : α) (xs : List α) : Option (List α) := some (x :: xs)
def capM {α : Type} (xs : List α) : Option (List α) := br (lenB xs) (some xs) none
def appM {α : Type} (xs ys : List α) : Option (List α) := @List.rec α (fun _ => Option (List α)) (some ys) (fun x _ ih => ih.bd fun t => some (x :: t)) xs
def catM {α : Type} (xs ys : List α) : Option (List α) := br (Nat.ble (Nat.succ (Nat.add (len xs) (len ys))) (nat_lit 1000000)) (appM xs ys) none
def addL {α : Type} (xs : List α) (x : α) : Option (List α) := br (lenB xs) (appM xs [x]) none
def extL {α : Type} (xs ys : List α) : Option (List α) := br (Nat.ble (Nat.succ (Nat.add (len xs) (len ys))) (nat_lit 1000000)) (appM xs ys) none
def nth {α : Type} (xs : List α) (n : Nat) : Option α := @List.rec α (fun _ => Nat → Option α) (fun _ => none) (fun x _ ih n => @Nat.rec (fun _ => Option α) (some x) (fun m _ => ih m) n) xs n
def ixM {α : Type} (xs : List α) (i : Int) : Option α := ir i (fun n => nth xs n) fun n => br (Nat.ble (Nat.succ n) (len xs)) (nth xs (Nat.sub (len xs) (Nat.succ n))) none
def pairM {α β : Type} (x : α) (y : β) : Option (α × β) := some (x, y)
def tripM {α β γ : Type} (x : α) (y : β) (z : γ) : Option (T3 α β γ) := some ⟨x, y, z⟩
def enumM {α : Type} (xs : List α) : Option (List (Int × α)) := @List.rec α (fun _ => Nat → Option (List (Int × α))) (fun _ => some []) (fun x _ ih k => (ih (Nat.succ k)).bd fun t => some ((Int.ofNat k, x) :: t)) xs 0
def zipM {α β : Type} (xs : List α) (ys : List β) : Option (List (α × β)) := @List.rec α (fun _ => List β → Option (List (α × β))) (fun _ => some []) (fun x _ ih ys => @List.rec β (fun _ => Option (List (α × β))) (some []) (fun y ys _ => (ih ys).bd fun t => some ((x, y) :: t)) ys) xs ys
def up (n : Nat) (lo : Int) : Option (List Int) := @Nat.rec (fun _ => Int → Option (List Int)) (fun _ => some []) (fun _ ih lo => (addI lo (Int.ofNat 1)).bd fun l => (ih l).bd fun t => some (lo :: t)) n lo
def dn (n : Nat) (hi : Int) : Option (List Int) := @Nat.rec (fun _ => Int → Option (List Int)) (fun _ => some []) (fun _ ih hi => (addI hi (Int.negSucc 0)).bd fun l => (ih l).bd fun t => some (hi :: t)) n hi
def inC (i : Int) : Bool := ir i (fun n => Nat.ble (Nat.succ n) (nat_lit 1000000)) fun n => Nat.ble (Nat.succ (Nat.succ n)) (nat_lit 1000000)
def toN (i : Int) : Nat := ir i (fun n => n) fun _ => 0
def rangeM (lo hi : Int) : Option (List Int) := br (inC lo) (br (inC hi) ((subI hi lo).bd fun d => up (toN d) lo) none) none
def downM (hi lo : Int) : Option (List Int) := br (inC lo) (br (inC hi) ((subI hi lo).bd fun d => dn (toN d) hi) none) none
def dropF {α : Type} (n : Nat) (xs : List α) : List α := @Nat.rec (fun _ => List α → List α) (fun xs => xs) (fun _ ih xs => @List.rec α (fun _ => List α) [] (fun _ t _ => ih t) xs) n xs
def takeF {α : Type} (n : Nat) (xs : List α) : Option (List α) := @Nat.rec (fun _ => List α → Option (List α)) (fun _ => some []) (fun _ ih xs => @List.rec α (fun _ => Option (List α)) (some []) (fun x t _ => (ih t).bd fun r => some (x :: r)) xs) n xs
def sIx (n d : Nat) (o : Option Int) : Nat := @Option.rec Int (fun _ => Nat) d (fun v => ir v (fun m => br (Nat.ble m n) m n) fun m => Nat.sub n (Nat.succ m)) o
def cutM {α : Type} (xs : List α) (lo hi : Option Int) : Option (List α) := takeF (Nat.sub (sIx (len xs) (len xs) hi) (sIx (len xs) 0 lo)) (dropF (sIx (len xs) 0 lo) xs)
def sumM (xs : List Int) : Option Int := @List.rec Int (fun _ => Option Int) (some (Int.ofNat 0)) (fun x _ ih => ih.bd fun s => addI x s) xs
def minL (xs : List Int) : Option Int := @List.rec Int (fun _ => Option Int) none (fun x xs _ => @List.rec Int (fun _ => Int → Option Int) (fun a => some a) (fun b _ ih a => br (ltB b a) (ih b) (ih a)) xs x) xs
def maxL (xs : List Int) : Option Int := @List.rec Int (fun _ => Option Int) none (fun x xs _ => @List.rec Int (fun _ => Int → Option Int) (fun a => some a) (fun b _ ih a => br (ltB a b) (ih b) (ih a)) xs x) xs
def insM (x : Int) (ys : List Int) : Option (List Int) := @List.rec Int (fun _ => Option (List Int)) (some [x]) (fun y ys ih => br (leB x y) (some (x :: y :: ys)) (ih.bd fun t => some (y :: t))) ys
def sortM (xs : List Int) : Option (List Int) := @List.rec Int (fun _ => Option (List Int)) (some []) (fun x _ ih => ih.bd fun t => insM x t) xs
def allM (xs : List Bool) : Option Bool := @List.rec Bool (fun _ => Option Bool) (some true) (fun x _ ih => br x ih (some false)) xs
def anyI (xs : List Int) : Option Bool := @List.rec Int (fun _ => Option Bool) (some false) (fun x _ ih => br (eqB x (Int.ofNat 0)) ih (some true)) xs
def memI (xs : List Int) (y : Int) : Bool := @List.rec Int (fun _ => Bool) false (fun x _ ih => br (eqB y x) true ih) xs
def mapK {α : Type} (kvs : List (Int × α)) : List Int := @List.rec (Int × α) (fun _ => List Int) [] (fun q _ ih => q.1 :: ih) kvs
def keysM {α : Type} (kvs : List (Int × α)) : Option (List Int) := some (mapK kvs)
/-! dicts -/
def getD {α : Type} (kvs : List (Int × α)) (k : Int) : Option α := @List.rec (Int × α) (fun _ => Option α) none (fun q _ ih => br (eqB q.1 k) (some q.2) ih) kvs
def dgetM {α : Type} (kvs : List (Int × α)) (k : Int) : Option α := getD kvs k
def dgetD {α : Type} (kvs : List (Int × α)) (k : Int) (d : α) : Option α := @Option.rec α (fun _ => Option α) (some d) (fun x => some x) (getD kvs k)
def dninM {α : Type} (k : Int) (kvs : List (Int × α)) : Option Bool := @Option.rec α (fun _ => Option Bool) (some true) (fun _ => some false) (getD kvs k)
def dnilM {α : Type} (kvs : List (Int × α)) : Option Bool := @List.rec (Int × α) (fun _ => Option Bool) (some true) (fun _ _ _ => some false) kvs
def mapGo {α : Type} (k : Int) (v : α) (kvs : List (Int × α)) : Option (List (Int × α)) := @List.rec (Int × α) (fun _ => Option (List (Int × α))) (some []) (fun q _ ih => ih.bd fun t => br (eqB q.1 k) (some ((q.1, v) :: t)) (some (q :: t))) kvs
def putGo {α : Type} (kvs : List (Int × α)) (k : Int) (v : α) : Option (List (Int × α)) := @List.rec (Int × α) (fun _ => Option (List (Int × α))) (some [(k, v)]) (fun q r ih => br (eqB q.1 k) ((mapGo k v r).bd fun t => some ((q.1, v) :: t)) (ih.bd fun t => some (q :: t))) kvs
def putM {α : Type} (kvs : List (Int × α)) (k : Int) (x : α) : Option (List (Int × α)) := br (lenB kvs) (putGo kvs k x) none
def mergeM {α : Type} (xs : List (Int × α)) : Option (List (Int × α)) := @List.rec (Int × α) (fun _ => List (Int × α) → Option (List (Int × α))) (fun acc => some acc) (fun q _ ih acc => (putGo acc q.1 q.2).bd ih) xs []
def dcM {α β : Type} (t : α → Option Bool) (fk : α → Option Int) (fv : α → Option β) (ml : Option (List α)) : Option (List (Int × β)) := ml.bd fun xs => br (lenB xs) (@List.rec α (fun _ => List (Int × β) → Option (List (Int × β))) (fun acc => some acc) (fun x _ ih acc => (t x).bd fun b => br b ((fk x).bd fun k => (fv x).bd fun v => (putGo acc k v).bd ih) (ih acc)) xs []) none
/-! lists and tuples -/
def ltM {α : Type} (xs : List α) : Option (SR.LT α) := some ⟨xs⟩
def ltLen {α : Type} (t : SR.LT α) : Option Int := lenM t.xs
def ltIx {α : Type} (t : SR.LT α) (i : Int) : Option α := ixM t.xs i
def ltL {α : Type} (t : SR.LT α) : Option (List α) := some t.xs
def isN {α : Type} (x : Option α) (_ : Unit) : Option Bool := @Option.rec α (fun _ => Option Bool) (some true) (fun _ => some false) x
def rdM {α : Type} (xs : List α) : Option (RdL α) := some ⟨xs⟩
def eqPB {R : Type} (f : R → R → Option Bool) (x y : R × Bool) : Option Bool := (f x.1 y.1).bd fun b => br b (br x.2 (br y.2 (some true) none) (br y.2 none (some true))) none
def nePB {R : Type} (f : R → R → Option Bool) (x y : R × Bool) : Option Bool := (f x.1 y.1).bd fun b => br b (br x.2 (br y.2 (some false) none) (br y.2 none (some false))) none
/-! equality -/
class BE (α : Type) where
  be : α → α → Bool
  ok : ∀ a b, be a b = true ↔ a = b
def eqL {α : Type} [BE α] (xs ys : α) : Option Bool := some (BE.be xs ys)
def neqL {α : Type} [BE α] (xs ys : α) : Option Bool := br (BE.be xs ys) (some false) (some true)
def beL {α : Type} (e : α → α → Bool) (xs ys : List α) : Bool := @List.rec α (fun _ => List α → Bool) (fun ys => @List.rec α (fun _ => Bool) true (fun _ _ _ => false) ys) (fun x _ ih ys => @List.rec α (fun _ => Bool) false (fun y ys _ => br (e x y) (ih ys) false) ys) xs ys
theorem ball {α : Type} {e : α → α → Bool} (h : ∀ a b, e a b = true ↔ a = b) : ∀ xs ys : List α, beL e xs ys = true ↔ xs = ys
  | [], [] => ⟨fun _ => rfl, fun _ => rfl⟩
  | [], _ :: _ => ⟨fun h => (nomatch h), fun h => (nomatch h)⟩
  | _ :: _, [] => ⟨fun h => (nomatch h), fun h => (nomatch h)⟩
  | x :: xs, y :: ys => by
    have ih := ball h xs ys
    show br (e x y) (beL e xs ys) false = true ↔ _
    cases q : e x y with
    | true =>
      rw [(h x y).mp q]
      show beL e xs ys = true ↔ _
      rw [ih]
      simp
    | false =>
      refine ⟨fun h => (nomatch h), fun z => ?_⟩
      rw [(h x y).mpr (List.cons.inj z).1] at q
      cases q
theorem eqB_ok (i j : Int) : eqB i j = true ↔ i = j := by
  cases i <;> cases j
  · rename_i m n; show Nat.beq m n = true ↔ _; rw [Nat.beq_eq]; exact ⟨fun h => by rw [h], fun h => by cases h; rfl⟩
  · exact ⟨fun h => (nomatch h), fun h => (nomatch h)⟩
  · exact ⟨fun h => (nomatch h), fun h => (nomatch h)⟩
  · rename_i m n; show Nat.beq m n = true ↔ _; rw [Nat.beq_eq]; exact ⟨fun h => by rw [h], fun h => by cases h; rfl⟩
instance : BE Int := ⟨eqB, eqB_ok⟩
instance {α : Type} [BE α] : BE (List α) := ⟨beL BE.be, ball BE.ok⟩
instance {α β : Type} [BE α] [BE β] : BE (α × β) := ⟨fun a b => br (BE.be a.1 b.1) (BE.be a.2 b.2) false, fun a b => by
  obtain ⟨a1, a2⟩ := a
  obtain ⟨b1, b2⟩ := b
  show br (BE.be a1 b1) (BE.be a2 b2) false = true ↔ _
  cases q : BE.be a1 b1 with
  | true => show BE.be a2 b2 = true ↔ _; rw [BE.ok, (BE.ok a1 b1).mp q]; simp
  | false =>
    refine ⟨fun h => (nomatch h), fun z => ?_⟩
    cases z
    rw [(BE.ok a1 a1).mpr rfl] at q
    cases q⟩
end FK
end
end
section
set_option Elab.async false
set_option linter.all false
set_option maxRecDepth 100000
set_option maxHeartbeats 4000000
/-! the quick forms are the same functions -/
namespace FK
open SR (T3 Dct Out RdL)
theorem frc_eq {α : Type} (n : Nat) (k : Nat → α) : frc n k = k n := by cases n <;> rfl
theorem br_eq {α : Type} : @br α = fun b t e => if b = true then t else e := by
  funext b t e
  cases b <;> rfl
theorem br_t {α : Type} (t e : α) : br true t e = t := rfl
theorem br_f {α : Type} (t e : α) : br false t e = e := rfl
theorem br_d {α : Type} {P : Prop} [Decidable P] {b : Bool} (h : b = true ↔ P) (t e : α) : br b t e = if P then t else e := by
  by_cases p : P
  · rw [if_pos p, h.mpr p]; rfl
  · rw [if_neg p]
    cases b with
    | true => exact absurd (h.mp rfl) p
    | false => rfl
theorem e_bd {α β : Type} : @Option.bd α β = @Option.bind α β := by
  funext m f
  cases m <;> rfl
theorem e_bindM {α β : Type} : @bindM α β = @SR.bindM α β := by
  funext m f
  cases m <;> rfl
theorem e_M1 {α β : Type} : @M1 α β = @SR.M1 α β := by
  funext f a
  cases a <;> rfl
theorem e_M2 {α β γ : Type} : @M2 α β γ = @SR.M2 α β γ := by
  funext f a b
  cases a <;> cases b <;> rfl
theorem e_M3 {α β γ δ : Type} : @M3 α β γ δ = @SR.M3 α β γ δ := by
  funext f a b c
  cases a <;> cases b <;> cases c <;> rfl
theorem e_M4 {α β γ δ ε : Type} : @M4 α β γ δ ε = @SR.M4 α β γ δ ε := by
  funext f a b c d
  cases a <;> cases b <;> cases c <;> cases d <;> rfl
theorem e_andM : andM = SR.andM := by
  funext a b
  cases a with
  | none => rfl
  | some x => cases x <;> rfl
theorem e_orM : orM = SR.orM := by
  funext a b
  cases a with
  | none => rfl
  | some x => cases x <;> rfl
theorem e_notM : notM = SR.notM := by
  funext a
  cases a with
  | none => rfl
  | some x => cases x <;> rfl
theorem e_iteM {α : Type} : @iteM α = @SR.iteM α := by
  funext c a b
  cases c with
  | none => rfl
  | some x => cases x <;> rfl
theorem e_forM {S α : Type} : @forM S α = @SR.forM S α := by
  funext f s xs
  induction xs generalizing s with
  | nil => rfl
  | cons x xs ih =>
    show (f s x).bd _ = (f s x).bind _
    cases f s x with
    | none => rfl
    | some s' => exact ih s'
theorem e_whileM {S : Type} : @whileM S = @SR.whileM S := by
  funext c f n s
  induction n generalizing s with
  | zero => rfl
  | succ n ih =>
    show (c s).bd _ = (c s).bind _
    cases c s with
    | none => rfl
    | some b =>
      cases b with
      | false => rfl
      | true =>
        show (f s).bd _ = (f s).bind _
        cases f s with
        | none => rfl
        | some s' => exact ih s'
theorem e_whileP {S : Type} : @whileP S = @SR.whileP S := by
  funext mc0 f0 mc f n
  unfold whileP SR.whileP
  rw [e_bd, e_whileM]
  cases mc0 with
  | none => rfl
  | some b => cases b <;> cases f0 <;> rfl
theorem e_loopM {S R α : Type} : @loopM S R α = @SR.loopM S R α := by
  funext f s xs
  induction xs generalizing s with
  | nil => rfl
  | cons x xs ih =>
    show (f s x).bd _ = (f s x).bind _
    cases f s x with
    | none => rfl
    | some o =>
      cases o with
      | nx s' => exact ih s'
      | rt r => rfl
      | bk s' => rfl
theorem e_outM {S R : Type} : @outM S R = @SR.outM S R := by
  funext k o
  cases o <;> rfl
theorem len_eq {α : Type} : ∀ xs : List α, len xs = xs.length
  | [] => rfl
  | x :: xs => congrArg Nat.succ (len_eq xs)
theorem ble_lt {m n : Nat} : Nat.ble (Nat.succ m) n = true ↔ m < n := by rw [Nat.ble_eq]; exact Nat.succ_le_iff
theorem lenB_ok {α : Type} (xs : List α) : lenB xs = true ↔ (xs.length : Int) < SR.cap := by
  unfold lenB SR.cap
  rw [ble_lt, len_eq]
  show xs.length < 1000000 ↔ _
  omega
theorem lcGo_eq {α β : Type} (t : α → Option Bool) (f : α → Option β) (xs : List α) : lcGo t f xs = SR.lcGo t f xs := by
  induction xs with
  | nil => rfl
  | cons x xs ih =>
    show (t x).bd _ = (t x).bind _
    cases t x with
    | none => rfl
    | some b =>
      cases b with
      | false => exact ih
      | true =>
        show (f x).bd (fun y => (lcGo t f xs).bd fun ys => some (y :: ys)) = (f x).bind _
        rw [ih, e_bd, e_bd]
theorem e_lcM {α β : Type} : @lcM α β = @SR.lcM α β := by
  funext t f ml
  unfold lcM SR.lcM
  rw [e_bd]
  refine congrArg (Option.bind ml) (funext fun xs => ?_)
  rw [lcGo_eq]
  exact br_d (lenB_ok xs) _ _
/-! numbers -/
theorem sOf_eq (n : Nat) : sOf n = some (n : Int) := frc_eq _ _
theorem sNg_eq (n : Nat) : sNg n = some (Int.negSucc n) := frc_eq _ _
theorem mix_eq (m n : Nat) : mix m n = some ((m : Int) + Int.negSucc n) := by
  unfold mix
  rw [sNg_eq, sOf_eq, br_d (P := m ≤ n) (by rw [Nat.ble_eq])]
  split
  · congr 1; rename_i h; show Int.negSucc (n - m) = _; omega
  · congr 1; rename_i h; show ((m - (n + 1) : Nat) : Int) = _; omega
theorem addI_eq (i j : Int) : addI i j = some (i + j) := by
  cases i <;> cases j
  · exact sOf_eq _
  · exact mix_eq _ _
  · rename_i m n
    show mix n m = _
    rw [mix_eq, Int.add_comm]
    rfl
  · rename_i m n
    exact sNg_eq (Nat.succ (m + n))
theorem e_addI : addI = SR.addI := by
  funext i j
  exact addI_eq i j
theorem negO_eq (n : Nat) : negO n = some (-(n : Int)) := by
  cases n with
  | zero => rfl
  | succ n => rfl
theorem negI_eq (i : Int) : negI i = some (-i) := by
  cases i with
  | ofNat n => exact negO_eq n
  | negSucc n => rfl
theorem e_subI : subI = SR.subI := by
  funext i j
  unfold subI
  rw [negI_eq]
  show addI i (-j) = _
  rw [addI_eq]
  show some (i + -j) = some (i - j)
  rw [Int.sub_eq_add_neg]
theorem inR_ok (i : Int) : inR i = SR.inRange i := by
  unfold SR.inRange
  cases i with
  | ofNat n =>
    show Nat.ble (Nat.succ n) 18446744073709551616 = _
    rw [Bool.eq_iff_iff, ble_lt, decide_eq_true_eq]
    show _ ↔ (-18446744073709551616 < (n : Int) ∧ (n : Int) < 18446744073709551616)
    omega
  | negSucc n =>
    show Nat.ble (Nat.succ (Nat.succ n)) 18446744073709551616 = _
    rw [Bool.eq_iff_iff, ble_lt, decide_eq_true_eq]
    show Nat.succ n < _ ↔ _
    omega
theorem e_mulI : mulI = SR.mulI := by
  funext i j
  unfold mulI SR.mulI
  rw [inR_ok, br_eq]
  show (if SR.inRange i = true then _ else none) = _
  congr 1
  cases i <;> cases j
  · exact sOf_eq _
  · rename_i m n
    exact negO_eq _
  · rename_i m n
    show negO (Nat.mul (Nat.succ m) n) = _
    rw [negO_eq]
    rfl
  · rename_i m n
    exact sOf_eq (Nat.succ m * Nat.succ n)
theorem e_modI : modI = SR.modI := by
  funext i j
  unfold SR.modI
  cases j with
  | negSucc n => rw [if_neg (by omega)]; rfl
  | ofNat n =>
    show br (Nat.ble 1 n) _ none = _
    rw [br_d (P := (0 : Int) < (Int.ofNat n)) (by rw [Nat.ble_eq]; show 1 ≤ n ↔ (0 : Int) < (n : Int); omega)]
    split
    · cases i with
      | ofNat m => exact sOf_eq _
      | negSucc m =>
        show sOf (n - Nat.succ (m % n)) = some (Int.subNatNat n (Nat.succ (m % n)))
        rename_i h
        have h' : 0 < n := by have : (0 : Int) < (n : Int) := h; omega
        have : m % n < n := Nat.mod_lt _ h'
        rw [sOf_eq, Int.subNatNat_of_le (by omega)]
    · rfl
theorem e_divI : divI = SR.divI := by
  funext i j
  unfold SR.divI
  cases j with
  | negSucc n => rw [if_neg (by omega)]; rfl
  | ofNat n =>
    show br (Nat.ble 1 n) (br (Nat.ble (Nat.succ n) 1073741824) _ none) none = _
    rw [br_d (P := (0 : Int) < (Int.ofNat n)) (by rw [Nat.ble_eq]; show 1 ≤ n ↔ (0 : Int) < (n : Int); omega)]
    by_cases h0 : (0 : Int) < Int.ofNat n
    · rw [if_pos h0, br_d (P := (Int.ofNat n : Int) < 1073741824) (by rw [ble_lt]; show n < 1073741824 ↔ (n : Int) < 1073741824; omega)]
      by_cases h1 : (Int.ofNat n : Int) < 1073741824
      · rw [if_pos h1, if_pos ⟨h0, h1⟩]
        have h' : 0 < n := by have : (0 : Int) < (n : Int) := h0; omega
        cases i with
        | ofNat m => exact sOf_eq _
        | negSucc m =>
          obtain ⟨k, rfl⟩ : ∃ k, n = k + 1 := ⟨n - 1, by omega⟩
          exact sNg_eq _
      · rw [if_neg h1, if_neg (fun h => h1 h.2)]
    · rw [if_neg h0, if_neg (fun h => h0 h.1)]
theorem ltB_ok (i j : Int) : ltB i j = true ↔ i < j := by
  cases i <;> cases j
  · rename_i m n; show Nat.ble (Nat.succ m) n = true ↔ (m : Int) < (n : Int); rw [ble_lt]; omega
  · rename_i m n; show false = true ↔ (m : Int) < Int.negSucc n; exact ⟨fun h => (nomatch h), fun h => by omega⟩
  · rename_i m n; show true = true ↔ Int.negSucc m < (n : Int); exact ⟨fun _ => by omega, fun _ => rfl⟩
  · rename_i m n; show Nat.ble (Nat.succ n) m = true ↔ Int.negSucc m < Int.negSucc n; rw [ble_lt]; omega
theorem leB_ok (i j : Int) : leB i j = true ↔ i ≤ j := by
  cases i <;> cases j
  · rename_i m n; show Nat.ble m n = true ↔ (m : Int) ≤ (n : Int); rw [Nat.ble_eq]; omega
  · rename_i m n; show false = true ↔ (m : Int) ≤ Int.negSucc n; exact ⟨fun h => (nomatch h), fun h => by omega⟩
  · rename_i m n; show true = true ↔ Int.negSucc m ≤ (n : Int); exact ⟨fun _ => by omega, fun _ => rfl⟩
  · rename_i m n; show Nat.ble n m = true ↔ Int.negSucc m ≤ Int.negSucc n; rw [Nat.ble_eq]; omega
theorem dec_of {b : Bool} {P : Prop} [Decidable P] (h : b = true ↔ P) : b = decide P := by
  rw [Bool.eq_iff_iff, h, decide_eq_true_eq]
theorem e_ltI : ltI = SR.ltI := by funext i j; exact congrArg some (dec_of (ltB_ok i j))
theorem e_leI : leI = SR.leI := by funext i j; exact congrArg some (dec_of (leB_ok i j))
theorem e_gtI : gtI = SR.gtI := by funext i j; exact congrArg some (dec_of (ltB_ok j i))
theorem e_geI : geI = SR.geI := by funext i j; exact congrArg some (dec_of (leB_ok j i))
theorem e_eqI : eqI = SR.eqI := by funext i j; exact congrArg some (dec_of (eqB_ok i j))
theorem e_neI : neI = SR.neI := by
  funext i j
  unfold neI SR.neI
  rw [dec_of (eqB_ok i j)]
  cases decide (i = j) <;> rfl
theorem e_neB : neB = SR.neB := by
  funext i j
  cases i <;> cases j <;> rfl
theorem e_absI : absI = SR.absI := by
  funext i
  unfold SR.absI
  cases i with
  | ofNat n => rw [if_neg (by show ¬ (n : Int) < 0; omega)]; rfl
  | negSucc n => rw [if_pos (by omega)]; rfl
theorem e_intI : intI = SR.intI := rfl
theorem e_intB : intB = SR.intB := by funext b; cases b <;> rfl
theorem e_augP (x : Int) (m : Option Int) : augP x m = SR.augM (fun i j => i + j) x m := by
  unfold augP SR.augM
  rw [e_bd, show (fun y => addI x y) = fun y => some (x + y) from funext fun y => addI_eq x y]
theorem e_max2I : max2I = SR.max2I := by
  funext i j
  unfold max2I SR.max2I
  rw [br_d (ltB_ok i j)]
  by_cases h : i < j
  · rw [if_pos h, if_pos h]
  · rw [if_neg h, if_neg h]
theorem e_chM {α β δ : Type} : @chM α β δ = @SR.chM α β δ := by
  funext f g ma mb mc
  cases ma with
  | none => rfl
  | some x =>
    cases mb with
    | none => rfl
    | some y =>
      show (f x y).bd _ = (f x y).bind _
      cases f x y with
      | none => rfl
      | some k =>
        cases k with
        | false => rfl
        | true =>
          cases mc <;> rfl
/-! lists -/
theorem e_neL {α : Type} : @neL α = @SR.neL α := by funext xs; cases xs <;> rfl
theorem e_lenM {α : Type} : @lenM α = @SR.lenM α := by
  funext xs
  unfold lenM
  rw [sOf_eq, len_eq]
  rfl
theorem e_consM {α : Type} : @consM α = @SR.consM α := rfl
theorem e_capM {α : Type} : @capM α = @SR.capM α := by
  funext xs
  exact br_d (lenB_ok xs) _ _
theorem appM_eq {α : Type} (ys : List α) : ∀ xs : List α, appM xs ys = some (xs ++ ys)
  | [] => rfl
  | x :: xs => by
    show (appM xs ys).bd _ = _
    rw [appM_eq ys xs]
    rfl
theorem e_appM {α : Type} : @appM α = @SR.appM α := by
  funext xs ys
  exact appM_eq ys xs
theorem len2_ok {α : Type} (xs ys : List α) : Nat.ble (Nat.succ (Nat.add (len xs) (len ys))) 1000000 = true ↔ ((xs.length + ys.length : Nat) : Int) < SR.cap := by
  unfold SR.cap
  rw [ble_lt, len_eq, len_eq]
  show xs.length + ys.length < 1000000 ↔ _
  omega
theorem e_catM {α : Type} : @catM α = @SR.catM α := by
  funext xs ys
  unfold catM SR.catM
  rw [appM_eq, List.length_append]
  exact br_d (len2_ok xs ys) _ _
theorem e_addL {α : Type} : @addL α = @SR.addL α := by
  funext xs x
  unfold addL SR.addL
  rw [appM_eq]
  exact br_d (lenB_ok xs) _ _
theorem e_extL {α : Type} : @extL α = @SR.extL α := by
  funext xs ys
  unfold extL SR.extL
  rw [appM_eq]
  exact br_d (len2_ok xs ys) _ _
theorem nth_eq {α : Type} : ∀ (xs : List α) (n : Nat), nth xs n = xs[n]?
  | [], n => by simp; rfl
  | x :: xs, 0 => by simp; rfl
  | x :: xs, n + 1 => by
    show nth xs n = _
    rw [nth_eq xs n]
    simp
theorem e_ixM {α : Type} : @ixM α = @SR.ixM α := by
  funext xs i
  show _ = L2.atI xs i
  unfold L2.atI L2.ixN
  cases i with
  | ofNat n =>
    show nth xs n = _
    rw [nth_eq, if_pos (by show (0 : Int) ≤ (n : Int); omega)]
    by_cases h : n < xs.length
    · rw [if_pos (by show (n : Int) < _; omega)]
      rfl
    · rw [if_neg (by show ¬ (n : Int) < _; omega), List.getElem?_eq_none (by omega)]
      rfl
  | negSucc n =>
    rw [if_neg (by omega)]
    show br (Nat.ble (Nat.succ n) (len xs)) _ none = _
    rw [br_d (P := -(xs.length : Int) ≤ Int.negSucc n) (by rw [ble_lt, len_eq]; omega), nth_eq, len_eq]
    by_cases h : -(xs.length : Int) ≤ Int.negSucc n
    · rw [if_pos h, if_pos h]
      show _ = xs[(Int.negSucc n + (xs.length : Int)).toNat]?
      rw [show (Int.negSucc n + (xs.length : Int)).toNat = xs.length - Nat.succ n by omega]
      rfl
    · rw [if_neg h, if_neg h]
      rfl
theorem e_pairM {α β : Type} : @pairM α β = @SR.pairM α β := rfl
theorem e_tripM {α β γ : Type} : @tripM α β γ = @SR.tripM α β γ := rfl
theorem enum_eq {α : Type} : ∀ (xs : List α) (k : Nat), (@List.rec α (fun _ => Nat → Option (List (Int × α))) (fun _ => some []) (fun x _ ih k => (ih (Nat.succ k)).bd fun t => some ((Int.ofNat k, x) :: t)) xs k) = some (SR.enumL (k : Int) xs)
  | [], _ => rfl
  | x :: xs, k => by
    have ih := enum_eq xs (Nat.succ k)
    show (@List.rec α (fun _ => Nat → Option (List (Int × α))) (fun _ => some []) (fun x _ ih k => (ih (Nat.succ k)).bd fun t => some ((Int.ofNat k, x) :: t)) xs (Nat.succ k)).bd _ = _
    rw [ih]
    rfl
theorem e_enumM {α : Type} : @enumM α = @SR.enumM α := by
  funext xs
  exact enum_eq xs 0
theorem zip_eq {α β : Type} : ∀ (xs : List α) (ys : List β), zipM xs ys = some (xs.zip ys)
  | [], ys => rfl
  | x :: xs, [] => rfl
  | x :: xs, y :: ys => by
    show (zipM xs ys).bd _ = _
    rw [zip_eq xs ys]
    rfl
theorem e_zipM {α β : Type} : @zipM α β = @SR.zipM α β := by
  funext xs ys
  exact zip_eq xs ys
theorem up_eq : ∀ (n : Nat) (lo : Int), up n lo = some (SR.rangeL lo n)
  | 0, _ => rfl
  | n + 1, lo => by
    show (addI lo (Int.ofNat 1)).bd (fun l => (up n l).bd fun t => some (lo :: t)) = _
    rw [addI_eq]
    show (up n (lo + 1)).bd _ = _
    rw [up_eq n]
    rfl
theorem dn_eq : ∀ (n : Nat) (hi : Int), dn n hi = some (SR.downL hi n)
  | 0, _ => rfl
  | n + 1, hi => by
    show (addI hi (Int.negSucc 0)).bd (fun l => (dn n l).bd fun t => some (hi :: t)) = _
    rw [addI_eq]
    show (dn n (hi - 1)).bd _ = _
    rw [dn_eq n]
    rfl
theorem inC_ok (i : Int) : inC i = true ↔ -SR.cap < i ∧ i < SR.cap := by
  unfold SR.cap
  cases i with
  | ofNat n =>
    show Nat.ble (Nat.succ n) 1000000 = true ↔ (-1000000 < (n : Int) ∧ (n : Int) < 1000000)
    rw [ble_lt]
    omega
  | negSucc n =>
    show Nat.ble (Nat.succ (Nat.succ n)) 1000000 = true ↔ _
    rw [ble_lt]
    show n + 1 < 1000000 ↔ _
    omega
theorem toN_eq (i : Int) : toN i = i.toNat := by cases i <;> rfl
theorem e_rangeM : rangeM = SR.rangeM := by
  funext lo hi
  unfold rangeM SR.rangeM
  rw [e_subI, show (fun d => up (toN d) lo) = fun d : Int => some (SR.rangeL lo d.toNat) from funext fun d => by rw [up_eq, toN_eq], br_d (inC_ok lo), br_d (inC_ok hi)]
  show (if _ then (if _ then some (SR.rangeL lo (hi - lo).toNat) else none) else none) = _
  by_cases h1 : -SR.cap < lo ∧ lo < SR.cap
  · rw [if_pos h1]
    by_cases h2 : -SR.cap < hi ∧ hi < SR.cap
    · rw [if_pos h2, if_pos ⟨h1.1, h1.2, h2.1, h2.2⟩]
    · rw [if_neg h2, if_neg fun h => h2 ⟨h.2.2.1, h.2.2.2⟩]
  · rw [if_neg h1, if_neg fun h => h1 ⟨h.1, h.2.1⟩]
theorem e_downM : downM = SR.downM := by
  funext hi lo
  unfold downM SR.downM
  rw [e_subI, show (fun d => dn (toN d) hi) = fun d : Int => some (SR.downL hi d.toNat) from funext fun d => by rw [dn_eq, toN_eq], br_d (inC_ok lo), br_d (inC_ok hi)]
  show (if _ then (if _ then some (SR.downL hi (hi - lo).toNat) else none) else none) = _
  by_cases h1 : -SR.cap < lo ∧ lo < SR.cap
  · rw [if_pos h1]
    by_cases h2 : -SR.cap < hi ∧ hi < SR.cap
    · rw [if_pos h2, if_pos ⟨h1.1, h1.2, h2.1, h2.2⟩]
    · rw [if_neg h2, if_neg fun h => h2 ⟨h.2.2.1, h.2.2.2⟩]
  · rw [if_neg h1, if_neg fun h => h1 ⟨h.1, h.2.1⟩]
theorem drop_eq {α : Type} : ∀ (n : Nat) (xs : List α), dropF n xs = xs.drop n
  | 0, _ => by simp; rfl
  | n + 1, [] => by simp; rfl
  | n + 1, x :: xs => by
    show dropF n xs = _
    rw [drop_eq n xs]
    simp
theorem take_eq {α : Type} : ∀ (n : Nat) (xs : List α), takeF n xs = some (xs.take n)
  | 0, _ => by simp; rfl
  | n + 1, [] => by simp; rfl
  | n + 1, x :: xs => by
    show (takeF n xs).bd _ = _
    rw [take_eq n xs]
    simp
    rfl
theorem sIx_eq (n d : Nat) (o : Option Int) : sIx n d o = HT.sIx n d o := by
  cases o with
  | none => rfl
  | some v =>
    show ir v _ _ = if v < 0 then (v + (n : Int)).toNat else min v.toNat n
    cases v with
    | ofNat m =>
      rw [if_neg (by show ¬ (m : Int) < 0; omega)]
      show br (Nat.ble m n) m n = min m n
      rw [br_d (P := m ≤ n) (by rw [Nat.ble_eq]), Nat.min_def]
    | negSucc m =>
      rw [if_pos (by omega)]
      show n - Nat.succ m = _
      omega
theorem e_cutM {α : Type} : @cutM α = @SR.cutM α := by
  funext xs lo hi
  unfold cutM SR.cutM SR.cutL
  rw [take_eq, drop_eq, len_eq, sIx_eq, sIx_eq]
  rfl
theorem sum_eq : ∀ xs : List Int, sumM xs = some xs.sum
  | [] => rfl
  | x :: xs => by
    show (sumM xs).bd (fun s => addI x s) = _
    rw [sum_eq xs]
    show addI x xs.sum = _
    rw [addI_eq, List.sum_cons]
theorem e_sumM : sumM = SR.sumM := by funext xs; exact sum_eq xs
theorem min_eq : ∀ (xs : List Int) (x : Int), (@List.rec Int (fun _ => Int → Option Int) (fun a => some a) (fun b _ ih a => br (ltB b a) (ih b) (ih a)) xs x) = some (xs.foldl (fun a b => if b < a then b else a) x)
  | [], _ => rfl
  | b :: xs, a => by
    show br (ltB b a) (@List.rec Int (fun _ => Int → Option Int) (fun a => some a) (fun b _ ih a => br (ltB b a) (ih b) (ih a)) xs b) (@List.rec Int (fun _ => Int → Option Int) (fun a => some a) (fun b _ ih a => br (ltB b a) (ih b) (ih a)) xs a) = _
    rw [min_eq xs b, min_eq xs a, br_d (ltB_ok b a), List.foldl_cons]
    by_cases h : b < a
    · rw [if_pos h, if_pos h]
    · rw [if_neg h, if_neg h]
theorem e_minL : minL = SR.minL := by
  funext xs
  cases xs with
  | nil => rfl
  | cons x xs => exact min_eq xs x
theorem max_eq : ∀ (xs : List Int) (x : Int), (@List.rec Int (fun _ => Int → Option Int) (fun a => some a) (fun b _ ih a => br (ltB a b) (ih b) (ih a)) xs x) = some (xs.foldl (fun a b => if a < b then b else a) x)
  | [], _ => rfl
  | b :: xs, a => by
    show br (ltB a b) (@List.rec Int (fun _ => Int → Option Int) (fun a => some a) (fun b _ ih a => br (ltB a b) (ih b) (ih a)) xs b) (@List.rec Int (fun _ => Int → Option Int) (fun a => some a) (fun b _ ih a => br (ltB a b) (ih b) (ih a)) xs a) = _
    rw [max_eq xs b, max_eq xs a, br_d (ltB_ok a b), List.foldl_cons]
    by_cases h : a < b
    · rw [if_pos h, if_pos h]
    · rw [if_neg h, if_neg h]
theorem e_maxL : maxL = SR.maxL := by
  funext xs
  cases xs with
  | nil => rfl
  | cons x xs => exact max_eq xs x
theorem ins_eq (x : Int) : ∀ ys : List Int, insM x ys = some (SR.insI x ys)
  | [] => rfl
  | y :: ys => by
    show br (leB x y) _ ((insM x ys).bd _) = _
    rw [ins_eq x ys, br_d (leB_ok x y)]
    show _ = some (if x ≤ y then x :: y :: ys else y :: SR.insI x ys)
    by_cases h : x ≤ y
    · rw [if_pos h, if_pos h]
    · rw [if_neg h, if_neg h]
      rfl
theorem sort_eq : ∀ xs : List Int, sortM xs = some (SR.sortI xs)
  | [] => rfl
  | x :: xs => by
    show (sortM xs).bd _ = _
    rw [sort_eq xs]
    exact ins_eq x _
theorem e_sortM : sortM = SR.sortM := by funext xs; exact sort_eq xs
theorem all_eq : ∀ xs : List Bool, allM xs = some (xs.all id)
  | [] => rfl
  | x :: xs => by
    show br x (allM xs) (some false) = _
    rw [all_eq xs]
    cases x <;> rfl
theorem e_allM : allM = SR.allM := by funext xs; exact all_eq xs
theorem any_eq : ∀ xs : List Int, anyI xs = some (xs.any fun n => n != 0)
  | [] => rfl
  | x :: xs => by
    show br (eqB x 0) (anyI xs) (some true) = _
    rw [any_eq xs, br_d (eqB_ok x 0), List.any_cons]
    by_cases h : x = 0
    · rw [if_pos h, h]; rfl
    · rw [if_neg h, show (x != 0) = true by simpa using h]; rfl
theorem e_anyI : anyI = SR.anyI := by funext xs; exact any_eq xs
theorem e_memI (xs : List Int) (y : Int) : memI xs y = xs.contains y := by
  induction xs with
  | nil => rfl
  | cons x xs ih =>
    show br (eqB y x) true (memI xs y) = _
    rw [ih, br_d (eqB_ok y x), List.contains_cons]
    by_cases h : y = x
    · rw [if_pos h, h]; simp
    · rw [if_neg h, show (y == x) = false by simpa using h]; rfl
theorem e_mapK {α : Type} (kvs : List (Int × α)) : mapK kvs = kvs.map fun x => x.1 := by
  induction kvs with
  | nil => rfl
  | cons q r ih =>
    show q.1 :: mapK r = _
    rw [ih]
    rfl
theorem e_keysM {α : Type} : @keysM α = @SR.keysM α := by
  funext kvs
  exact congrArg some (e_mapK kvs)
/-! dicts -/
theorem getD_eq {α : Type} : ∀ (kvs : List (Int × α)) (k : Int), getD kvs k = SR.getD? kvs k
  | [], _ => rfl
  | (j, w) :: r, k => by
    show br (eqB j k) (some w) (getD r k) = if j = k then some w else SR.getD? r k
    rw [getD_eq r k, br_d (eqB_ok j k)]
theorem e_dgetM {α : Type} : @dgetM α = @SR.dgetM α := by funext kvs k; exact getD_eq kvs k
theorem e_dgetD {α : Type} : @dgetD α = @SR.dgetD α := by
  funext kvs k d
  unfold dgetD SR.dgetD
  rw [getD_eq]
  cases SR.getD? kvs k <;> rfl
theorem e_dninM {α : Type} : @dninM α = @SR.dninM α := by
  funext k kvs
  unfold dninM SR.dninM
  rw [getD_eq]
  cases SR.getD? kvs k <;> rfl
theorem e_dnilM {α : Type} : @dnilM α = @SR.dnilM α := by funext kvs; cases kvs <;> rfl
theorem mapGo_eq {α : Type} (k : Int) (v : α) : ∀ kvs : List (Int × α), mapGo k v kvs = some (kvs.map fun q => if q.1 = k then (q.1, v) else q)
  | [] => rfl
  | q :: r => by
    show (mapGo k v r).bd _ = _
    rw [mapGo_eq k v r]
    show br (eqB q.1 k) _ _ = _
    rw [br_d (eqB_ok q.1 k), List.map_cons]
    by_cases h : q.1 = k
    · rw [if_pos h, if_pos h]
    · rw [if_neg h, if_neg h]
theorem putGo_eq {α : Type} (k : Int) (v : α) : ∀ kvs : List (Int × α), putGo kvs k v = some (SR.putD kvs k v)
  | [] => rfl
  | (j, w) :: r => by
    show br (eqB j k) ((mapGo k v r).bd fun t => some ((j, v) :: t)) ((putGo r k v).bd fun t => some ((j, w) :: t)) = _
    rw [mapGo_eq, putGo_eq k v r, br_d (eqB_ok j k)]
    show _ = some (if j = k then _ else _)
    by_cases h : j = k
    · rw [if_pos h, if_pos h]
      rfl
    · rw [if_neg h, if_neg h]
      rfl
theorem e_putM {α : Type} : @putM α = @SR.putM α := by
  funext kvs k x
  unfold putM SR.putM
  rw [putGo_eq]
  exact br_d (lenB_ok kvs) _ _
theorem merge_eq {α : Type} : ∀ (xs acc : List (Int × α)), (@List.rec (Int × α) (fun _ => List (Int × α) → Option (List (Int × α))) (fun acc => some acc) (fun q _ ih acc => (putGo acc q.1 q.2).bd ih) xs acc) = some (xs.foldl (fun acc q => SR.putD acc q.1 q.2) acc)
  | [], _ => rfl
  | q :: r, acc => by
    show (putGo acc q.1 q.2).bd _ = _
    rw [putGo_eq]
    exact merge_eq r _
theorem e_mergeM {α : Type} : @mergeM α = @SR.mergeM α := by funext xs; exact merge_eq xs []
theorem dc_eq {α β : Type} (t : α → Option Bool) (fk : α → Option Int) (fv : α → Option β) : ∀ (xs : List α) (acc : List (Int × β)), (@List.rec α (fun _ => List (Int × β) → Option (List (Int × β))) (fun acc => some acc) (fun x _ ih acc => (t x).bd fun b => br b ((fk x).bd fun k => (fv x).bd fun v => (putGo acc k v).bd ih) (ih acc)) xs acc) = SR.dcGo t fk fv acc xs
  | [], _ => rfl
  | x :: xs, acc => by
    have ih := dc_eq t fk fv xs
    show (t x).bd _ = (t x).bind _
    cases t x with
    | none => rfl
    | some b =>
      cases b with
      | false => exact ih acc
      | true =>
        show (fk x).bd _ = (fk x).bind _
        cases fk x with
        | none => rfl
        | some k =>
          show (fv x).bd _ = (fv x).bind _
          cases fv x with
          | none => rfl
          | some v =>
            show (putGo acc k v).bd _ = _
            rw [putGo_eq]
            exact ih _
theorem e_dcM {α β : Type} : @dcM α β = @SR.dcM α β := by
  funext t fk fv ml
  unfold dcM SR.dcM
  rw [e_bd]
  refine congrArg (Option.bind ml) (funext fun xs => ?_)
  rw [dc_eq]
  exact br_d (lenB_ok xs) _ _
theorem e_ltM {α : Type} : @ltM α = @SR.ltM α := rfl
theorem e_ltLen {α : Type} : @ltLen α = @SR.ltLen α := by
  funext t
  unfold ltLen
  rw [e_lenM]
  rfl
theorem e_ltIx {α : Type} : @ltIx α = @SR.ltIx α := by
  funext t i
  unfold ltIx
  rw [e_ixM]
  rfl
theorem e_ltL {α : Type} : @ltL α = @SR.ltL α := rfl
theorem e_isN {α : Type} : @isN α = @SR.isN α := by funext x u; cases x <;> rfl
theorem e_rdM {α : Type} : @rdM α = @SR.rdM α := rfl
theorem e_eqL {α : Type} [BE α] [d : DecidableEq α] : @eqL α _ = @SR.eqL α d := by
  funext xs ys
  exact congrArg some (dec_of (BE.ok xs ys))
theorem e_neqL {α : Type} [BE α] [d : DecidableEq α] : @neqL α _ = @SR.neqL α d := by
  funext xs ys
  unfold neqL SR.neqL
  rw [dec_of (BE.ok xs ys)]
  cases decide (xs = ys) <;> rfl
theorem e_eqPB {R : Type} : @eqPB R = @SR.eqPB R := by
  funext f x y
  unfold eqPB SR.eqPB
  cases f x.1 y.1 with
  | none => rw [if_neg (by simp)]; rfl
  | some b => cases b <;> cases x.2 <;> cases y.2 <;> rfl
theorem e_nePB {R : Type} : @nePB R = @SR.nePB R := by
  funext f x y
  unfold nePB SR.nePB
  cases f x.1 y.1 with
  | none => rw [if_neg (by simp)]; rfl
  | some b => cases b <;> cases x.2 <;> cases y.2 <;> rfl
end FK
end
section
set_option Elab.async false
set_option linter.all false
set_option maxRecDepth 100000
set_option maxHeartbeats 4000000
noncomputable section
namespace FS
open FK
open SR (Dct Out RdL Rep SeqLike Flt Sqn)
def m_is_integer  (x_thing : Int) : Option Bool := (FK.andM ((some x_thing).bd fun _ => some true) (FK.notM ((some x_thing).bd fun _ => some false)))
def m_is_list {α : Type} [Rep α] [SeqLike α] (x_thing : α) : Option Bool := ((some x_thing).bd fun _ => some true)
def m_is_prime  (x_thing : Int) : Option Bool := (FK.andM (M1 m_is_integer (some x_thing)) ((some x_thing).bd fun x => some ((memI [Int.ofNat (nat_lit 2), Int.ofNat (nat_lit 3), Int.ofNat (nat_lit 5), Int.ofNat (nat_lit 7)] x))))
def m_are_digits  (x_prime : Int) (x_thing : (SR.LT Int)) : Option Bool := (FK.andM (M1 m_is_list (some x_thing)) (M1 allM (lcM (fun x2 : Int => (some true)) (fun x2 : Int => (FK.andM (M1 m_is_integer (some x2)) (chM leI ltI (some (Int.ofNat (nat_lit 0))) (some x2) (some x_prime)))) (M1 ltL (some x_thing)))))
def m_inverse  (x_prime : Int) (x_digit : Int) : Option Int := (M2 ixM (lcM (fun x2 : Int => (M2 eqI (M2 modI (M2 mulI (some x2) (some x_digit)) (some x_prime)) (some (Int.ofNat (nat_lit 1))))) (fun x2 : Int => (some x2)) (M2 rangeM (some (Int.ofNat (nat_lit 1))) (some x_prime))) (some (Int.ofNat (nat_lit 0))))
def m_divided  (x_prime : Int) (x_terms : (List (Int × Int))) (x_divisor : (List Int)) : Option ((Dct Int) × (List Int)) := (bindM (M2 pairM (M2 subI (M1 lenM (some x_divisor)) (some (Int.ofNat (nat_lit 1)))) (M2 m_inverse (some x_prime) (M2 ixM (some x_divisor) (some (Int.ofNat (nat_lit 0)))))) fun b1 => (bindM (some ([] : List (Int × Int))) fun b2 => (bindM (some ([] : List (Int × Int))) fun b3 => (bindM ((some x_terms).bd fun xs => forM (fun (s4 : ((List (Int × Int)))) (x5 : (Int × Int)) => (bindM (M2 (fun x k => putM s4 k x) (some x5.2) (some x5.1)) fun b6 => (some b6))) b2 xs) fun b7 => (bindM (M1 minL (lcM (fun x9 : Int => (some true)) (fun x9 : Int => (M1 intI (some x9))) (M1 capM (M2 consM (some (Int.ofNat (nat_lit 0))) (M2 appM (M1 keysM (some b7)) (some ([] : List Int))))))) fun b10 => (bindM (M1 maxL (lcM (fun x12 : Int => (some true)) (fun x12 : Int => (M1 intI (some x12))) (M1 capM (M2 consM (some (Int.ofNat (nat_lit 0))) (M2 appM (M1 keysM (some b7)) (some ([] : List Int))))))) fun b13 => (bindM ((M2 catM (M2 rangeM (some b10) (some (Int.ofNat (nat_lit 0)))) (M2 downM (some b13) (M2 subI (some b1.1) (some (Int.ofNat (nat_lit 1)))))).bd fun xs => forM (fun (s14 : ((List (Int × Int)) × (List (Int × Int)))) (x15 : Int) => (bindM (M2 pairM (M3 dgetD (some s14.2) (some x15) (some (Int.ofNat (nat_lit 0)))) (M2 subI (some x15) (some b1.1))) fun b16 => (bindM (iteM (M2 ltI (some x15) (some (Int.ofNat (nat_lit 0)))) (bindM (M2 pairM (M2 modI (M2 mulI (some b16.1) (some b1.2)) (some x_prime)) (some x15)) fun b17 => (some (b17.1, b17.2))) (some (b16.1, b16.2))) fun b19 => (bindM (iteM (M2 gtI (some b19.1) (some (Int.ofNat (nat_lit 0)))) (bindM (M2 (fun x k => putM s14.1 k x) (some b19.1) (some b19.2)) fun b20 => (bindM ((M1 enumM (some x_divisor)).bd fun xs => forM (fun (s21 : ((List (Int × Int)))) (x22 : (Int × Int)) => (bindM (M2 (fun x k => putM s21 k x) (M2 modI (M2 subI (M3 dgetD (some s21) (M2 addI (some b19.2) (some x22.1)) (some (Int.ofNat (nat_lit 0)))) (M2 mulI (some b19.1) (some x22.2))) (some x_prime)) (M2 addI (some b19.2) (some x22.1))) fun b23 => (some b23))) s14.2 xs) fun b24 => (some (b20, b24)))) (some (s14.1, s14.2))) fun b26 => (some (b26.1, b26.2)))))) (b3, b7) xs) fun b27 => (M2 pairM (some (Dct.mk b27.1)) (lcM (fun x28 : Int => (some true)) (fun x28 : Int => (M3 dgetD (some b27.2) (some x28) (some (Int.ofNat (nat_lit 0))))) (M1 (rangeM 0) (some b1.1)))))))))))
def m_product_rest  (x_prime : Int) (x_divisor : (List Int)) (x_one : (List Int)) (x_other : (List Int)) : Option (List Int) := (bindM (M2 subI (M1 lenM (some x_divisor)) (some (Int.ofNat (nat_lit 1)))) fun b1 => (bindM (some ([] : List (Int × Int))) fun b2 => (bindM ((M1 enumM (some x_one)).bd fun xs => forM (fun (s3 : ((List (Int × Int)))) (x4 : (Int × Int)) => (bindM ((M1 enumM (some x_other)).bd fun xs => forM (fun (s5 : ((List (Int × Int)))) (x6 : (Int × Int)) => (bindM (M2 (fun x k => putM s5 k x) (M2 addI (M3 dgetD (some s5) (M2 addI (some x4.1) (some x6.1)) (some (Int.ofNat (nat_lit 0)))) (M2 mulI (some x4.2) (some x6.2))) (M2 addI (some x4.1) (some x6.1))) fun b7 => (some b7))) s3 xs) fun b8 => (some b8))) b2 xs) fun b9 => (bindM ((M2 downM (M2 subI (M2 mulI (some (Int.ofNat (nat_lit 2))) (some b1)) (some (Int.ofNat (nat_lit 2)))) (M2 subI (some b1) (some (Int.ofNat (nat_lit 1))))).bd fun xs => forM (fun (s10 : ((List (Int × Int)))) (x11 : Int) => (bindM (M2 modI (M2 dgetM (some s10) (some x11)) (some x_prime)) fun b12 => (bindM ((M1 (rangeM 0) (some b1)).bd fun xs => forM (fun (s13 : ((List (Int × Int)))) (x14 : Int) => (bindM (M2 (fun x k => putM s13 k x) (M2 subI (M2 dgetM (some s13) (M2 addI (M2 subI (some x11) (some b1)) (some x14))) (M2 mulI (some b12) (M2 ixM (some x_divisor) (some x14)))) (M2 addI (M2 subI (some x11) (some b1)) (some x14))) fun b15 => (some b15))) s10 xs) fun b16 => (some b16)))) b9 xs) fun b17 => (lcM (fun x18 : Int => (some true)) (fun x18 : Int => (M2 modI (M2 dgetM (some b17) (some x18)) (some x_prime))) (M1 (rangeM 0) (some b1)))))))
def m_shift_rest  (x_prime : Int) (x_divisor : (List Int)) (x_back : Bool) : Option (List Int) := (bindM (M2 subI (M1 lenM (some x_divisor)) (some (Int.ofNat (nat_lit 1)))) fun b1 => (iteM (some x_back) (bindM (M2 subI (some (Int.ofNat (nat_lit 0))) (M2 m_inverse (some x_prime) (M2 ixM (some x_divisor) (some (Int.ofNat (nat_lit 0)))))) fun b2 => (lcM (fun x3 : Int => (some true)) (fun x3 : Int => (M2 modI (M2 mulI (some b2) (some x3)) (some x_prime))) (M3 cutM (some x_divisor) ((some (Int.ofNat (nat_lit 1))).bd fun i => some (some i)) (some none)))) (iteM (M2 eqI (some b1) (some (Int.ofNat (nat_lit 1)))) (M1 capM (M2 consM (M2 modI (M2 subI (some (Int.ofNat (nat_lit 0))) (M2 ixM (some x_divisor) (some (Int.ofNat (nat_lit 0))))) (some x_prime)) (some ([] : List Int)))) (lcM (fun x4 : Int => (some true)) (fun x4 : Int => (M1 intB (M2 eqI (some x4) (some (Int.ofNat (nat_lit 1)))))) (M1 (rangeM 0) (some b1))))))
def m_moved_rest  (x_prime : Int) (x_divisor : (List Int)) (x_rest : (List Int)) : Option (List Int) := (bindM (M2 catM (M1 capM (M2 consM (some (Int.ofNat (nat_lit 0))) (some ([] : List Int)))) (some x_rest)) fun b1 => (lcM (fun x2 : Int => (some true)) (fun x2 : Int => (M2 modI (M2 subI (M2 ixM (some b1) (some x2)) (M2 mulI (M2 ixM (some b1) ((some (Int.ofNat (nat_lit 1))).bd fun i => some (-i))) (M2 ixM (some x_divisor) (some x2)))) (some x_prime))) (M1 (rangeM 0) (M1 lenM (some x_rest)))))
def m_far_rest  (x_prime : Int) (x_divisor : (List Int)) (x_places : Int) : Option (List Int) := (bindM (M2 subI (M1 lenM (some x_divisor)) (some (Int.ofNat (nat_lit 1)))) fun b1 => (iteM (M2 eqI (some b1) (some (Int.ofNat (nat_lit 0)))) (some ([] : (List Int))) (bindM (lcM (fun x2 : Int => (some true)) (fun x2 : Int => (M1 intB (M2 eqI (some x2) (some (Int.ofNat (nat_lit 0)))))) (M1 (rangeM 0) (some b1))) fun b3 => (bindM (M2 pairM (M3 m_shift_rest (some x_prime) (some x_divisor) (M2 ltI (some x_places) (some (Int.ofNat (nat_lit 0))))) (M1 absI (some x_places))) fun b4 => (bindM (whileM (fun (s5 : ((List Int) × (List Int) × Int)) => (M2 gtI (some s5.2.2) (some (Int.ofNat (nat_lit 0))))) (fun (s5 : ((List Int) × (List Int) × Int)) => (bindM (iteM (M2 eqI (M2 modI (some s5.2.2) (some (Int.ofNat (nat_lit 2)))) (some (Int.ofNat (nat_lit 1)))) (bindM (M4 m_product_rest (some x_prime) (some x_divisor) (some s5.1) (some s5.2.1)) fun b6 => (some b6)) (some s5.1)) fun b8 => (bindM (M4 m_product_rest (some x_prime) (some x_divisor) (some s5.2.1) (some s5.2.1)) fun b9 => (bindM (M2 divI (some s5.2.2) (some (Int.ofNat (nat_lit 2)))) fun b10 => (some (b8, b9, b10)))))) 64 (b3, b4.1, b4.2)) fun b11 => (some b11.1))))))
def m_is_term  (x_thing : (Int × Int)) : Option Bool := (FK.andM (M1 m_is_list (some x_thing)) (FK.andM (M2 eqI ((some x_thing).bd fun _ => some (Int.ofNat (nat_lit 2))) (some (Int.ofNat (nat_lit 2)))) (FK.andM (M1 m_is_integer ((some x_thing).bd fun x => some x.1)) (M1 m_is_integer ((some x_thing).bd fun x => some x.2)))))
def m_Filter_init  (x_prime : Int) (x_terms : (List (Int × Int))) : Option Flt := (bindM (iteM (FK.notM (M1 m_is_prime (some x_prime))) none (some ())) fun b1 => (bindM (iteM (FK.notM (M1 m_is_list (some x_terms))) none (some ())) fun b2 => (bindM (some ([] : List (Int × Int))) fun b3 => (bindM ((M1 enumM (some x_terms)).bd fun xs => forM (fun (s4 : ((List (Int × Int)))) (x5 : (Int × (Int × Int))) => (bindM (iteM (FK.notM (M1 m_is_term (some x5.2))) none (some ())) fun b6 => (bindM (M2 (fun x k => putM s4 k x) (M2 modI (M2 addI (M3 dgetD (some s4) ((some x5.2).bd fun x => some x.1) (some (Int.ofNat (nat_lit 0)))) ((some x5.2).bd fun x => some x.2)) (some x_prime)) ((some x5.2).bd fun x => some x.1)) fun b7 => (some b7)))) b3 xs) fun b8 => (bindM (M1 sortM (lcM (fun x10 : Int => (some true)) (fun x10 : Int => (M1 intI (some x10))) (some (mapK (Dct.mk b8).kvs)))) fun b11 => (bindM (some x_prime) fun b12 => (bindM (lcM (fun x13 : Int => (M2 gtI (M2 dgetM ((some (Dct.mk b8)).bd fun d => some d.kvs) (some x13)) (some (Int.ofNat (nat_lit 0))))) (fun x13 : Int => (M2 pairM (some x13) (M2 dgetM ((some (Dct.mk b8)).bd fun d => some d.kvs) (some x13)))) (some b11)) fun b14 => (bindM ((M1 mergeM (some b14)).bd fun kvs => some (Dct.mk kvs)) fun b15 => (some (⟨b12, b14, b15⟩ : Flt))))))))))
def m_Filter_getitem  (x_self : Flt) (x_offset : Int) : Option Int := (M3 dgetD (((some x_self).bd fun r => some r.held).bd fun d => some d.kvs) (some x_offset) (some (Int.ofNat (nat_lit 0))))
def m_Filter_bool  (x_self : Flt) : Option Bool := (M1 neL ((some x_self).bd fun r => some r.kept))
def m_Filter_eq  (x_self : Flt) (x_other : Flt) : Option Bool := (FK.andM ((some x_other).bd fun _ => some true) (FK.andM (M2 eqI ((some x_self).bd fun r => some r.prime) ((some x_other).bd fun r => some r.prime)) (M2 eqL ((some x_self).bd fun r => some r.kept) ((some x_other).bd fun r => some r.kept))))
def m_Filter_terms  (x_self : Flt) : Option (List (Int × Int)) := ((some x_self).bd fun r => some r.kept)
def m_Filter_low  (x_self : Flt) : Option (Option Int) := (iteM (M1 neL ((some x_self).bd fun r => some r.kept)) (((M2 ixM ((some x_self).bd fun r => some r.kept) (some (Int.ofNat (nat_lit 0)))).bd fun x => some x.1).bd fun x => some (some x)) (some (none : (Option Int))))
def m_Filter_high  (x_self : Flt) : Option (Option Int) := (iteM (M1 neL ((some x_self).bd fun r => some r.kept)) (((M2 ixM ((some x_self).bd fun r => some r.kept) ((some (Int.ofNat (nat_lit 1))).bd fun i => some (-i))).bd fun x => some x.1).bd fun x => some (some x)) (some (none : (Option Int))))
def m_Filter_span  (x_self : Flt) : Option (Option Int) := (iteM (M1 neL ((some x_self).bd fun r => some r.kept)) ((M2 subI ((M2 ixM ((some x_self).bd fun r => some r.kept) ((some (Int.ofNat (nat_lit 1))).bd fun i => some (-i))).bd fun x => some x.1) ((M2 ixM ((some x_self).bd fun r => some r.kept) (some (Int.ofNat (nat_lit 0)))).bd fun x => some x.1)).bd fun x => some (some x)) (some (none : (Option Int))))
def m_Filter_normal  (x_self : Flt) : Option Flt := (iteM (FK.notM (M1 neL ((some x_self).bd fun r => some r.kept))) (some x_self) (bindM (M2 pairM ((M2 ixM ((some x_self).bd fun r => some r.kept) (some (Int.ofNat (nat_lit 0)))).bd fun x => some x.1) (M2 m_inverse ((some x_self).bd fun r => some r.prime) ((M2 ixM ((some x_self).bd fun r => some r.kept) ((some (Int.ofNat (nat_lit 1))).bd fun i => some (-i))).bd fun x => some x.2))) fun b1 => (M2 m_Filter_init ((some x_self).bd fun r => some r.prime) (lcM (fun x2 : (Int × Int) => (some true)) (fun x2 : (Int × Int) => (M2 pairM (M2 subI (some x2.1) (some b1.1)) (M2 mulI (some b1.2) (some x2.2)))) ((some x_self).bd fun r => some r.kept)))))
def m_check_primes  (x_one : Flt) (x_other : Flt) : Option Unit := (bindM (iteM (M2 neI ((some x_one).bd fun r => some r.prime) ((some x_other).bd fun r => some r.prime)) none (some ())) fun b1 => (some ()))
def m_divisor_of  (x_f : Flt) : Option (List Int) := (bindM (M1 m_Filter_normal (some x_f)) fun b1 => (lcM (fun x2 : Int => (some true)) (fun x2 : Int => (M2 m_Filter_getitem (some b1) (some x2))) (M1 (rangeM 0) (M2 addI ((M1 m_Filter_span (some b1)).bd fun x => x) (some (Int.ofNat (nat_lit 1)))))))
def m_Filter_mod  (x_self : Flt) (x_other : Flt) : Option Flt := (iteM (FK.notM ((some x_other).bd fun _ => some true)) none (iteM (FK.notM (M1 m_Filter_bool (some x_other))) none (bindM (M2 m_check_primes (some x_self) (some x_other)) fun b1 => (bindM (M1 m_divisor_of (some x_other)) fun b2 => (bindM (lcM (fun x3 : (Int × Int) => (M2 leI (M1 absI (some x3.1)) (some (Int.ofNat (nat_lit 2000))))) (fun x3 : (Int × Int) => (M2 pairM (some x3.1) (some x3.2))) ((some x_self).bd fun r => some r.kept)) fun b4 => (bindM (M1 enumM ((M3 m_divided ((some x_self).bd fun r => some r.prime) (some b4) (some b2)).bd fun x => some x.2)) fun b5 => (bindM (((some x_self).bd fun r => some r.kept).bd fun xs => forM (fun (s6 : ((List (Int × Int)))) (x7 : (Int × Int)) => (bindM (iteM (M2 gtI (M1 absI (some x7.1)) (some (Int.ofNat (nat_lit 2000)))) (bindM (M3 m_far_rest ((some x_self).bd fun r => some r.prime) (some b2) (some x7.1)) fun b8 => (bindM (M2 catM (some s6) (lcM (fun x10 : (Int × Int) => (some true)) (fun x10 : (Int × Int) => (M2 pairM (some x10.1) (M2 mulI (some x7.2) (some x10.2)))) (M1 enumM (some b8)))) fun b11 => (some b11))) (some s6)) fun b13 => (some b13))) b5 xs) fun b14 => (M2 m_Filter_init ((some x_self).bd fun r => some r.prime) (some b14)))))))))
def m_Filter_floordiv  (x_self : Flt) (x_other : Flt) : Option Flt := (iteM (FK.notM ((some x_other).bd fun _ => some true)) none (iteM (FK.notM (M1 m_Filter_bool (some x_other))) none (bindM (M2 m_check_primes (some x_self) (some x_other)) fun b1 => (bindM ((M3 m_divided ((some x_self).bd fun r => some r.prime) ((some x_self).bd fun r => some r.kept) (M1 m_divisor_of (some x_other))).bd fun x => some x.1) fun b2 => (bindM (M2 pairM (M1 m_Filter_low (some x_other)) (M2 m_inverse ((some x_self).bd fun r => some r.prime) (M2 m_Filter_getitem (some x_other) ((M1 m_Filter_high (some x_other)).bd fun x => x)))) fun b3 => (M2 m_Filter_init ((some x_self).bd fun r => some r.prime) (lcM (fun x4 : (Int × Int) => (some true)) (fun x4 : (Int × Int) => (M2 pairM (M2 subI (some x4.1) ((some b3.1).bd fun x => x)) (M2 mulI (some b3.2) (some x4.2)))) (some b2.kvs))))))))
def m_gcd  (x_f : Flt) (x_g : Flt) : Option Flt := (bindM (M2 m_check_primes (some x_f) (some x_g)) fun b1 => (bindM (M2 pairM (M1 m_Filter_normal (some x_f)) (M1 m_Filter_normal (some x_g))) fun b2 => (bindM (whileM (fun (s3 : (Flt × Flt)) => (M1 m_Filter_bool (some s3.2))) (fun (s3 : (Flt × Flt)) => (bindM (M2 pairM (some s3.2) (M1 m_Filter_normal (M2 m_Filter_mod (some s3.1) (some s3.2)))) fun b4 => (some (b4.1, b4.2)))) 64 (b2.1, b2.2)) fun b5 => (some b5.1))))
def m_least_rule  (x_rule : Flt) (x_digits : (List Int)) : Option Flt := (bindM (some ([] : (List (Int × Int)))) fun b1 => (bindM ((M1 (rangeM 0) ((M1 m_Filter_span (some x_rule)).bd fun x => x)).bd fun xs => forM (fun (s2 : ((List (Int × Int)))) (x3 : Int) => (bindM (some (Int.ofNat (nat_lit 0))) fun b4 => (bindM ((M2 rangeM (M2 addI (some x3) (some (Int.ofNat (nat_lit 1)))) (M2 addI ((M1 m_Filter_span (some x_rule)).bd fun x => x) (some (Int.ofNat (nat_lit 1))))).bd fun xs => forM (fun (s5 : (Int)) (x6 : Int) => (bindM (M2 addI (some s5) (M2 mulI (M2 m_Filter_getitem (some x_rule) (some x6)) (M2 ixM (some x_digits) (M2 subI (M2 subI (some x6) (some x3)) (some (Int.ofNat (nat_lit 1))))))) fun b7 => (some b7))) b4 xs) fun b8 => (bindM (M1 (addL s2) (M2 pairM (some x3) (some b8))) fun b9 => (some b9))))) b1 xs) fun b10 => (M2 m_Filter_floordiv (some x_rule) (M2 m_gcd (some x_rule) (M2 m_Filter_init ((some x_rule).bd fun r => some r.prime) (some b10))))))
def m_Sequence_init  (x_rule : Flt) (x_digits : (List Int)) : Option Sqn := (bindM (iteM (FK.orM (FK.notM ((some x_rule).bd fun _ => some true)) (FK.notM (M1 m_Filter_bool (some x_rule)))) none (some ())) fun b1 => (bindM (iteM (FK.orM (FK.notM (M2 m_are_digits ((some x_rule).bd fun r => some r.prime) (M1 ltM (some x_digits)))) (M2 neI (M1 lenM (some x_digits)) ((M1 m_Filter_span (some x_rule)).bd fun x => x))) none (some ())) fun b2 => (bindM ((some x_rule).bd fun r => some r.prime) fun b3 => (bindM (M2 m_least_rule (M1 m_Filter_normal (some x_rule)) (some x_digits)) fun b4 => (bindM (M3 cutM (some x_digits) (some none) (((M1 m_Filter_span (some b4)).bd fun x => x).bd fun i => some (some i))) fun b5 => (bindM (M1 m_divisor_of (some b4)) fun b6 => (some (⟨b3, b4, b5, b6⟩ : Sqn))))))))
def m_Sequence_led  (x_self : Sqn) (x_rest : (List Int)) : Option Int := (M2 modI (M1 sumM (lcM (fun x2 : (Int × Int) => (some true)) (fun x2 : (Int × Int) => (M2 mulI (some x2.1) (some x2.2))) (M2 zipM (some x_rest) ((some x_self).bd fun r => some r.front)))) ((some x_self).bd fun r => some r.prime))
def m_Sequence_rule  (x_self : Sqn) : Option Flt := ((some x_self).bd fun r => some r.ruler)
def m_Sequence_eq  (x_self : Sqn) (x_other : Sqn) : Option Bool := (FK.andM ((some x_other).bd fun _ => some true) (FK.andM (M2 m_Filter_eq ((some x_self).bd fun r => some r.ruler) ((some x_other).bd fun r => some r.ruler)) (M2 eqL ((some x_self).bd fun r => some r.front) ((some x_other).bd fun r => some r.front))))
def m_Sequence_digits  (x_self : Sqn) (x_start : Int) (x_count : Int) : Option (List Int) := (bindM (some ([] : (List Int))) fun b1 => (bindM (M2 pairM (M1 lenM ((some x_self).bd fun r => some r.front)) (M3 m_far_rest ((some x_self).bd fun r => some r.prime) ((some x_self).bd fun r => some r.divisor) (some x_start))) fun b2 => (bindM (whileM (fun (s3 : ((List Int) × (List Int))) => (M2 ltI (M1 lenM (some s3.2)) (some x_count))) (fun (s3 : ((List Int) × (List Int))) => (bindM (iteM (M2 ltI (M1 lenM (some s3.2)) (some b2.1)) (bindM (M1 (addL s3.2) (M2 m_Sequence_led (some x_self) (some s3.1))) fun b4 => (bindM (M3 m_moved_rest ((some x_self).bd fun r => some r.prime) ((some x_self).bd fun r => some r.divisor) (some s3.1)) fun b5 => (some (b4, b5)))) (bindM (M3 cutM (some s3.2) ((M2 subI (M1 lenM (some s3.2)) (some b2.1)).bd fun i => some (some i)) (some none)) fun b6 => (bindM (M1 (addL s3.2) (M2 modI (M2 subI (some (Int.ofNat (nat_lit 0))) (M1 sumM (lcM (fun x8 : (Int × Int) => (some true)) (fun x8 : (Int × Int) => (M2 mulI (some x8.1) (some x8.2))) (M2 zipM ((some x_self).bd fun r => some r.divisor) (some b6))))) ((some x_self).bd fun r => some r.prime))) fun b9 => (some (b9, s3.1))))) fun b11 => (some (b11.2, b11.1)))) 64 (b2.2, b1)) fun b12 => (some b12.2))))
def m_less  (x_prime : Int) (x_one : (Dct Int)) (x_other : (Dct Int)) (x_digit : Int) : Option (Dct Int) := (bindM (some ([] : List (Int × Int))) fun b1 => (bindM ((M1 capM (M2 appM (M1 keysM ((some x_one).bd fun d => some d.kvs)) (M2 appM (lcM (fun x3 : Int => (M2 dninM (some x3) ((some x_one).bd fun d => some d.kvs))) (fun x3 : Int => (some x3)) (some (mapK x_other.kvs))) (some ([] : List Int))))).bd fun xs => forM (fun (s4 : ((List (Int × Int)))) (x5 : Int) => (bindM (M2 modI (M2 subI (M3 dgetD ((some x_one).bd fun d => some d.kvs) (some x5) (some (Int.ofNat (nat_lit 0)))) (M2 mulI (some x_digit) (M3 dgetD ((some x_other).bd fun d => some d.kvs) (some x5) (some (Int.ofNat (nat_lit 0)))))) (some x_prime)) fun b6 => (bindM (iteM (M2 gtI (some b6) (some (Int.ofNat (nat_lit 0)))) (bindM (M2 (fun x k => putM s4 k x) (some b6) (some x5)) fun b7 => (some b7)) (some s4)) fun b9 => (some b9)))) b1 xs) fun b10 => (some (Dct.mk b10))))
def m_cleared  (x_prime : Int) (x_vector : (Dct Int)) (x_parts : (List Int)) (x_done : (RdL (SR.T3 Int (Dct Int) (List Int)))) : Option ((Dct Int) × (List Int)) := (bindM ((some x_done.xs).bd fun xs => forM (fun (s1 : ((Dct Int) × (List Int))) (x2 : (SR.T3 Int (Dct Int) (List Int))) => (bindM (M3 dgetD ((some s1.1).bd fun d => some d.kvs) (some x2.a) (some (Int.ofNat (nat_lit 0)))) fun b3 => (bindM (iteM (M2 gtI (some b3) (some (Int.ofNat (nat_lit 0)))) (bindM (M4 m_less (some x_prime) (some s1.1) (some x2.b) (some b3)) fun b4 => (bindM (lcM (fun x5 : (Int × Int) => (some true)) (fun x5 : (Int × Int) => (M2 modI (M2 subI (some x5.1) (M2 mulI (some b3) (some x5.2))) (some x_prime))) (M2 zipM (some s1.2) (some x2.c))) fun b6 => (some (b4, b6)))) (some (s1.1, s1.2))) fun b8 => (some (b8.1, b8.2))))) (x_vector, x_parts) xs) fun b9 => (M2 pairM (some b9.1) (some b9.2)))
def m_spanned  (x_prime : Int) (x_vectors : (List (Dct Int))) : Option (SR.T3 (List (SR.T3 Int (Dct Int) (List Int))) (List (List Int)) (List Int)) := (bindM (some ([] : (List (SR.T3 Int (Dct Int) (List Int))))) fun b1 => (bindM (some ([] : (List (List Int)))) fun b2 => (bindM (some ([] : (List Int))) fun b3 => (bindM ((M1 enumM (some x_vectors)).bd fun xs => forM (fun (s4 : ((List (List Int)) × (List (SR.T3 Int (Dct Int) (List Int))) × (List Int))) (x5 : (Int × (Dct Int))) => (bindM (M4 m_cleared (some x_prime) (some x5.2) (lcM (fun x6 : Int => (some true)) (fun x6 : Int => (M1 intB (M2 eqI (some x6) (some x5.1)))) (M1 (rangeM 0) (M1 lenM (some x_vectors)))) (M1 rdM (some s4.2.1))) fun b7 => (bindM (iteM (M1 dnilM ((some b7.1).bd fun d => some d.kvs)) (bindM (M1 (addL s4.1) (some b7.2)) fun b8 => (some (b8, s4.2.1, s4.2.2))) (bindM (M2 ixM (lcM (fun x12 : Int => (some true)) (fun x12 : Int => (some x12)) (some (mapK b7.1.kvs))) (some (Int.ofNat (nat_lit 0)))) fun b13 => (bindM (M2 m_inverse (some x_prime) (M2 dgetM ((some b7.1).bd fun d => some d.kvs) (some b13))) fun b14 => (bindM (dcM (fun x15 : (Int × Int) => (some true)) (fun x15 : (Int × Int) => (some x15.1)) (fun x15 : (Int × Int) => (M2 modI (M2 mulI (some x15.2) (some b14)) (some x_prime))) (some b7.1.kvs)) fun b16 => (bindM (M1 (addL s4.2.1) (M3 tripM (some b13) (some (Dct.mk b16)) (lcM (fun x17 : Int => (some true)) (fun x17 : Int => (M2 modI (M2 mulI (some x17) (some b14)) (some x_prime))) (some b7.2)))) fun b18 => (bindM (M1 (addL s4.2.2) (some x5.1)) fun b19 => (some (s4.1, b18, b19)))))))) fun b21 => (some (b21.1, b21.2.1, b21.2.2))))) (b2, b1, b3) xs) fun b22 => (M3 tripM (some b22.2.1) (some b22.1) (some b22.2.2))))))
def m_fits  (x_rule : Flt) (x_digits : (SR.LT Int)) : Option Bool := (iteM (FK.orM (FK.notM ((some x_rule).bd fun _ => some true)) (FK.notM (M1 m_Filter_bool (some x_rule)))) none (iteM (FK.notM (M2 m_are_digits ((some x_rule).bd fun r => some r.prime) (some x_digits))) none (bindM (M2 pairM (M1 m_Filter_low (some x_rule)) (M2 subI (M1 ltLen (some x_digits)) ((M1 m_Filter_span (some x_rule)).bd fun x => x))) fun b1 => ((M1 (rangeM 0) (M2 max2I (some (Int.ofNat (nat_lit 0))) (some b1.2))).bd fun xs => (loopM (fun (s2 : Unit) (x3 : Int) => (iteM (M2 gtI (M2 modI (M1 sumM (lcM (fun x8 : (Int × Int) => (some true)) (fun x8 : (Int × Int) => (M2 mulI (some x8.2) (M2 ltIx (some x_digits) (M2 subI (M2 addI (some x3) (some x8.1)) ((some b1.1).bd fun x => x))))) (M1 m_Filter_terms (some x_rule)))) ((some x_rule).bd fun r => some r.prime)) (some (Int.ofNat (nat_lit 0)))) ((some false).bd fun r => some (Out.rt r)) (some (Out.nx ())))) () xs).bd fun o => outM (fun (s4 : Unit) => (some true)) o))))
def m_rules_that_fit  (x_prime : Int) (x_digits : (SR.LT Int)) (x_span : Int) : Option ((Option Flt) × Bool) := (iteM (M2 eqI (some x_span) (some (Int.ofNat (nat_lit 0)))) (M2 pairM (iteM (FK.notM (M1 (fun t => anyI t.xs) (some x_digits))) ((M2 m_Filter_init (some x_prime) (M1 capM (M2 consM (M2 pairM (some (Int.ofNat (nat_lit 0))) (some (Int.ofNat (nat_lit 1)))) (some ([] : List (Int × Int)))))).bd fun x => some (some x)) (some (none : (Option Flt)))) (some true)) (bindM (M2 max2I (some (Int.ofNat (nat_lit 0))) (M2 subI (M1 ltLen (some x_digits)) (some x_span))) fun b1 => (bindM (some ([] : (List (Dct Int)))) fun b2 => (bindM ((M1 (rangeM 0) (M2 addI (some x_span) (some (Int.ofNat (nat_lit 1))))).bd fun xs => forM (fun (s3 : ((List (Dct Int)))) (x4 : Int) => (bindM (M1 (addL s3) ((dcM (fun x5 : Int => (M2 gtI (M2 ltIx (some x_digits) (M2 addI (some x5) (some x4))) (some (Int.ofNat (nat_lit 0))))) (fun x5 : Int => (some x5)) (fun x5 : Int => (M2 ltIx (some x_digits) (M2 addI (some x5) (some x4)))) (M1 (rangeM 0) (some b1))).bd fun kvs => some (Dct.mk kvs))) fun b6 => (some b6))) b2 xs) fun b7 => (bindM (M2 m_spanned (some x_prime) (some b7)) fun b8 => (bindM (lcM (fun x9 : (List Int) => (M2 gtI (M2 ixM (some x9) (some x_span)) (some (Int.ofNat (nat_lit 0))))) (fun x9 : (List Int) => (some x9)) (some b8.b)) fun b10 => (iteM (M2 eqL (some b10) (some ([] : (List (List Int))))) (M2 pairM (some (none : (Option Flt))) (some false)) (bindM (M2 m_inverse (some x_prime) (M2 ixM (M2 ixM (some b10) (some (Int.ofNat (nat_lit 0)))) (some x_span))) fun b11 => (bindM (lcM (fun x12 : Int => (some true)) (fun x12 : Int => (M2 modI (M2 mulI (some b11) (some x12)) (some x_prime))) (M2 ixM (some b10) (some (Int.ofNat (nat_lit 0))))) fun b13 => (bindM (lcM (fun x14 : (List Int) => (M2 eqI (M2 ixM (some x14) (some x_span)) (some (Int.ofNat (nat_lit 0))))) (fun x14 : (List Int) => (some x14)) (some b8.b)) fun b15 => (bindM (lcM (fun x16 : (List Int) => (M2 gtI (M2 ixM (some x16) (some (Int.ofNat (nat_lit 0)))) (some (Int.ofNat (nat_lit 0))))) (fun x16 : (List Int) => (some x16)) (some b15)) fun b17 => (iteM (FK.andM (M2 eqI (M2 ixM (some b13) (some (Int.ofNat (nat_lit 0)))) (some (Int.ofNat (nat_lit 0)))) (M2 eqL (some b17) (some ([] : (List (List Int)))))) (M2 pairM (some (none : (Option Flt))) (some false)) (bindM (iteM (M2 eqI (M2 ixM (some b13) (some (Int.ofNat (nat_lit 0)))) (some (Int.ofNat (nat_lit 0)))) (bindM (lcM (fun x18 : (Int × Int) => (some true)) (fun x18 : (Int × Int) => (M2 modI (M2 addI (some x18.1) (some x18.2)) (some x_prime))) (M2 zipM (some b13) (M2 ixM (some b17) (some (Int.ofNat (nat_lit 0)))))) fun b19 => (some b19)) (some b13)) fun b21 => (bindM (FK.orM (M2 eqL (some b15) (some ([] : (List (List Int))))) (FK.andM (M2 eqI (some x_prime) (some (Int.ofNat (nat_lit 2)))) (FK.andM (M2 eqI (M1 lenM (some b15)) (some (Int.ofNat (nat_lit 1)))) (M2 neqL (some b17) (some ([] : (List (List Int)))))))) fun b22 => (M2 pairM ((M2 m_Filter_init (some x_prime) (lcM (fun x23 : (Int × Int) => (some true)) (fun x23 : (Int × Int) => (M2 pairM (some x23.1) (some x23.2))) (M1 enumM (some b21)))).bd fun x => some (some x)) (some b22))))))))))))))))
def m_guessed  (x_prime : Int) (x_digits : (SR.LT Int)) : Option (Sqn × Bool) := (iteM (FK.notM (M1 m_is_prime (some x_prime))) none (iteM (FK.notM (M2 m_are_digits (some x_prime) (some x_digits))) none (bindM (M2 pairM (some (Int.ofNat (nat_lit 0))) (some (none : (Option Flt)))) fun b1 => (bindM (whileP (M2 isN (some b1.2) (some ())) (bindM (M3 m_rules_that_fit (some x_prime) (some x_digits) (some b1.1)) fun b2 => (bindM (augP b1.1 (some (Int.ofNat (nat_lit 1)))) fun b3 => (some (b2.1, b2.2, b3)))) (fun (s4 : ((Option Flt) × Bool × Int)) => (M2 isN (some s4.1) (some ()))) (fun (s4 : ((Option Flt) × Bool × Int)) => (bindM (M3 m_rules_that_fit (some x_prime) (some x_digits) (some s4.2.2)) fun b5 => (bindM (augP s4.2.2 (some (Int.ofNat (nat_lit 1)))) fun b6 => (some (b5.1, b5.2, b6))))) 64) fun b7 => (M2 pairM (M2 m_Sequence_init ((some b7.1).bd fun x => x) (M3 cutM (M1 ltL (some x_digits)) (some none) (((M1 m_Filter_span ((some b7.1).bd fun x => x)).bd fun x => x).bd fun i => some (some i)))) (some b7.2.1))))))
def m_Sequence_zero (x_prime : Int) : Option Sqn := M2 m_Sequence_init (M2 m_Filter_init (some x_prime) (M1 capM (M2 consM (M2 pairM (some (Int.ofNat (nat_lit 0))) (some (Int.ofNat (nat_lit 1)))) (some ([] : List (Int × Int)))))) (some ([] : List Int))

def m__law_all_rows : Nat → Int → Int → Option (List (List Int))
  | 0, _, _ => none
  | k + 1, x_p, x_many => (iteM (M2 eqI (some x_many) (some (Int.ofNat (nat_lit 0)))) (M1 capM (M2 consM (some ([] : (List Int))) (some ([] : List (List Int))))) (bindM (some ([] : (List (List Int)))) fun b1 => (bindM ((M2 (fun a b => m__law_all_rows k a b) (some x_p) (M2 subI (some x_many) (some (Int.ofNat (nat_lit 1))))).bd fun xs => forM (fun (s2 : ((List (List Int)))) (x3 : (List Int)) => (bindM (M1 (extL s2) (lcM (fun x4 : Int => (some true)) (fun x4 : Int => (M2 catM (some x3) (M1 capM (M2 consM (some x4) (some ([] : List Int)))))) (M1 (rangeM 0) (some x_p)))) fun b5 => (some b5))) b1 xs) fun b6 => (some b6))))
def m__law_fits  (x_p : Int) (x_row : (List Int)) (x_digits : (List Int)) : Option Bool := ((M1 (rangeM 0) (M2 addI (M2 subI (M1 lenM (some x_digits)) (M1 lenM (some x_row))) (some (Int.ofNat (nat_lit 1))))).bd fun xs => (loopM (fun (s1 : Unit) (x2 : Int) => (iteM (M2 neI (M2 modI (M1 sumM (lcM (fun x7 : (Int × Int) => (some true)) (fun x7 : (Int × Int) => (M2 mulI (some x7.2) (M2 ixM (some x_digits) (M2 addI (some x2) (some x7.1))))) (M1 enumM (some x_row)))) (some x_p)) (some (Int.ofNat (nat_lit 0)))) ((some false).bd fun r => some (Out.rt r)) (some (Out.nx ())))) () xs).bd fun o => outM (fun (s3 : Unit) => (some true)) o)
def m__law_rules  (x_p : Int) (x_digits : (List Int)) (x_span : Int) : Option (List (List Int)) := (iteM (M2 eqI (some x_span) (some (Int.ofNat (nat_lit 0)))) (iteM (FK.notM (M1 anyI (some x_digits))) (M1 capM (M2 consM (M1 capM (M2 consM (some (Int.ofNat (nat_lit 1))) (some ([] : List Int)))) (some ([] : List (List Int))))) (some ([] : (List (List Int))))) (bindM (some ([] : (List (List Int)))) fun b1 => (bindM ((M2 rangeM (some (Int.ofNat (nat_lit 1))) (some x_p)).bd fun xs => forM (fun (s2 : ((List (List Int)))) (x3 : Int) => (bindM (M1 (extL s2) (lcM (fun x4 : (List Int) => (some true)) (fun x4 : (List Int) => (M2 catM (M2 catM (M1 capM (M2 consM (some x3) (some ([] : List Int)))) (some x4)) (M1 capM (M2 consM (some (Int.ofNat (nat_lit 1))) (some ([] : List Int)))))) (M2 (m__law_all_rows 8) (some x_p) (M2 subI (some x_span) (some (Int.ofNat (nat_lit 1))))))) fun b5 => (some b5))) b1 xs) fun b6 => (lcM (fun x7 : (List Int) => (M3 m__law_fits (some x_p) (some x7) (some x_digits))) (fun x7 : (List Int) => (some x7)) (some b6)))))
def m__law_shortest  (x_p : Int) (x_digits : (List Int)) : Option (List (List Int)) := ((M1 (rangeM 0) (M2 addI (M1 lenM (some x_digits)) (some (Int.ofNat (nat_lit 1))))).bd fun xs => (loopM (fun (s1 : Unit) (x2 : Int) => (bindM (M3 m__law_rules (some x_p) (some x_digits) (some x2)) fun b4 => (iteM (M2 neqL (some b4) (some ([] : (List (List Int))))) ((some b4).bd fun r => some (Out.rt r)) (some (Out.nx ()))))) () xs).bd fun o => outM (fun (s3 : Unit) => (some ([] : (List (List Int))))) o)
end FS
end
end
section
set_option Elab.async false
set_option linter.all false
set_option maxRecDepth 100000
set_option maxHeartbeats 4000000
namespace FS
theorem e_m_is_integer : m_is_integer = W82.m_is_integer := by
  funext a0
  unfold m_is_integer W82.m_is_integer
  simp -implicitDefEqProofs only [FK.e_bd, FK.e_bindM, FK.e_M1, FK.e_M2, FK.e_M3, FK.e_M4, FK.e_andM, FK.e_orM, FK.e_notM, FK.e_iteM, FK.e_forM, FK.e_whileM, FK.e_whileP, FK.e_loopM, FK.e_outM, FK.e_lcM, FK.e_addI, FK.e_subI, FK.e_mulI, FK.e_modI, FK.e_divI, FK.e_ltI, FK.e_leI, FK.e_gtI, FK.e_geI, FK.e_eqI, FK.e_neI, FK.e_neB, FK.e_absI, FK.e_intI, FK.e_intB, FK.e_augP, FK.e_max2I, FK.e_chM, FK.e_neL, FK.e_lenM, FK.e_consM, FK.e_capM, FK.e_appM, FK.e_catM, FK.e_addL, FK.e_extL, FK.e_ixM, FK.e_pairM, FK.e_tripM, FK.e_enumM, FK.e_zipM, FK.e_rangeM, FK.e_downM, FK.e_cutM, FK.e_sumM, FK.e_minL, FK.e_maxL, FK.e_sortM, FK.e_allM, FK.e_anyI, FK.e_memI, FK.e_mapK, FK.e_keysM, FK.e_dgetM, FK.e_dgetD, FK.e_dninM, FK.e_dnilM, FK.e_putM, FK.e_mergeM, FK.e_dcM, FK.e_ltM, FK.e_ltLen, FK.e_ltIx, FK.e_ltL, FK.e_isN, FK.e_rdM, FK.e_eqL, FK.e_neqL, FK.e_eqPB, FK.e_nePB] <;> rfl
theorem e_m_is_list {α : Type} [SR.Rep α] [SR.SeqLike α] : @m_is_list α _ _ = @W82.m_is_list α _ _ := by
  funext x
  rfl
theorem e_m_is_prime : m_is_prime = W82.m_is_prime := by
  funext a0
  unfold m_is_prime W82.m_is_prime
  simp -implicitDefEqProofs only [FK.e_bd, FK.e_bindM, FK.e_M1, FK.e_M2, FK.e_M3, FK.e_M4, FK.e_andM, FK.e_orM, FK.e_notM, FK.e_iteM, FK.e_forM, FK.e_whileM, FK.e_whileP, FK.e_loopM, FK.e_outM, FK.e_lcM, FK.e_addI, FK.e_subI, FK.e_mulI, FK.e_modI, FK.e_divI, FK.e_ltI, FK.e_leI, FK.e_gtI, FK.e_geI, FK.e_eqI, FK.e_neI, FK.e_neB, FK.e_absI, FK.e_intI, FK.e_intB, FK.e_augP, FK.e_max2I, FK.e_chM, FK.e_neL, FK.e_lenM, FK.e_consM, FK.e_capM, FK.e_appM, FK.e_catM, FK.e_addL, FK.e_extL, FK.e_ixM, FK.e_pairM, FK.e_tripM, FK.e_enumM, FK.e_zipM, FK.e_rangeM, FK.e_downM, FK.e_cutM, FK.e_sumM, FK.e_minL, FK.e_maxL, FK.e_sortM, FK.e_allM, FK.e_anyI, FK.e_memI, FK.e_mapK, FK.e_keysM, FK.e_dgetM, FK.e_dgetD, FK.e_dninM, FK.e_dnilM, FK.e_putM, FK.e_mergeM, FK.e_dcM, FK.e_ltM, FK.e_ltLen, FK.e_ltIx, FK.e_ltL, FK.e_isN, FK.e_rdM, FK.e_eqL, FK.e_neqL, FK.e_eqPB, FK.e_nePB, e_m_is_integer, e_m_is_list] <;> rfl
theorem e_m_are_digits : m_are_digits = W82.m_are_digits := by
  funext a0 a1
  unfold m_are_digits W82.m_are_digits
  simp -implicitDefEqProofs only [FK.e_bd, FK.e_bindM, FK.e_M1, FK.e_M2, FK.e_M3, FK.e_M4, FK.e_andM, FK.e_orM, FK.e_notM, FK.e_iteM, FK.e_forM, FK.e_whileM, FK.e_whileP, FK.e_loopM, FK.e_outM, FK.e_lcM, FK.e_addI, FK.e_subI, FK.e_mulI, FK.e_modI, FK.e_divI, FK.e_ltI, FK.e_leI, FK.e_gtI, FK.e_geI, FK.e_eqI, FK.e_neI, FK.e_neB, FK.e_absI, FK.e_intI, FK.e_intB, FK.e_augP, FK.e_max2I, FK.e_chM, FK.e_neL, FK.e_lenM, FK.e_consM, FK.e_capM, FK.e_appM, FK.e_catM, FK.e_addL, FK.e_extL, FK.e_ixM, FK.e_pairM, FK.e_tripM, FK.e_enumM, FK.e_zipM, FK.e_rangeM, FK.e_downM, FK.e_cutM, FK.e_sumM, FK.e_minL, FK.e_maxL, FK.e_sortM, FK.e_allM, FK.e_anyI, FK.e_memI, FK.e_mapK, FK.e_keysM, FK.e_dgetM, FK.e_dgetD, FK.e_dninM, FK.e_dnilM, FK.e_putM, FK.e_mergeM, FK.e_dcM, FK.e_ltM, FK.e_ltLen, FK.e_ltIx, FK.e_ltL, FK.e_isN, FK.e_rdM, FK.e_eqL, FK.e_neqL, FK.e_eqPB, FK.e_nePB, e_m_is_integer, e_m_is_list, e_m_is_prime] <;> rfl
theorem e_m_inverse : m_inverse = W82.m_inverse := by
  funext a0 a1
  unfold m_inverse W82.m_inverse
  simp -implicitDefEqProofs only [FK.e_bd, FK.e_bindM, FK.e_M1, FK.e_M2, FK.e_M3, FK.e_M4, FK.e_andM, FK.e_orM, FK.e_notM, FK.e_iteM, FK.e_forM, FK.e_whileM, FK.e_whileP, FK.e_loopM, FK.e_outM, FK.e_lcM, FK.e_addI, FK.e_subI, FK.e_mulI, FK.e_modI, FK.e_divI, FK.e_ltI, FK.e_leI, FK.e_gtI, FK.e_geI, FK.e_eqI, FK.e_neI, FK.e_neB, FK.e_absI, FK.e_intI, FK.e_intB, FK.e_augP, FK.e_max2I, FK.e_chM, FK.e_neL, FK.e_lenM, FK.e_consM, FK.e_capM, FK.e_appM, FK.e_catM, FK.e_addL, FK.e_extL, FK.e_ixM, FK.e_pairM, FK.e_tripM, FK.e_enumM, FK.e_zipM, FK.e_rangeM, FK.e_downM, FK.e_cutM, FK.e_sumM, FK.e_minL, FK.e_maxL, FK.e_sortM, FK.e_allM, FK.e_anyI, FK.e_memI, FK.e_mapK, FK.e_keysM, FK.e_dgetM, FK.e_dgetD, FK.e_dninM, FK.e_dnilM, FK.e_putM, FK.e_mergeM, FK.e_dcM, FK.e_ltM, FK.e_ltLen, FK.e_ltIx, FK.e_ltL, FK.e_isN, FK.e_rdM, FK.e_eqL, FK.e_neqL, FK.e_eqPB, FK.e_nePB, e_m_is_integer, e_m_is_list, e_m_is_prime, e_m_are_digits] <;> rfl
theorem e_m_divided : m_divided = W82.m_divided := by
  funext a0 a1 a2
  unfold m_divided W82.m_divided
  simp -implicitDefEqProofs only [FK.e_bd, FK.e_bindM, FK.e_M1, FK.e_M2, FK.e_M3, FK.e_M4, FK.e_andM, FK.e_orM, FK.e_notM, FK.e_iteM, FK.e_forM, FK.e_whileM, FK.e_whileP, FK.e_loopM, FK.e_outM, FK.e_lcM, FK.e_addI, FK.e_subI, FK.e_mulI, FK.e_modI, FK.e_divI, FK.e_ltI, FK.e_leI, FK.e_gtI, FK.e_geI, FK.e_eqI, FK.e_neI, FK.e_neB, FK.e_absI, FK.e_intI, FK.e_intB, FK.e_augP, FK.e_max2I, FK.e_chM, FK.e_neL, FK.e_lenM, FK.e_consM, FK.e_capM, FK.e_appM, FK.e_catM, FK.e_addL, FK.e_extL, FK.e_ixM, FK.e_pairM, FK.e_tripM, FK.e_enumM, FK.e_zipM, FK.e_rangeM, FK.e_downM, FK.e_cutM, FK.e_sumM, FK.e_minL, FK.e_maxL, FK.e_sortM, FK.e_allM, FK.e_anyI, FK.e_memI, FK.e_mapK, FK.e_keysM, FK.e_dgetM, FK.e_dgetD, FK.e_dninM, FK.e_dnilM, FK.e_putM, FK.e_mergeM, FK.e_dcM, FK.e_ltM, FK.e_ltLen, FK.e_ltIx, FK.e_ltL, FK.e_isN, FK.e_rdM, FK.e_eqL, FK.e_neqL, FK.e_eqPB, FK.e_nePB, e_m_is_integer, e_m_is_list, e_m_is_prime, e_m_are_digits, e_m_inverse] <;> rfl
theorem e_m_product_rest : m_product_rest = W82.m_product_rest := by
  funext a0 a1 a2 a3
  unfold m_product_rest W82.m_product_rest
  simp -implicitDefEqProofs only [FK.e_bd, FK.e_bindM, FK.e_M1, FK.e_M2, FK.e_M3, FK.e_M4, FK.e_andM, FK.e_orM, FK.e_notM, FK.e_iteM, FK.e_forM, FK.e_whileM, FK.e_whileP, FK.e_loopM, FK.e_outM, FK.e_lcM, FK.e_addI, FK.e_subI, FK.e_mulI, FK.e_modI, FK.e_divI, FK.e_ltI, FK.e_leI, FK.e_gtI, FK.e_geI, FK.e_eqI, FK.e_neI, FK.e_neB, FK.e_absI, FK.e_intI, FK.e_intB, FK.e_augP, FK.e_max2I, FK.e_chM, FK.e_neL, FK.e_lenM, FK.e_consM, FK.e_capM, FK.e_appM, FK.e_catM, FK.e_addL, FK.e_extL, FK.e_ixM, FK.e_pairM, FK.e_tripM, FK.e_enumM, FK.e_zipM, FK.e_rangeM, FK.e_downM, FK.e_cutM, FK.e_sumM, FK.e_minL, FK.e_maxL, FK.e_sortM, FK.e_allM, FK.e_anyI, FK.e_memI, FK.e_mapK, FK.e_keysM, FK.e_dgetM, FK.e_dgetD, FK.e_dninM, FK.e_dnilM, FK.e_putM, FK.e_mergeM, FK.e_dcM, FK.e_ltM, FK.e_ltLen, FK.e_ltIx, FK.e_ltL, FK.e_isN, FK.e_rdM, FK.e_eqL, FK.e_neqL, FK.e_eqPB, FK.e_nePB, e_m_is_integer, e_m_is_list, e_m_is_prime, e_m_are_digits, e_m_inverse, e_m_divided] <;> rfl
theorem e_m_shift_rest : m_shift_rest = W82.m_shift_rest := by
  funext a0 a1 a2
  unfold m_shift_rest W82.m_shift_rest
  simp -implicitDefEqProofs only [FK.e_bd, FK.e_bindM, FK.e_M1, FK.e_M2, FK.e_M3, FK.e_M4, FK.e_andM, FK.e_orM, FK.e_notM, FK.e_iteM, FK.e_forM, FK.e_whileM, FK.e_whileP, FK.e_loopM, FK.e_outM, FK.e_lcM, FK.e_addI, FK.e_subI, FK.e_mulI, FK.e_modI, FK.e_divI, FK.e_ltI, FK.e_leI, FK.e_gtI, FK.e_geI, FK.e_eqI, FK.e_neI, FK.e_neB, FK.e_absI, FK.e_intI, FK.e_intB, FK.e_augP, FK.e_max2I, FK.e_chM, FK.e_neL, FK.e_lenM, FK.e_consM, FK.e_capM, FK.e_appM, FK.e_catM, FK.e_addL, FK.e_extL, FK.e_ixM, FK.e_pairM, FK.e_tripM, FK.e_enumM, FK.e_zipM, FK.e_rangeM, FK.e_downM, FK.e_cutM, FK.e_sumM, FK.e_minL, FK.e_maxL, FK.e_sortM, FK.e_allM, FK.e_anyI, FK.e_memI, FK.e_mapK, FK.e_keysM, FK.e_dgetM, FK.e_dgetD, FK.e_dninM, FK.e_dnilM, FK.e_putM, FK.e_mergeM, FK.e_dcM, FK.e_ltM, FK.e_ltLen, FK.e_ltIx, FK.e_ltL, FK.e_isN, FK.e_rdM, FK.e_eqL, FK.e_neqL, FK.e_eqPB, FK.e_nePB, e_m_is_integer, e_m_is_list, e_m_is_prime, e_m_are_digits, e_m_inverse, e_m_divided, e_m_product_rest] <;> rfl
theorem e_m_moved_rest : m_moved_rest = W82.m_moved_rest := by
  funext a0 a1 a2
  unfold m_moved_rest W82.m_moved_rest
  simp -implicitDefEqProofs only [FK.e_bd, FK.e_bindM, FK.e_M1, FK.e_M2, FK.e_M3, FK.e_M4, FK.e_andM, FK.e_orM, FK.e_notM, FK.e_iteM, FK.e_forM, FK.e_whileM, FK.e_whileP, FK.e_loopM, FK.e_outM, FK.e_lcM, FK.e_addI, FK.e_subI, FK.e_mulI, FK.e_modI, FK.e_divI, FK.e_ltI, FK.e_leI, FK.e_gtI, FK.e_geI, FK.e_eqI, FK.e_neI, FK.e_neB, FK.e_absI, FK.e_intI, FK.e_intB, FK.e_augP, FK.e_max2I, FK.e_chM, FK.e_neL, FK.e_lenM, FK.e_consM, FK.e_capM, FK.e_appM, FK.e_catM, FK.e_addL, FK.e_extL, FK.e_ixM, FK.e_pairM, FK.e_tripM, FK.e_enumM, FK.e_zipM, FK.e_rangeM, FK.e_downM, FK.e_cutM, FK.e_sumM, FK.e_minL, FK.e_maxL, FK.e_sortM, FK.e_allM, FK.e_anyI, FK.e_memI, FK.e_mapK, FK.e_keysM, FK.e_dgetM, FK.e_dgetD, FK.e_dninM, FK.e_dnilM, FK.e_putM, FK.e_mergeM, FK.e_dcM, FK.e_ltM, FK.e_ltLen, FK.e_ltIx, FK.e_ltL, FK.e_isN, FK.e_rdM, FK.e_eqL, FK.e_neqL, FK.e_eqPB, FK.e_nePB, e_m_is_integer, e_m_is_list, e_m_is_prime, e_m_are_digits, e_m_inverse, e_m_divided, e_m_product_rest, e_m_shift_rest] <;> rfl
theorem e_m_far_rest : m_far_rest = W82.m_far_rest := by
  funext a0 a1 a2
  unfold m_far_rest W82.m_far_rest
  simp -implicitDefEqProofs only [FK.e_bd, FK.e_bindM, FK.e_M1, FK.e_M2, FK.e_M3, FK.e_M4, FK.e_andM, FK.e_orM, FK.e_notM, FK.e_iteM, FK.e_forM, FK.e_whileM, FK.e_whileP, FK.e_loopM, FK.e_outM, FK.e_lcM, FK.e_addI, FK.e_subI, FK.e_mulI, FK.e_modI, FK.e_divI, FK.e_ltI, FK.e_leI, FK.e_gtI, FK.e_geI, FK.e_eqI, FK.e_neI, FK.e_neB, FK.e_absI, FK.e_intI, FK.e_intB, FK.e_augP, FK.e_max2I, FK.e_chM, FK.e_neL, FK.e_lenM, FK.e_consM, FK.e_capM, FK.e_appM, FK.e_catM, FK.e_addL, FK.e_extL, FK.e_ixM, FK.e_pairM, FK.e_tripM, FK.e_enumM, FK.e_zipM, FK.e_rangeM, FK.e_downM, FK.e_cutM, FK.e_sumM, FK.e_minL, FK.e_maxL, FK.e_sortM, FK.e_allM, FK.e_anyI, FK.e_memI, FK.e_mapK, FK.e_keysM, FK.e_dgetM, FK.e_dgetD, FK.e_dninM, FK.e_dnilM, FK.e_putM, FK.e_mergeM, FK.e_dcM, FK.e_ltM, FK.e_ltLen, FK.e_ltIx, FK.e_ltL, FK.e_isN, FK.e_rdM, FK.e_eqL, FK.e_neqL, FK.e_eqPB, FK.e_nePB, e_m_is_integer, e_m_is_list, e_m_is_prime, e_m_are_digits, e_m_inverse, e_m_divided, e_m_product_rest, e_m_shift_rest, e_m_moved_rest] <;> rfl
theorem e_m_is_term : m_is_term = W82.m_is_term := by
  funext a0
  unfold m_is_term W82.m_is_term
  simp -implicitDefEqProofs only [FK.e_bd, FK.e_bindM, FK.e_M1, FK.e_M2, FK.e_M3, FK.e_M4, FK.e_andM, FK.e_orM, FK.e_notM, FK.e_iteM, FK.e_forM, FK.e_whileM, FK.e_whileP, FK.e_loopM, FK.e_outM, FK.e_lcM, FK.e_addI, FK.e_subI, FK.e_mulI, FK.e_modI, FK.e_divI, FK.e_ltI, FK.e_leI, FK.e_gtI, FK.e_geI, FK.e_eqI, FK.e_neI, FK.e_neB, FK.e_absI, FK.e_intI, FK.e_intB, FK.e_augP, FK.e_max2I, FK.e_chM, FK.e_neL, FK.e_lenM, FK.e_consM, FK.e_capM, FK.e_appM, FK.e_catM, FK.e_addL, FK.e_extL, FK.e_ixM, FK.e_pairM, FK.e_tripM, FK.e_enumM, FK.e_zipM, FK.e_rangeM, FK.e_downM, FK.e_cutM, FK.e_sumM, FK.e_minL, FK.e_maxL, FK.e_sortM, FK.e_allM, FK.e_anyI, FK.e_memI, FK.e_mapK, FK.e_keysM, FK.e_dgetM, FK.e_dgetD, FK.e_dninM, FK.e_dnilM, FK.e_putM, FK.e_mergeM, FK.e_dcM, FK.e_ltM, FK.e_ltLen, FK.e_ltIx, FK.e_ltL, FK.e_isN, FK.e_rdM, FK.e_eqL, FK.e_neqL, FK.e_eqPB, FK.e_nePB, e_m_is_integer, e_m_is_list, e_m_is_prime, e_m_are_digits, e_m_inverse, e_m_divided, e_m_product_rest, e_m_shift_rest, e_m_moved_rest, e_m_far_rest] <;> rfl
theorem e_m_Filter_init : m_Filter_init = W82.m_Filter_init := by
  funext a0 a1
  unfold m_Filter_init W82.m_Filter_init
  simp -implicitDefEqProofs only [FK.e_bd, FK.e_bindM, FK.e_M1, FK.e_M2, FK.e_M3, FK.e_M4, FK.e_andM, FK.e_orM, FK.e_notM, FK.e_iteM, FK.e_forM, FK.e_whileM, FK.e_whileP, FK.e_loopM, FK.e_outM, FK.e_lcM, FK.e_addI, FK.e_subI, FK.e_mulI, FK.e_modI, FK.e_divI, FK.e_ltI, FK.e_leI, FK.e_gtI, FK.e_geI, FK.e_eqI, FK.e_neI, FK.e_neB, FK.e_absI, FK.e_intI, FK.e_intB, FK.e_augP, FK.e_max2I, FK.e_chM, FK.e_neL, FK.e_lenM, FK.e_consM, FK.e_capM, FK.e_appM, FK.e_catM, FK.e_addL, FK.e_extL, FK.e_ixM, FK.e_pairM, FK.e_tripM, FK.e_enumM, FK.e_zipM, FK.e_rangeM, FK.e_downM, FK.e_cutM, FK.e_sumM, FK.e_minL, FK.e_maxL, FK.e_sortM, FK.e_allM, FK.e_anyI, FK.e_memI, FK.e_mapK, FK.e_keysM, FK.e_dgetM, FK.e_dgetD, FK.e_dninM, FK.e_dnilM, FK.e_putM, FK.e_mergeM, FK.e_dcM, FK.e_ltM, FK.e_ltLen, FK.e_ltIx, FK.e_ltL, FK.e_isN, FK.e_rdM, FK.e_eqL, FK.e_neqL, FK.e_eqPB, FK.e_nePB, e_m_is_integer, e_m_is_list, e_m_is_prime, e_m_are_digits, e_m_inverse, e_m_divided, e_m_product_rest, e_m_shift_rest, e_m_moved_rest, e_m_far_rest, e_m_is_term] <;> rfl
theorem e_m_Filter_getitem : m_Filter_getitem = W82.m_Filter_getitem := by
  funext a0 a1
  unfold m_Filter_getitem W82.m_Filter_getitem
  simp -implicitDefEqProofs only [FK.e_bd, FK.e_bindM, FK.e_M1, FK.e_M2, FK.e_M3, FK.e_M4, FK.e_andM, FK.e_orM, FK.e_notM, FK.e_iteM, FK.e_forM, FK.e_whileM, FK.e_whileP, FK.e_loopM, FK.e_outM, FK.e_lcM, FK.e_addI, FK.e_subI, FK.e_mulI, FK.e_modI, FK.e_divI, FK.e_ltI, FK.e_leI, FK.e_gtI, FK.e_geI, FK.e_eqI, FK.e_neI, FK.e_neB, FK.e_absI, FK.e_intI, FK.e_intB, FK.e_augP, FK.e_max2I, FK.e_chM, FK.e_neL, FK.e_lenM, FK.e_consM, FK.e_capM, FK.e_appM, FK.e_catM, FK.e_addL, FK.e_extL, FK.e_ixM, FK.e_pairM, FK.e_tripM, FK.e_enumM, FK.e_zipM, FK.e_rangeM, FK.e_downM, FK.e_cutM, FK.e_sumM, FK.e_minL, FK.e_maxL, FK.e_sortM, FK.e_allM, FK.e_anyI, FK.e_memI, FK.e_mapK, FK.e_keysM, FK.e_dgetM, FK.e_dgetD, FK.e_dninM, FK.e_dnilM, FK.e_putM, FK.e_mergeM, FK.e_dcM, FK.e_ltM, FK.e_ltLen, FK.e_ltIx, FK.e_ltL, FK.e_isN, FK.e_rdM, FK.e_eqL, FK.e_neqL, FK.e_eqPB, FK.e_nePB, e_m_is_integer, e_m_is_list, e_m_is_prime, e_m_are_digits, e_m_inverse, e_m_divided, e_m_product_rest, e_m_shift_rest, e_m_moved_rest, e_m_far_rest, e_m_is_term, e_m_Filter_init] <;> rfl
theorem e_m_Filter_bool : m_Filter_bool = W82.m_Filter_bool := by
  funext a0
  unfold m_Filter_bool W82.m_Filter_bool
  simp -implicitDefEqProofs only [FK.e_bd, FK.e_bindM, FK.e_M1, FK.e_M2, FK.e_M3, FK.e_M4, FK.e_andM, FK.e_orM, FK.e_notM, FK.e_iteM, FK.e_forM, FK.e_whileM, FK.e_whileP, FK.e_loopM, FK.e_outM, FK.e_lcM, FK.e_addI, FK.e_subI, FK.e_mulI, FK.e_modI, FK.e_divI, FK.e_ltI, FK.e_leI, FK.e_gtI, FK.e_geI, FK.e_eqI, FK.e_neI, FK.e_neB, FK.e_absI, FK.e_intI, FK.e_intB, FK.e_augP, FK.e_max2I, FK.e_chM, FK.e_neL, FK.e_lenM, FK.e_consM, FK.e_capM, FK.e_appM, FK.e_catM, FK.e_addL, FK.e_extL, FK.e_ixM, FK.e_pairM, FK.e_tripM, FK.e_enumM, FK.e_zipM, FK.e_rangeM, FK.e_downM, FK.e_cutM, FK.e_sumM, FK.e_minL, FK.e_maxL, FK.e_sortM, FK.e_allM, FK.e_anyI, FK.e_memI, FK.e_mapK, FK.e_keysM, FK.e_dgetM, FK.e_dgetD, FK.e_dninM, FK.e_dnilM, FK.e_putM, FK.e_mergeM, FK.e_dcM, FK.e_ltM, FK.e_ltLen, FK.e_ltIx, FK.e_ltL, FK.e_isN, FK.e_rdM, FK.e_eqL, FK.e_neqL, FK.e_eqPB, FK.e_nePB, e_m_is_integer, e_m_is_list, e_m_is_prime, e_m_are_digits, e_m_inverse, e_m_divided, e_m_product_rest, e_m_shift_rest, e_m_moved_rest, e_m_far_rest, e_m_is_term, e_m_Filter_init, e_m_Filter_getitem] <;> rfl
theorem e_m_Filter_eq : m_Filter_eq = W82.m_Filter_eq := by
  funext a0 a1
  unfold m_Filter_eq W82.m_Filter_eq
  simp -implicitDefEqProofs only [FK.e_bd, FK.e_bindM, FK.e_M1, FK.e_M2, FK.e_M3, FK.e_M4, FK.e_andM, FK.e_orM, FK.e_notM, FK.e_iteM, FK.e_forM, FK.e_whileM, FK.e_whileP, FK.e_loopM, FK.e_outM, FK.e_lcM, FK.e_addI, FK.e_subI, FK.e_mulI, FK.e_modI, FK.e_divI, FK.e_ltI, FK.e_leI, FK.e_gtI, FK.e_geI, FK.e_eqI, FK.e_neI, FK.e_neB, FK.e_absI, FK.e_intI, FK.e_intB, FK.e_augP, FK.e_max2I, FK.e_chM, FK.e_neL, FK.e_lenM, FK.e_consM, FK.e_capM, FK.e_appM, FK.e_catM, FK.e_addL, FK.e_extL, FK.e_ixM, FK.e_pairM, FK.e_tripM, FK.e_enumM, FK.e_zipM, FK.e_rangeM, FK.e_downM, FK.e_cutM, FK.e_sumM, FK.e_minL, FK.e_maxL, FK.e_sortM, FK.e_allM, FK.e_anyI, FK.e_memI, FK.e_mapK, FK.e_keysM, FK.e_dgetM, FK.e_dgetD, FK.e_dninM, FK.e_dnilM, FK.e_putM, FK.e_mergeM, FK.e_dcM, FK.e_ltM, FK.e_ltLen, FK.e_ltIx, FK.e_ltL, FK.e_isN, FK.e_rdM, FK.e_eqL, FK.e_neqL, FK.e_eqPB, FK.e_nePB, e_m_is_integer, e_m_is_list, e_m_is_prime, e_m_are_digits, e_m_inverse, e_m_divided, e_m_product_rest, e_m_shift_rest, e_m_moved_rest, e_m_far_rest, e_m_is_term, e_m_Filter_init, e_m_Filter_getitem, e_m_Filter_bool] <;> rfl
theorem e_m_Filter_terms : m_Filter_terms = W82.m_Filter_terms := by
  funext a0
  unfold m_Filter_terms W82.m_Filter_terms
  simp -implicitDefEqProofs only [FK.e_bd, FK.e_bindM, FK.e_M1, FK.e_M2, FK.e_M3, FK.e_M4, FK.e_andM, FK.e_orM, FK.e_notM, FK.e_iteM, FK.e_forM, FK.e_whileM, FK.e_whileP, FK.e_loopM, FK.e_outM, FK.e_lcM, FK.e_addI, FK.e_subI, FK.e_mulI, FK.e_modI, FK.e_divI, FK.e_ltI, FK.e_leI, FK.e_gtI, FK.e_geI, FK.e_eqI, FK.e_neI, FK.e_neB, FK.e_absI, FK.e_intI, FK.e_intB, FK.e_augP, FK.e_max2I, FK.e_chM, FK.e_neL, FK.e_lenM, FK.e_consM, FK.e_capM, FK.e_appM, FK.e_catM, FK.e_addL, FK.e_extL, FK.e_ixM, FK.e_pairM, FK.e_tripM, FK.e_enumM, FK.e_zipM, FK.e_rangeM, FK.e_downM, FK.e_cutM, FK.e_sumM, FK.e_minL, FK.e_maxL, FK.e_sortM, FK.e_allM, FK.e_anyI, FK.e_memI, FK.e_mapK, FK.e_keysM, FK.e_dgetM, FK.e_dgetD, FK.e_dninM, FK.e_dnilM, FK.e_putM, FK.e_mergeM, FK.e_dcM, FK.e_ltM, FK.e_ltLen, FK.e_ltIx, FK.e_ltL, FK.e_isN, FK.e_rdM, FK.e_eqL, FK.e_neqL, FK.e_eqPB, FK.e_nePB, e_m_is_integer, e_m_is_list, e_m_is_prime, e_m_are_digits, e_m_inverse, e_m_divided, e_m_product_rest, e_m_shift_rest, e_m_moved_rest, e_m_far_rest, e_m_is_term, e_m_Filter_init, e_m_Filter_getitem, e_m_Filter_bool, e_m_Filter_eq] <;> rfl
theorem e_m_Filter_low : m_Filter_low = W82.m_Filter_low := by
  funext a0
  unfold m_Filter_low W82.m_Filter_low
  simp -implicitDefEqProofs only [FK.e_bd, FK.e_bindM, FK.e_M1, FK.e_M2, FK.e_M3, FK.e_M4, FK.e_andM, FK.e_orM, FK.e_notM, FK.e_iteM, FK.e_forM, FK.e_whileM, FK.e_whileP, FK.e_loopM, FK.e_outM, FK.e_lcM, FK.e_addI, FK.e_subI, FK.e_mulI, FK.e_modI, FK.e_divI, FK.e_ltI, FK.e_leI, FK.e_gtI, FK.e_geI, FK.e_eqI, FK.e_neI, FK.e_neB, FK.e_absI, FK.e_intI, FK.e_intB, FK.e_augP, FK.e_max2I, FK.e_chM, FK.e_neL, FK.e_lenM, FK.e_consM, FK.e_capM, FK.e_appM, FK.e_catM, FK.e_addL, FK.e_extL, FK.e_ixM, FK.e_pairM, FK.e_tripM, FK.e_enumM, FK.e_zipM, FK.e_rangeM, FK.e_downM, FK.e_cutM, FK.e_sumM, FK.e_minL, FK.e_maxL, FK.e_sortM, FK.e_allM, FK.e_anyI, FK.e_memI, FK.e_mapK, FK.e_keysM, FK.e_dgetM, FK.e_dgetD, FK.e_dninM, FK.e_dnilM, FK.e_putM, FK.e_mergeM, FK.e_dcM, FK.e_ltM, FK.e_ltLen, FK.e_ltIx, FK.e_ltL, FK.e_isN, FK.e_rdM, FK.e_eqL, FK.e_neqL, FK.e_eqPB, FK.e_nePB, e_m_is_integer, e_m_is_list, e_m_is_prime, e_m_are_digits, e_m_inverse, e_m_divided, e_m_product_rest, e_m_shift_rest, e_m_moved_rest, e_m_far_rest, e_m_is_term, e_m_Filter_init, e_m_Filter_getitem, e_m_Filter_bool, e_m_Filter_eq, e_m_Filter_terms] <;> rfl
theorem e_m_Filter_high : m_Filter_high = W82.m_Filter_high := by
  funext a0
  unfold m_Filter_high W82.m_Filter_high
  simp -implicitDefEqProofs only [FK.e_bd, FK.e_bindM, FK.e_M1, FK.e_M2, FK.e_M3, FK.e_M4, FK.e_andM, FK.e_orM, FK.e_notM, FK.e_iteM, FK.e_forM, FK.e_whileM, FK.e_whileP, FK.e_loopM, FK.e_outM, FK.e_lcM, FK.e_addI, FK.e_subI, FK.e_mulI, FK.e_modI, FK.e_divI, FK.e_ltI, FK.e_leI, FK.e_gtI, FK.e_geI, FK.e_eqI, FK.e_neI, FK.e_neB, FK.e_absI, FK.e_intI, FK.e_intB, FK.e_augP, FK.e_max2I, FK.e_chM, FK.e_neL, FK.e_lenM, FK.e_consM, FK.e_capM, FK.e_appM, FK.e_catM, FK.e_addL, FK.e_extL, FK.e_ixM, FK.e_pairM, FK.e_tripM, FK.e_enumM, FK.e_zipM, FK.e_rangeM, FK.e_downM, FK.e_cutM, FK.e_sumM, FK.e_minL, FK.e_maxL, FK.e_sortM, FK.e_allM, FK.e_anyI, FK.e_memI, FK.e_mapK, FK.e_keysM, FK.e_dgetM, FK.e_dgetD, FK.e_dninM, FK.e_dnilM, FK.e_putM, FK.e_mergeM, FK.e_dcM, FK.e_ltM, FK.e_ltLen, FK.e_ltIx, FK.e_ltL, FK.e_isN, FK.e_rdM, FK.e_eqL, FK.e_neqL, FK.e_eqPB, FK.e_nePB, e_m_is_integer, e_m_is_list, e_m_is_prime, e_m_are_digits, e_m_inverse, e_m_divided, e_m_product_rest, e_m_shift_rest, e_m_moved_rest, e_m_far_rest, e_m_is_term, e_m_Filter_init, e_m_Filter_getitem, e_m_Filter_bool, e_m_Filter_eq, e_m_Filter_terms, e_m_Filter_low] <;> rfl
theorem e_m_Filter_span : m_Filter_span = W82.m_Filter_span := by
  funext a0
  unfold m_Filter_span W82.m_Filter_span
  simp -implicitDefEqProofs only [FK.e_bd, FK.e_bindM, FK.e_M1, FK.e_M2, FK.e_M3, FK.e_M4, FK.e_andM, FK.e_orM, FK.e_notM, FK.e_iteM, FK.e_forM, FK.e_whileM, FK.e_whileP, FK.e_loopM, FK.e_outM, FK.e_lcM, FK.e_addI, FK.e_subI, FK.e_mulI, FK.e_modI, FK.e_divI, FK.e_ltI, FK.e_leI, FK.e_gtI, FK.e_geI, FK.e_eqI, FK.e_neI, FK.e_neB, FK.e_absI, FK.e_intI, FK.e_intB, FK.e_augP, FK.e_max2I, FK.e_chM, FK.e_neL, FK.e_lenM, FK.e_consM, FK.e_capM, FK.e_appM, FK.e_catM, FK.e_addL, FK.e_extL, FK.e_ixM, FK.e_pairM, FK.e_tripM, FK.e_enumM, FK.e_zipM, FK.e_rangeM, FK.e_downM, FK.e_cutM, FK.e_sumM, FK.e_minL, FK.e_maxL, FK.e_sortM, FK.e_allM, FK.e_anyI, FK.e_memI, FK.e_mapK, FK.e_keysM, FK.e_dgetM, FK.e_dgetD, FK.e_dninM, FK.e_dnilM, FK.e_putM, FK.e_mergeM, FK.e_dcM, FK.e_ltM, FK.e_ltLen, FK.e_ltIx, FK.e_ltL, FK.e_isN, FK.e_rdM, FK.e_eqL, FK.e_neqL, FK.e_eqPB, FK.e_nePB, e_m_is_integer, e_m_is_list, e_m_is_prime, e_m_are_digits, e_m_inverse, e_m_divided, e_m_product_rest, e_m_shift_rest, e_m_moved_rest, e_m_far_rest, e_m_is_term, e_m_Filter_init, e_m_Filter_getitem, e_m_Filter_bool, e_m_Filter_eq, e_m_Filter_terms, e_m_Filter_low, e_m_Filter_high] <;> rfl
theorem e_m_Filter_normal : m_Filter_normal = W82.m_Filter_normal := by
  funext a0
  unfold m_Filter_normal W82.m_Filter_normal
  simp -implicitDefEqProofs only [FK.e_bd, FK.e_bindM, FK.e_M1, FK.e_M2, FK.e_M3, FK.e_M4, FK.e_andM, FK.e_orM, FK.e_notM, FK.e_iteM, FK.e_forM, FK.e_whileM, FK.e_whileP, FK.e_loopM, FK.e_outM, FK.e_lcM, FK.e_addI, FK.e_subI, FK.e_mulI, FK.e_modI, FK.e_divI, FK.e_ltI, FK.e_leI, FK.e_gtI, FK.e_geI, FK.e_eqI, FK.e_neI, FK.e_neB, FK.e_absI, FK.e_intI, FK.e_intB, FK.e_augP, FK.e_max2I, FK.e_chM, FK.e_neL, FK.e_lenM, FK.e_consM, FK.e_capM, FK.e_appM, FK.e_catM, FK.e_addL, FK.e_extL, FK.e_ixM, FK.e_pairM, FK.e_tripM, FK.e_enumM, FK.e_zipM, FK.e_rangeM, FK.e_downM, FK.e_cutM, FK.e_sumM, FK.e_minL, FK.e_maxL, FK.e_sortM, FK.e_allM, FK.e_anyI, FK.e_memI, FK.e_mapK, FK.e_keysM, FK.e_dgetM, FK.e_dgetD, FK.e_dninM, FK.e_dnilM, FK.e_putM, FK.e_mergeM, FK.e_dcM, FK.e_ltM, FK.e_ltLen, FK.e_ltIx, FK.e_ltL, FK.e_isN, FK.e_rdM, FK.e_eqL, FK.e_neqL, FK.e_eqPB, FK.e_nePB, e_m_is_integer, e_m_is_list, e_m_is_prime, e_m_are_digits, e_m_inverse, e_m_divided, e_m_product_rest, e_m_shift_rest, e_m_moved_rest, e_m_far_rest, e_m_is_term, e_m_Filter_init, e_m_Filter_getitem, e_m_Filter_bool, e_m_Filter_eq, e_m_Filter_terms, e_m_Filter_low, e_m_Filter_high, e_m_Filter_span] <;> rfl
theorem e_m_check_primes : m_check_primes = W82.m_check_primes := by
  funext a0 a1
  unfold m_check_primes W82.m_check_primes
  simp -implicitDefEqProofs only [FK.e_bd, FK.e_bindM, FK.e_M1, FK.e_M2, FK.e_M3, FK.e_M4, FK.e_andM, FK.e_orM, FK.e_notM, FK.e_iteM, FK.e_forM, FK.e_whileM, FK.e_whileP, FK.e_loopM, FK.e_outM, FK.e_lcM, FK.e_addI, FK.e_subI, FK.e_mulI, FK.e_modI, FK.e_divI, FK.e_ltI, FK.e_leI, FK.e_gtI, FK.e_geI, FK.e_eqI, FK.e_neI, FK.e_neB, FK.e_absI, FK.e_intI, FK.e_intB, FK.e_augP, FK.e_max2I, FK.e_chM, FK.e_neL, FK.e_lenM, FK.e_consM, FK.e_capM, FK.e_appM, FK.e_catM, FK.e_addL, FK.e_extL, FK.e_ixM, FK.e_pairM, FK.e_tripM, FK.e_enumM, FK.e_zipM, FK.e_rangeM, FK.e_downM, FK.e_cutM, FK.e_sumM, FK.e_minL, FK.e_maxL, FK.e_sortM, FK.e_allM, FK.e_anyI, FK.e_memI, FK.e_mapK, FK.e_keysM, FK.e_dgetM, FK.e_dgetD, FK.e_dninM, FK.e_dnilM, FK.e_putM, FK.e_mergeM, FK.e_dcM, FK.e_ltM, FK.e_ltLen, FK.e_ltIx, FK.e_ltL, FK.e_isN, FK.e_rdM, FK.e_eqL, FK.e_neqL, FK.e_eqPB, FK.e_nePB, e_m_is_integer, e_m_is_list, e_m_is_prime, e_m_are_digits, e_m_inverse, e_m_divided, e_m_product_rest, e_m_shift_rest, e_m_moved_rest, e_m_far_rest, e_m_is_term, e_m_Filter_init, e_m_Filter_getitem, e_m_Filter_bool, e_m_Filter_eq, e_m_Filter_terms, e_m_Filter_low, e_m_Filter_high, e_m_Filter_span, e_m_Filter_normal] <;> rfl
theorem e_m_divisor_of : m_divisor_of = W82.m_divisor_of := by
  funext a0
  unfold m_divisor_of W82.m_divisor_of
  simp -implicitDefEqProofs only [FK.e_bd, FK.e_bindM, FK.e_M1, FK.e_M2, FK.e_M3, FK.e_M4, FK.e_andM, FK.e_orM, FK.e_notM, FK.e_iteM, FK.e_forM, FK.e_whileM, FK.e_whileP, FK.e_loopM, FK.e_outM, FK.e_lcM, FK.e_addI, FK.e_subI, FK.e_mulI, FK.e_modI, FK.e_divI, FK.e_ltI, FK.e_leI, FK.e_gtI, FK.e_geI, FK.e_eqI, FK.e_neI, FK.e_neB, FK.e_absI, FK.e_intI, FK.e_intB, FK.e_augP, FK.e_max2I, FK.e_chM, FK.e_neL, FK.e_lenM, FK.e_consM, FK.e_capM, FK.e_appM, FK.e_catM, FK.e_addL, FK.e_extL, FK.e_ixM, FK.e_pairM, FK.e_tripM, FK.e_enumM, FK.e_zipM, FK.e_rangeM, FK.e_downM, FK.e_cutM, FK.e_sumM, FK.e_minL, FK.e_maxL, FK.e_sortM, FK.e_allM, FK.e_anyI, FK.e_memI, FK.e_mapK, FK.e_keysM, FK.e_dgetM, FK.e_dgetD, FK.e_dninM, FK.e_dnilM, FK.e_putM, FK.e_mergeM, FK.e_dcM, FK.e_ltM, FK.e_ltLen, FK.e_ltIx, FK.e_ltL, FK.e_isN, FK.e_rdM, FK.e_eqL, FK.e_neqL, FK.e_eqPB, FK.e_nePB, e_m_is_integer, e_m_is_list, e_m_is_prime, e_m_are_digits, e_m_inverse, e_m_divided, e_m_product_rest, e_m_shift_rest, e_m_moved_rest, e_m_far_rest, e_m_is_term, e_m_Filter_init, e_m_Filter_getitem, e_m_Filter_bool, e_m_Filter_eq, e_m_Filter_terms, e_m_Filter_low, e_m_Filter_high, e_m_Filter_span, e_m_Filter_normal, e_m_check_primes] <;> rfl
theorem e_m_Filter_mod : m_Filter_mod = W82.m_Filter_mod := by
  funext a0 a1
  unfold m_Filter_mod W82.m_Filter_mod
  simp -implicitDefEqProofs only [FK.e_bd, FK.e_bindM, FK.e_M1, FK.e_M2, FK.e_M3, FK.e_M4, FK.e_andM, FK.e_orM, FK.e_notM, FK.e_iteM, FK.e_forM, FK.e_whileM, FK.e_whileP, FK.e_loopM, FK.e_outM, FK.e_lcM, FK.e_addI, FK.e_subI, FK.e_mulI, FK.e_modI, FK.e_divI, FK.e_ltI, FK.e_leI, FK.e_gtI, FK.e_geI, FK.e_eqI, FK.e_neI, FK.e_neB, FK.e_absI, FK.e_intI, FK.e_intB, FK.e_augP, FK.e_max2I, FK.e_chM, FK.e_neL, FK.e_lenM, FK.e_consM, FK.e_capM, FK.e_appM, FK.e_catM, FK.e_addL, FK.e_extL, FK.e_ixM, FK.e_pairM, FK.e_tripM, FK.e_enumM, FK.e_zipM, FK.e_rangeM, FK.e_downM, FK.e_cutM, FK.e_sumM, FK.e_minL, FK.e_maxL, FK.e_sortM, FK.e_allM, FK.e_anyI, FK.e_memI, FK.e_mapK, FK.e_keysM, FK.e_dgetM, FK.e_dgetD, FK.e_dninM, FK.e_dnilM, FK.e_putM, FK.e_mergeM, FK.e_dcM, FK.e_ltM, FK.e_ltLen, FK.e_ltIx, FK.e_ltL, FK.e_isN, FK.e_rdM, FK.e_eqL, FK.e_neqL, FK.e_eqPB, FK.e_nePB, e_m_is_integer, e_m_is_list, e_m_is_prime, e_m_are_digits, e_m_inverse, e_m_divided, e_m_product_rest, e_m_shift_rest, e_m_moved_rest, e_m_far_rest, e_m_is_term, e_m_Filter_init, e_m_Filter_getitem, e_m_Filter_bool, e_m_Filter_eq, e_m_Filter_terms, e_m_Filter_low, e_m_Filter_high, e_m_Filter_span, e_m_Filter_normal, e_m_check_primes, e_m_divisor_of] <;> rfl
theorem e_m_Filter_floordiv : m_Filter_floordiv = W82.m_Filter_floordiv := by
  funext a0 a1
  unfold m_Filter_floordiv W82.m_Filter_floordiv
  simp -implicitDefEqProofs only [FK.e_bd, FK.e_bindM, FK.e_M1, FK.e_M2, FK.e_M3, FK.e_M4, FK.e_andM, FK.e_orM, FK.e_notM, FK.e_iteM, FK.e_forM, FK.e_whileM, FK.e_whileP, FK.e_loopM, FK.e_outM, FK.e_lcM, FK.e_addI, FK.e_subI, FK.e_mulI, FK.e_modI, FK.e_divI, FK.e_ltI, FK.e_leI, FK.e_gtI, FK.e_geI, FK.e_eqI, FK.e_neI, FK.e_neB, FK.e_absI, FK.e_intI, FK.e_intB, FK.e_augP, FK.e_max2I, FK.e_chM, FK.e_neL, FK.e_lenM, FK.e_consM, FK.e_capM, FK.e_appM, FK.e_catM, FK.e_addL, FK.e_extL, FK.e_ixM, FK.e_pairM, FK.e_tripM, FK.e_enumM, FK.e_zipM, FK.e_rangeM, FK.e_downM, FK.e_cutM, FK.e_sumM, FK.e_minL, FK.e_maxL, FK.e_sortM, FK.e_allM, FK.e_anyI, FK.e_memI, FK.e_mapK, FK.e_keysM, FK.e_dgetM, FK.e_dgetD, FK.e_dninM, FK.e_dnilM, FK.e_putM, FK.e_mergeM, FK.e_dcM, FK.e_ltM, FK.e_ltLen, FK.e_ltIx, FK.e_ltL, FK.e_isN, FK.e_rdM, FK.e_eqL, FK.e_neqL, FK.e_eqPB, FK.e_nePB, e_m_is_integer, e_m_is_list, e_m_is_prime, e_m_are_digits, e_m_inverse, e_m_divided, e_m_product_rest, e_m_shift_rest, e_m_moved_rest, e_m_far_rest, e_m_is_term, e_m_Filter_init, e_m_Filter_getitem, e_m_Filter_bool, e_m_Filter_eq, e_m_Filter_terms, e_m_Filter_low, e_m_Filter_high, e_m_Filter_span, e_m_Filter_normal, e_m_check_primes, e_m_divisor_of, e_m_Filter_mod] <;> rfl
theorem e_m_gcd : m_gcd = W82.m_gcd := by
  funext a0 a1
  unfold m_gcd W82.m_gcd
  simp -implicitDefEqProofs only [FK.e_bd, FK.e_bindM, FK.e_M1, FK.e_M2, FK.e_M3, FK.e_M4, FK.e_andM, FK.e_orM, FK.e_notM, FK.e_iteM, FK.e_forM, FK.e_whileM, FK.e_whileP, FK.e_loopM, FK.e_outM, FK.e_lcM, FK.e_addI, FK.e_subI, FK.e_mulI, FK.e_modI, FK.e_divI, FK.e_ltI, FK.e_leI, FK.e_gtI, FK.e_geI, FK.e_eqI, FK.e_neI, FK.e_neB, FK.e_absI, FK.e_intI, FK.e_intB, FK.e_augP, FK.e_max2I, FK.e_chM, FK.e_neL, FK.e_lenM, FK.e_consM, FK.e_capM, FK.e_appM, FK.e_catM, FK.e_addL, FK.e_extL, FK.e_ixM, FK.e_pairM, FK.e_tripM, FK.e_enumM, FK.e_zipM, FK.e_rangeM, FK.e_downM, FK.e_cutM, FK.e_sumM, FK.e_minL, FK.e_maxL, FK.e_sortM, FK.e_allM, FK.e_anyI, FK.e_memI, FK.e_mapK, FK.e_keysM, FK.e_dgetM, FK.e_dgetD, FK.e_dninM, FK.e_dnilM, FK.e_putM, FK.e_mergeM, FK.e_dcM, FK.e_ltM, FK.e_ltLen, FK.e_ltIx, FK.e_ltL, FK.e_isN, FK.e_rdM, FK.e_eqL, FK.e_neqL, FK.e_eqPB, FK.e_nePB, e_m_is_integer, e_m_is_list, e_m_is_prime, e_m_are_digits, e_m_inverse, e_m_divided, e_m_product_rest, e_m_shift_rest, e_m_moved_rest, e_m_far_rest, e_m_is_term, e_m_Filter_init, e_m_Filter_getitem, e_m_Filter_bool, e_m_Filter_eq, e_m_Filter_terms, e_m_Filter_low, e_m_Filter_high, e_m_Filter_span, e_m_Filter_normal, e_m_check_primes, e_m_divisor_of, e_m_Filter_mod, e_m_Filter_floordiv] <;> rfl
theorem e_m_least_rule : m_least_rule = W82.m_least_rule := by
  funext a0 a1
  unfold m_least_rule W82.m_least_rule
  simp -implicitDefEqProofs only [FK.e_bd, FK.e_bindM, FK.e_M1, FK.e_M2, FK.e_M3, FK.e_M4, FK.e_andM, FK.e_orM, FK.e_notM, FK.e_iteM, FK.e_forM, FK.e_whileM, FK.e_whileP, FK.e_loopM, FK.e_outM, FK.e_lcM, FK.e_addI, FK.e_subI, FK.e_mulI, FK.e_modI, FK.e_divI, FK.e_ltI, FK.e_leI, FK.e_gtI, FK.e_geI, FK.e_eqI, FK.e_neI, FK.e_neB, FK.e_absI, FK.e_intI, FK.e_intB, FK.e_augP, FK.e_max2I, FK.e_chM, FK.e_neL, FK.e_lenM, FK.e_consM, FK.e_capM, FK.e_appM, FK.e_catM, FK.e_addL, FK.e_extL, FK.e_ixM, FK.e_pairM, FK.e_tripM, FK.e_enumM, FK.e_zipM, FK.e_rangeM, FK.e_downM, FK.e_cutM, FK.e_sumM, FK.e_minL, FK.e_maxL, FK.e_sortM, FK.e_allM, FK.e_anyI, FK.e_memI, FK.e_mapK, FK.e_keysM, FK.e_dgetM, FK.e_dgetD, FK.e_dninM, FK.e_dnilM, FK.e_putM, FK.e_mergeM, FK.e_dcM, FK.e_ltM, FK.e_ltLen, FK.e_ltIx, FK.e_ltL, FK.e_isN, FK.e_rdM, FK.e_eqL, FK.e_neqL, FK.e_eqPB, FK.e_nePB, e_m_is_integer, e_m_is_list, e_m_is_prime, e_m_are_digits, e_m_inverse, e_m_divided, e_m_product_rest, e_m_shift_rest, e_m_moved_rest, e_m_far_rest, e_m_is_term, e_m_Filter_init, e_m_Filter_getitem, e_m_Filter_bool, e_m_Filter_eq, e_m_Filter_terms, e_m_Filter_low, e_m_Filter_high, e_m_Filter_span, e_m_Filter_normal, e_m_check_primes, e_m_divisor_of, e_m_Filter_mod, e_m_Filter_floordiv, e_m_gcd] <;> rfl
theorem e_m_Sequence_init : m_Sequence_init = W82.m_Sequence_init := by
  funext a0 a1
  unfold m_Sequence_init W82.m_Sequence_init
  simp -implicitDefEqProofs only [FK.e_bd, FK.e_bindM, FK.e_M1, FK.e_M2, FK.e_M3, FK.e_M4, FK.e_andM, FK.e_orM, FK.e_notM, FK.e_iteM, FK.e_forM, FK.e_whileM, FK.e_whileP, FK.e_loopM, FK.e_outM, FK.e_lcM, FK.e_addI, FK.e_subI, FK.e_mulI, FK.e_modI, FK.e_divI, FK.e_ltI, FK.e_leI, FK.e_gtI, FK.e_geI, FK.e_eqI, FK.e_neI, FK.e_neB, FK.e_absI, FK.e_intI, FK.e_intB, FK.e_augP, FK.e_max2I, FK.e_chM, FK.e_neL, FK.e_lenM, FK.e_consM, FK.e_capM, FK.e_appM, FK.e_catM, FK.e_addL, FK.e_extL, FK.e_ixM, FK.e_pairM, FK.e_tripM, FK.e_enumM, FK.e_zipM, FK.e_rangeM, FK.e_downM, FK.e_cutM, FK.e_sumM, FK.e_minL, FK.e_maxL, FK.e_sortM, FK.e_allM, FK.e_anyI, FK.e_memI, FK.e_mapK, FK.e_keysM, FK.e_dgetM, FK.e_dgetD, FK.e_dninM, FK.e_dnilM, FK.e_putM, FK.e_mergeM, FK.e_dcM, FK.e_ltM, FK.e_ltLen, FK.e_ltIx, FK.e_ltL, FK.e_isN, FK.e_rdM, FK.e_eqL, FK.e_neqL, FK.e_eqPB, FK.e_nePB, e_m_is_integer, e_m_is_list, e_m_is_prime, e_m_are_digits, e_m_inverse, e_m_divided, e_m_product_rest, e_m_shift_rest, e_m_moved_rest, e_m_far_rest, e_m_is_term, e_m_Filter_init, e_m_Filter_getitem, e_m_Filter_bool, e_m_Filter_eq, e_m_Filter_terms, e_m_Filter_low, e_m_Filter_high, e_m_Filter_span, e_m_Filter_normal, e_m_check_primes, e_m_divisor_of, e_m_Filter_mod, e_m_Filter_floordiv, e_m_gcd, e_m_least_rule] <;> rfl
theorem e_m_Sequence_led : m_Sequence_led = W82.m_Sequence_led := by
  funext a0 a1
  unfold m_Sequence_led W82.m_Sequence_led
  simp -implicitDefEqProofs only [FK.e_bd, FK.e_bindM, FK.e_M1, FK.e_M2, FK.e_M3, FK.e_M4, FK.e_andM, FK.e_orM, FK.e_notM, FK.e_iteM, FK.e_forM, FK.e_whileM, FK.e_whileP, FK.e_loopM, FK.e_outM, FK.e_lcM, FK.e_addI, FK.e_subI, FK.e_mulI, FK.e_modI, FK.e_divI, FK.e_ltI, FK.e_leI, FK.e_gtI, FK.e_geI, FK.e_eqI, FK.e_neI, FK.e_neB, FK.e_absI, FK.e_intI, FK.e_intB, FK.e_augP, FK.e_max2I, FK.e_chM, FK.e_neL, FK.e_lenM, FK.e_consM, FK.e_capM, FK.e_appM, FK.e_catM, FK.e_addL, FK.e_extL, FK.e_ixM, FK.e_pairM, FK.e_tripM, FK.e_enumM, FK.e_zipM, FK.e_rangeM, FK.e_downM, FK.e_cutM, FK.e_sumM, FK.e_minL, FK.e_maxL, FK.e_sortM, FK.e_allM, FK.e_anyI, FK.e_memI, FK.e_mapK, FK.e_keysM, FK.e_dgetM, FK.e_dgetD, FK.e_dninM, FK.e_dnilM, FK.e_putM, FK.e_mergeM, FK.e_dcM, FK.e_ltM, FK.e_ltLen, FK.e_ltIx, FK.e_ltL, FK.e_isN, FK.e_rdM, FK.e_eqL, FK.e_neqL, FK.e_eqPB, FK.e_nePB, e_m_is_integer, e_m_is_list, e_m_is_prime, e_m_are_digits, e_m_inverse, e_m_divided, e_m_product_rest, e_m_shift_rest, e_m_moved_rest, e_m_far_rest, e_m_is_term, e_m_Filter_init, e_m_Filter_getitem, e_m_Filter_bool, e_m_Filter_eq, e_m_Filter_terms, e_m_Filter_low, e_m_Filter_high, e_m_Filter_span, e_m_Filter_normal, e_m_check_primes, e_m_divisor_of, e_m_Filter_mod, e_m_Filter_floordiv, e_m_gcd, e_m_least_rule, e_m_Sequence_init] <;> rfl
theorem e_m_Sequence_rule : m_Sequence_rule = W82.m_Sequence_rule := by
  funext a0
  unfold m_Sequence_rule W82.m_Sequence_rule
  simp -implicitDefEqProofs only [FK.e_bd, FK.e_bindM, FK.e_M1, FK.e_M2, FK.e_M3, FK.e_M4, FK.e_andM, FK.e_orM, FK.e_notM, FK.e_iteM, FK.e_forM, FK.e_whileM, FK.e_whileP, FK.e_loopM, FK.e_outM, FK.e_lcM, FK.e_addI, FK.e_subI, FK.e_mulI, FK.e_modI, FK.e_divI, FK.e_ltI, FK.e_leI, FK.e_gtI, FK.e_geI, FK.e_eqI, FK.e_neI, FK.e_neB, FK.e_absI, FK.e_intI, FK.e_intB, FK.e_augP, FK.e_max2I, FK.e_chM, FK.e_neL, FK.e_lenM, FK.e_consM, FK.e_capM, FK.e_appM, FK.e_catM, FK.e_addL, FK.e_extL, FK.e_ixM, FK.e_pairM, FK.e_tripM, FK.e_enumM, FK.e_zipM, FK.e_rangeM, FK.e_downM, FK.e_cutM, FK.e_sumM, FK.e_minL, FK.e_maxL, FK.e_sortM, FK.e_allM, FK.e_anyI, FK.e_memI, FK.e_mapK, FK.e_keysM, FK.e_dgetM, FK.e_dgetD, FK.e_dninM, FK.e_dnilM, FK.e_putM, FK.e_mergeM, FK.e_dcM, FK.e_ltM, FK.e_ltLen, FK.e_ltIx, FK.e_ltL, FK.e_isN, FK.e_rdM, FK.e_eqL, FK.e_neqL, FK.e_eqPB, FK.e_nePB, e_m_is_integer, e_m_is_list, e_m_is_prime, e_m_are_digits, e_m_inverse, e_m_divided, e_m_product_rest, e_m_shift_rest, e_m_moved_rest, e_m_far_rest, e_m_is_term, e_m_Filter_init, e_m_Filter_getitem, e_m_Filter_bool, e_m_Filter_eq, e_m_Filter_terms, e_m_Filter_low, e_m_Filter_high, e_m_Filter_span, e_m_Filter_normal, e_m_check_primes, e_m_divisor_of, e_m_Filter_mod, e_m_Filter_floordiv, e_m_gcd, e_m_least_rule, e_m_Sequence_init, e_m_Sequence_led] <;> rfl
theorem e_m_Sequence_eq : m_Sequence_eq = W82.m_Sequence_eq := by
  funext a0 a1
  unfold m_Sequence_eq W82.m_Sequence_eq
  simp -implicitDefEqProofs only [FK.e_bd, FK.e_bindM, FK.e_M1, FK.e_M2, FK.e_M3, FK.e_M4, FK.e_andM, FK.e_orM, FK.e_notM, FK.e_iteM, FK.e_forM, FK.e_whileM, FK.e_whileP, FK.e_loopM, FK.e_outM, FK.e_lcM, FK.e_addI, FK.e_subI, FK.e_mulI, FK.e_modI, FK.e_divI, FK.e_ltI, FK.e_leI, FK.e_gtI, FK.e_geI, FK.e_eqI, FK.e_neI, FK.e_neB, FK.e_absI, FK.e_intI, FK.e_intB, FK.e_augP, FK.e_max2I, FK.e_chM, FK.e_neL, FK.e_lenM, FK.e_consM, FK.e_capM, FK.e_appM, FK.e_catM, FK.e_addL, FK.e_extL, FK.e_ixM, FK.e_pairM, FK.e_tripM, FK.e_enumM, FK.e_zipM, FK.e_rangeM, FK.e_downM, FK.e_cutM, FK.e_sumM, FK.e_minL, FK.e_maxL, FK.e_sortM, FK.e_allM, FK.e_anyI, FK.e_memI, FK.e_mapK, FK.e_keysM, FK.e_dgetM, FK.e_dgetD, FK.e_dninM, FK.e_dnilM, FK.e_putM, FK.e_mergeM, FK.e_dcM, FK.e_ltM, FK.e_ltLen, FK.e_ltIx, FK.e_ltL, FK.e_isN, FK.e_rdM, FK.e_eqL, FK.e_neqL, FK.e_eqPB, FK.e_nePB, e_m_is_integer, e_m_is_list, e_m_is_prime, e_m_are_digits, e_m_inverse, e_m_divided, e_m_product_rest, e_m_shift_rest, e_m_moved_rest, e_m_far_rest, e_m_is_term, e_m_Filter_init, e_m_Filter_getitem, e_m_Filter_bool, e_m_Filter_eq, e_m_Filter_terms, e_m_Filter_low, e_m_Filter_high, e_m_Filter_span, e_m_Filter_normal, e_m_check_primes, e_m_divisor_of, e_m_Filter_mod, e_m_Filter_floordiv, e_m_gcd, e_m_least_rule, e_m_Sequence_init, e_m_Sequence_led, e_m_Sequence_rule] <;> rfl
theorem e_m_Sequence_digits : m_Sequence_digits = W82.m_Sequence_digits := by
  funext a0 a1 a2
  unfold m_Sequence_digits W82.m_Sequence_digits
  simp -implicitDefEqProofs only [FK.e_bd, FK.e_bindM, FK.e_M1, FK.e_M2, FK.e_M3, FK.e_M4, FK.e_andM, FK.e_orM, FK.e_notM, FK.e_iteM, FK.e_forM, FK.e_whileM, FK.e_whileP, FK.e_loopM, FK.e_outM, FK.e_lcM, FK.e_addI, FK.e_subI, FK.e_mulI, FK.e_modI, FK.e_divI, FK.e_ltI, FK.e_leI, FK.e_gtI, FK.e_geI, FK.e_eqI, FK.e_neI, FK.e_neB, FK.e_absI, FK.e_intI, FK.e_intB, FK.e_augP, FK.e_max2I, FK.e_chM, FK.e_neL, FK.e_lenM, FK.e_consM, FK.e_capM, FK.e_appM, FK.e_catM, FK.e_addL, FK.e_extL, FK.e_ixM, FK.e_pairM, FK.e_tripM, FK.e_enumM, FK.e_zipM, FK.e_rangeM, FK.e_downM, FK.e_cutM, FK.e_sumM, FK.e_minL, FK.e_maxL, FK.e_sortM, FK.e_allM, FK.e_anyI, FK.e_memI, FK.e_mapK, FK.e_keysM, FK.e_dgetM, FK.e_dgetD, FK.e_dninM, FK.e_dnilM, FK.e_putM, FK.e_mergeM, FK.e_dcM, FK.e_ltM, FK.e_ltLen, FK.e_ltIx, FK.e_ltL, FK.e_isN, FK.e_rdM, FK.e_eqL, FK.e_neqL, FK.e_eqPB, FK.e_nePB, e_m_is_integer, e_m_is_list, e_m_is_prime, e_m_are_digits, e_m_inverse, e_m_divided, e_m_product_rest, e_m_shift_rest, e_m_moved_rest, e_m_far_rest, e_m_is_term, e_m_Filter_init, e_m_Filter_getitem, e_m_Filter_bool, e_m_Filter_eq, e_m_Filter_terms, e_m_Filter_low, e_m_Filter_high, e_m_Filter_span, e_m_Filter_normal, e_m_check_primes, e_m_divisor_of, e_m_Filter_mod, e_m_Filter_floordiv, e_m_gcd, e_m_least_rule, e_m_Sequence_init, e_m_Sequence_led, e_m_Sequence_rule, e_m_Sequence_eq] <;> rfl
theorem e_m_less : m_less = W82.m_less := by
  funext a0 a1 a2 a3
  unfold m_less W82.m_less
  simp -implicitDefEqProofs only [FK.e_bd, FK.e_bindM, FK.e_M1, FK.e_M2, FK.e_M3, FK.e_M4, FK.e_andM, FK.e_orM, FK.e_notM, FK.e_iteM, FK.e_forM, FK.e_whileM, FK.e_whileP, FK.e_loopM, FK.e_outM, FK.e_lcM, FK.e_addI, FK.e_subI, FK.e_mulI, FK.e_modI, FK.e_divI, FK.e_ltI, FK.e_leI, FK.e_gtI, FK.e_geI, FK.e_eqI, FK.e_neI, FK.e_neB, FK.e_absI, FK.e_intI, FK.e_intB, FK.e_augP, FK.e_max2I, FK.e_chM, FK.e_neL, FK.e_lenM, FK.e_consM, FK.e_capM, FK.e_appM, FK.e_catM, FK.e_addL, FK.e_extL, FK.e_ixM, FK.e_pairM, FK.e_tripM, FK.e_enumM, FK.e_zipM, FK.e_rangeM, FK.e_downM, FK.e_cutM, FK.e_sumM, FK.e_minL, FK.e_maxL, FK.e_sortM, FK.e_allM, FK.e_anyI, FK.e_memI, FK.e_mapK, FK.e_keysM, FK.e_dgetM, FK.e_dgetD, FK.e_dninM, FK.e_dnilM, FK.e_putM, FK.e_mergeM, FK.e_dcM, FK.e_ltM, FK.e_ltLen, FK.e_ltIx, FK.e_ltL, FK.e_isN, FK.e_rdM, FK.e_eqL, FK.e_neqL, FK.e_eqPB, FK.e_nePB, e_m_is_integer, e_m_is_list, e_m_is_prime, e_m_are_digits, e_m_inverse, e_m_divided, e_m_product_rest, e_m_shift_rest, e_m_moved_rest, e_m_far_rest, e_m_is_term, e_m_Filter_init, e_m_Filter_getitem, e_m_Filter_bool, e_m_Filter_eq, e_m_Filter_terms, e_m_Filter_low, e_m_Filter_high, e_m_Filter_span, e_m_Filter_normal, e_m_check_primes, e_m_divisor_of, e_m_Filter_mod, e_m_Filter_floordiv, e_m_gcd, e_m_least_rule, e_m_Sequence_init, e_m_Sequence_led, e_m_Sequence_rule, e_m_Sequence_eq, e_m_Sequence_digits] <;> rfl
theorem e_m_cleared : m_cleared = W82.m_cleared := by
  funext a0 a1 a2 a3
  unfold m_cleared W82.m_cleared
  simp -implicitDefEqProofs only [FK.e_bd, FK.e_bindM, FK.e_M1, FK.e_M2, FK.e_M3, FK.e_M4, FK.e_andM, FK.e_orM, FK.e_notM, FK.e_iteM, FK.e_forM, FK.e_whileM, FK.e_whileP, FK.e_loopM, FK.e_outM, FK.e_lcM, FK.e_addI, FK.e_subI, FK.e_mulI, FK.e_modI, FK.e_divI, FK.e_ltI, FK.e_leI, FK.e_gtI, FK.e_geI, FK.e_eqI, FK.e_neI, FK.e_neB, FK.e_absI, FK.e_intI, FK.e_intB, FK.e_augP, FK.e_max2I, FK.e_chM, FK.e_neL, FK.e_lenM, FK.e_consM, FK.e_capM, FK.e_appM, FK.e_catM, FK.e_addL, FK.e_extL, FK.e_ixM, FK.e_pairM, FK.e_tripM, FK.e_enumM, FK.e_zipM, FK.e_rangeM, FK.e_downM, FK.e_cutM, FK.e_sumM, FK.e_minL, FK.e_maxL, FK.e_sortM, FK.e_allM, FK.e_anyI, FK.e_memI, FK.e_mapK, FK.e_keysM, FK.e_dgetM, FK.e_dgetD, FK.e_dninM, FK.e_dnilM, FK.e_putM, FK.e_mergeM, FK.e_dcM, FK.e_ltM, FK.e_ltLen, FK.e_ltIx, FK.e_ltL, FK.e_isN, FK.e_rdM, FK.e_eqL, FK.e_neqL, FK.e_eqPB, FK.e_nePB, e_m_is_integer, e_m_is_list, e_m_is_prime, e_m_are_digits, e_m_inverse, e_m_divided, e_m_product_rest, e_m_shift_rest, e_m_moved_rest, e_m_far_rest, e_m_is_term, e_m_Filter_init, e_m_Filter_getitem, e_m_Filter_bool, e_m_Filter_eq, e_m_Filter_terms, e_m_Filter_low, e_m_Filter_high, e_m_Filter_span, e_m_Filter_normal, e_m_check_primes, e_m_divisor_of, e_m_Filter_mod, e_m_Filter_floordiv, e_m_gcd, e_m_least_rule, e_m_Sequence_init, e_m_Sequence_led, e_m_Sequence_rule, e_m_Sequence_eq, e_m_Sequence_digits, e_m_less] <;> rfl
theorem e_m_spanned : m_spanned = W82.m_spanned := by
  funext a0 a1
  unfold m_spanned W82.m_spanned
  simp -implicitDefEqProofs only [FK.e_bd, FK.e_bindM, FK.e_M1, FK.e_M2, FK.e_M3, FK.e_M4, FK.e_andM, FK.e_orM, FK.e_notM, FK.e_iteM, FK.e_forM, FK.e_whileM, FK.e_whileP, FK.e_loopM, FK.e_outM, FK.e_lcM, FK.e_addI, FK.e_subI, FK.e_mulI, FK.e_modI, FK.e_divI, FK.e_ltI, FK.e_leI, FK.e_gtI, FK.e_geI, FK.e_eqI, FK.e_neI, FK.e_neB, FK.e_absI, FK.e_intI, FK.e_intB, FK.e_augP, FK.e_max2I, FK.e_chM, FK.e_neL, FK.e_lenM, FK.e_consM, FK.e_capM, FK.e_appM, FK.e_catM, FK.e_addL, FK.e_extL, FK.e_ixM, FK.e_pairM, FK.e_tripM, FK.e_enumM, FK.e_zipM, FK.e_rangeM, FK.e_downM, FK.e_cutM, FK.e_sumM, FK.e_minL, FK.e_maxL, FK.e_sortM, FK.e_allM, FK.e_anyI, FK.e_memI, FK.e_mapK, FK.e_keysM, FK.e_dgetM, FK.e_dgetD, FK.e_dninM, FK.e_dnilM, FK.e_putM, FK.e_mergeM, FK.e_dcM, FK.e_ltM, FK.e_ltLen, FK.e_ltIx, FK.e_ltL, FK.e_isN, FK.e_rdM, FK.e_eqL, FK.e_neqL, FK.e_eqPB, FK.e_nePB, e_m_is_integer, e_m_is_list, e_m_is_prime, e_m_are_digits, e_m_inverse, e_m_divided, e_m_product_rest, e_m_shift_rest, e_m_moved_rest, e_m_far_rest, e_m_is_term, e_m_Filter_init, e_m_Filter_getitem, e_m_Filter_bool, e_m_Filter_eq, e_m_Filter_terms, e_m_Filter_low, e_m_Filter_high, e_m_Filter_span, e_m_Filter_normal, e_m_check_primes, e_m_divisor_of, e_m_Filter_mod, e_m_Filter_floordiv, e_m_gcd, e_m_least_rule, e_m_Sequence_init, e_m_Sequence_led, e_m_Sequence_rule, e_m_Sequence_eq, e_m_Sequence_digits, e_m_less, e_m_cleared] <;> rfl
theorem e_m_fits : m_fits = W82.m_fits := by
  funext a0 a1
  unfold m_fits W82.m_fits
  simp -implicitDefEqProofs only [FK.e_bd, FK.e_bindM, FK.e_M1, FK.e_M2, FK.e_M3, FK.e_M4, FK.e_andM, FK.e_orM, FK.e_notM, FK.e_iteM, FK.e_forM, FK.e_whileM, FK.e_whileP, FK.e_loopM, FK.e_outM, FK.e_lcM, FK.e_addI, FK.e_subI, FK.e_mulI, FK.e_modI, FK.e_divI, FK.e_ltI, FK.e_leI, FK.e_gtI, FK.e_geI, FK.e_eqI, FK.e_neI, FK.e_neB, FK.e_absI, FK.e_intI, FK.e_intB, FK.e_augP, FK.e_max2I, FK.e_chM, FK.e_neL, FK.e_lenM, FK.e_consM, FK.e_capM, FK.e_appM, FK.e_catM, FK.e_addL, FK.e_extL, FK.e_ixM, FK.e_pairM, FK.e_tripM, FK.e_enumM, FK.e_zipM, FK.e_rangeM, FK.e_downM, FK.e_cutM, FK.e_sumM, FK.e_minL, FK.e_maxL, FK.e_sortM, FK.e_allM, FK.e_anyI, FK.e_memI, FK.e_mapK, FK.e_keysM, FK.e_dgetM, FK.e_dgetD, FK.e_dninM, FK.e_dnilM, FK.e_putM, FK.e_mergeM, FK.e_dcM, FK.e_ltM, FK.e_ltLen, FK.e_ltIx, FK.e_ltL, FK.e_isN, FK.e_rdM, FK.e_eqL, FK.e_neqL, FK.e_eqPB, FK.e_nePB, e_m_is_integer, e_m_is_list, e_m_is_prime, e_m_are_digits, e_m_inverse, e_m_divided, e_m_product_rest, e_m_shift_rest, e_m_moved_rest, e_m_far_rest, e_m_is_term, e_m_Filter_init, e_m_Filter_getitem, e_m_Filter_bool, e_m_Filter_eq, e_m_Filter_terms, e_m_Filter_low, e_m_Filter_high, e_m_Filter_span, e_m_Filter_normal, e_m_check_primes, e_m_divisor_of, e_m_Filter_mod, e_m_Filter_floordiv, e_m_gcd, e_m_least_rule, e_m_Sequence_init, e_m_Sequence_led, e_m_Sequence_rule, e_m_Sequence_eq, e_m_Sequence_digits, e_m_less, e_m_cleared, e_m_spanned] <;> rfl
theorem e_m_rules_that_fit : m_rules_that_fit = W82.m_rules_that_fit := by
  funext a0 a1 a2
  unfold m_rules_that_fit W82.m_rules_that_fit
  simp -implicitDefEqProofs only [FK.e_bd, FK.e_bindM, FK.e_M1, FK.e_M2, FK.e_M3, FK.e_M4, FK.e_andM, FK.e_orM, FK.e_notM, FK.e_iteM, FK.e_forM, FK.e_whileM, FK.e_whileP, FK.e_loopM, FK.e_outM, FK.e_lcM, FK.e_addI, FK.e_subI, FK.e_mulI, FK.e_modI, FK.e_divI, FK.e_ltI, FK.e_leI, FK.e_gtI, FK.e_geI, FK.e_eqI, FK.e_neI, FK.e_neB, FK.e_absI, FK.e_intI, FK.e_intB, FK.e_augP, FK.e_max2I, FK.e_chM, FK.e_neL, FK.e_lenM, FK.e_consM, FK.e_capM, FK.e_appM, FK.e_catM, FK.e_addL, FK.e_extL, FK.e_ixM, FK.e_pairM, FK.e_tripM, FK.e_enumM, FK.e_zipM, FK.e_rangeM, FK.e_downM, FK.e_cutM, FK.e_sumM, FK.e_minL, FK.e_maxL, FK.e_sortM, FK.e_allM, FK.e_anyI, FK.e_memI, FK.e_mapK, FK.e_keysM, FK.e_dgetM, FK.e_dgetD, FK.e_dninM, FK.e_dnilM, FK.e_putM, FK.e_mergeM, FK.e_dcM, FK.e_ltM, FK.e_ltLen, FK.e_ltIx, FK.e_ltL, FK.e_isN, FK.e_rdM, FK.e_eqL, FK.e_neqL, FK.e_eqPB, FK.e_nePB, e_m_is_integer, e_m_is_list, e_m_is_prime, e_m_are_digits, e_m_inverse, e_m_divided, e_m_product_rest, e_m_shift_rest, e_m_moved_rest, e_m_far_rest, e_m_is_term, e_m_Filter_init, e_m_Filter_getitem, e_m_Filter_bool, e_m_Filter_eq, e_m_Filter_terms, e_m_Filter_low, e_m_Filter_high, e_m_Filter_span, e_m_Filter_normal, e_m_check_primes, e_m_divisor_of, e_m_Filter_mod, e_m_Filter_floordiv, e_m_gcd, e_m_least_rule, e_m_Sequence_init, e_m_Sequence_led, e_m_Sequence_rule, e_m_Sequence_eq, e_m_Sequence_digits, e_m_less, e_m_cleared, e_m_spanned, e_m_fits] <;> rfl
theorem e_m_guessed : m_guessed = W82.m_guessed := by
  funext a0 a1
  unfold m_guessed W82.m_guessed
  simp -implicitDefEqProofs only [FK.e_bd, FK.e_bindM, FK.e_M1, FK.e_M2, FK.e_M3, FK.e_M4, FK.e_andM, FK.e_orM, FK.e_notM, FK.e_iteM, FK.e_forM, FK.e_whileM, FK.e_whileP, FK.e_loopM, FK.e_outM, FK.e_lcM, FK.e_addI, FK.e_subI, FK.e_mulI, FK.e_modI, FK.e_divI, FK.e_ltI, FK.e_leI, FK.e_gtI, FK.e_geI, FK.e_eqI, FK.e_neI, FK.e_neB, FK.e_absI, FK.e_intI, FK.e_intB, FK.e_augP, FK.e_max2I, FK.e_chM, FK.e_neL, FK.e_lenM, FK.e_consM, FK.e_capM, FK.e_appM, FK.e_catM, FK.e_addL, FK.e_extL, FK.e_ixM, FK.e_pairM, FK.e_tripM, FK.e_enumM, FK.e_zipM, FK.e_rangeM, FK.e_downM, FK.e_cutM, FK.e_sumM, FK.e_minL, FK.e_maxL, FK.e_sortM, FK.e_allM, FK.e_anyI, FK.e_memI, FK.e_mapK, FK.e_keysM, FK.e_dgetM, FK.e_dgetD, FK.e_dninM, FK.e_dnilM, FK.e_putM, FK.e_mergeM, FK.e_dcM, FK.e_ltM, FK.e_ltLen, FK.e_ltIx, FK.e_ltL, FK.e_isN, FK.e_rdM, FK.e_eqL, FK.e_neqL, FK.e_eqPB, FK.e_nePB, e_m_is_integer, e_m_is_list, e_m_is_prime, e_m_are_digits, e_m_inverse, e_m_divided, e_m_product_rest, e_m_shift_rest, e_m_moved_rest, e_m_far_rest, e_m_is_term, e_m_Filter_init, e_m_Filter_getitem, e_m_Filter_bool, e_m_Filter_eq, e_m_Filter_terms, e_m_Filter_low, e_m_Filter_high, e_m_Filter_span, e_m_Filter_normal, e_m_check_primes, e_m_divisor_of, e_m_Filter_mod, e_m_Filter_floordiv, e_m_gcd, e_m_least_rule, e_m_Sequence_init, e_m_Sequence_led, e_m_Sequence_rule, e_m_Sequence_eq, e_m_Sequence_digits, e_m_less, e_m_cleared, e_m_spanned, e_m_fits, e_m_rules_that_fit] <;> rfl
theorem e_m_Sequence_zero : m_Sequence_zero = W82.m_Sequence_zero := by
  funext a0
  unfold m_Sequence_zero W82.m_Sequence_zero
  simp -implicitDefEqProofs only [FK.e_bd, FK.e_bindM, FK.e_M1, FK.e_M2, FK.e_M3, FK.e_M4, FK.e_andM, FK.e_orM, FK.e_notM, FK.e_iteM, FK.e_forM, FK.e_whileM, FK.e_whileP, FK.e_loopM, FK.e_outM, FK.e_lcM, FK.e_addI, FK.e_subI, FK.e_mulI, FK.e_modI, FK.e_divI, FK.e_ltI, FK.e_leI, FK.e_gtI, FK.e_geI, FK.e_eqI, FK.e_neI, FK.e_neB, FK.e_absI, FK.e_intI, FK.e_intB, FK.e_augP, FK.e_max2I, FK.e_chM, FK.e_neL, FK.e_lenM, FK.e_consM, FK.e_capM, FK.e_appM, FK.e_catM, FK.e_addL, FK.e_extL, FK.e_ixM, FK.e_pairM, FK.e_tripM, FK.e_enumM, FK.e_zipM, FK.e_rangeM, FK.e_downM, FK.e_cutM, FK.e_sumM, FK.e_minL, FK.e_maxL, FK.e_sortM, FK.e_allM, FK.e_anyI, FK.e_memI, FK.e_mapK, FK.e_keysM, FK.e_dgetM, FK.e_dgetD, FK.e_dninM, FK.e_dnilM, FK.e_putM, FK.e_mergeM, FK.e_dcM, FK.e_ltM, FK.e_ltLen, FK.e_ltIx, FK.e_ltL, FK.e_isN, FK.e_rdM, FK.e_eqL, FK.e_neqL, FK.e_eqPB, FK.e_nePB, e_m_is_integer, e_m_is_list, e_m_is_prime, e_m_are_digits, e_m_inverse, e_m_divided, e_m_product_rest, e_m_shift_rest, e_m_moved_rest, e_m_far_rest, e_m_is_term, e_m_Filter_init, e_m_Filter_getitem, e_m_Filter_bool, e_m_Filter_eq, e_m_Filter_terms, e_m_Filter_low, e_m_Filter_high, e_m_Filter_span, e_m_Filter_normal, e_m_check_primes, e_m_divisor_of, e_m_Filter_mod, e_m_Filter_floordiv, e_m_gcd, e_m_least_rule, e_m_Sequence_init, e_m_Sequence_led, e_m_Sequence_rule, e_m_Sequence_eq, e_m_Sequence_digits, e_m_less, e_m_cleared, e_m_spanned, e_m_fits, e_m_rules_that_fit, e_m_guessed] <;> rfl
theorem e_m__law_all_rows : m__law_all_rows = W82.m__law_all_rows := by
  funext k
  induction k with
  | zero => rfl
  | succ k ih =>
    funext a b
    unfold m__law_all_rows W82.m__law_all_rows
    simp -implicitDefEqProofs only [ih, FK.e_bd, FK.e_bindM, FK.e_M1, FK.e_M2, FK.e_M3, FK.e_M4, FK.e_andM, FK.e_orM, FK.e_notM, FK.e_iteM, FK.e_forM, FK.e_whileM, FK.e_whileP, FK.e_loopM, FK.e_outM, FK.e_lcM, FK.e_addI, FK.e_subI, FK.e_mulI, FK.e_modI, FK.e_divI, FK.e_ltI, FK.e_leI, FK.e_gtI, FK.e_geI, FK.e_eqI, FK.e_neI, FK.e_neB, FK.e_absI, FK.e_intI, FK.e_intB, FK.e_augP, FK.e_max2I, FK.e_chM, FK.e_neL, FK.e_lenM, FK.e_consM, FK.e_capM, FK.e_appM, FK.e_catM, FK.e_addL, FK.e_extL, FK.e_ixM, FK.e_pairM, FK.e_tripM, FK.e_enumM, FK.e_zipM, FK.e_rangeM, FK.e_downM, FK.e_cutM, FK.e_sumM, FK.e_minL, FK.e_maxL, FK.e_sortM, FK.e_allM, FK.e_anyI, FK.e_memI, FK.e_mapK, FK.e_keysM, FK.e_dgetM, FK.e_dgetD, FK.e_dninM, FK.e_dnilM, FK.e_putM, FK.e_mergeM, FK.e_dcM, FK.e_ltM, FK.e_ltLen, FK.e_ltIx, FK.e_ltL, FK.e_isN, FK.e_rdM, FK.e_eqL, FK.e_neqL, FK.e_eqPB, FK.e_nePB, e_m_is_integer, e_m_is_list, e_m_is_prime, e_m_are_digits, e_m_inverse, e_m_divided, e_m_product_rest, e_m_shift_rest, e_m_moved_rest, e_m_far_rest, e_m_is_term, e_m_Filter_init, e_m_Filter_getitem, e_m_Filter_bool, e_m_Filter_eq, e_m_Filter_terms, e_m_Filter_low, e_m_Filter_high, e_m_Filter_span, e_m_Filter_normal, e_m_check_primes, e_m_divisor_of, e_m_Filter_mod, e_m_Filter_floordiv, e_m_gcd, e_m_least_rule, e_m_Sequence_init, e_m_Sequence_led, e_m_Sequence_rule, e_m_Sequence_eq, e_m_Sequence_digits, e_m_less, e_m_cleared, e_m_spanned, e_m_fits, e_m_rules_that_fit, e_m_guessed, e_m_Sequence_zero] <;> rfl
theorem e_m__law_fits : m__law_fits = W82.m__law_fits := by
  funext a0 a1 a2
  unfold m__law_fits W82.m__law_fits
  simp -implicitDefEqProofs only [FK.e_bd, FK.e_bindM, FK.e_M1, FK.e_M2, FK.e_M3, FK.e_M4, FK.e_andM, FK.e_orM, FK.e_notM, FK.e_iteM, FK.e_forM, FK.e_whileM, FK.e_whileP, FK.e_loopM, FK.e_outM, FK.e_lcM, FK.e_addI, FK.e_subI, FK.e_mulI, FK.e_modI, FK.e_divI, FK.e_ltI, FK.e_leI, FK.e_gtI, FK.e_geI, FK.e_eqI, FK.e_neI, FK.e_neB, FK.e_absI, FK.e_intI, FK.e_intB, FK.e_augP, FK.e_max2I, FK.e_chM, FK.e_neL, FK.e_lenM, FK.e_consM, FK.e_capM, FK.e_appM, FK.e_catM, FK.e_addL, FK.e_extL, FK.e_ixM, FK.e_pairM, FK.e_tripM, FK.e_enumM, FK.e_zipM, FK.e_rangeM, FK.e_downM, FK.e_cutM, FK.e_sumM, FK.e_minL, FK.e_maxL, FK.e_sortM, FK.e_allM, FK.e_anyI, FK.e_memI, FK.e_mapK, FK.e_keysM, FK.e_dgetM, FK.e_dgetD, FK.e_dninM, FK.e_dnilM, FK.e_putM, FK.e_mergeM, FK.e_dcM, FK.e_ltM, FK.e_ltLen, FK.e_ltIx, FK.e_ltL, FK.e_isN, FK.e_rdM, FK.e_eqL, FK.e_neqL, FK.e_eqPB, FK.e_nePB, e_m_is_integer, e_m_is_list, e_m_is_prime, e_m_are_digits, e_m_inverse, e_m_divided, e_m_product_rest, e_m_shift_rest, e_m_moved_rest, e_m_far_rest, e_m_is_term, e_m_Filter_init, e_m_Filter_getitem, e_m_Filter_bool, e_m_Filter_eq, e_m_Filter_terms, e_m_Filter_low, e_m_Filter_high, e_m_Filter_span, e_m_Filter_normal, e_m_check_primes, e_m_divisor_of, e_m_Filter_mod, e_m_Filter_floordiv, e_m_gcd, e_m_least_rule, e_m_Sequence_init, e_m_Sequence_led, e_m_Sequence_rule, e_m_Sequence_eq, e_m_Sequence_digits, e_m_less, e_m_cleared, e_m_spanned, e_m_fits, e_m_rules_that_fit, e_m_guessed, e_m_Sequence_zero, e_m__law_all_rows] <;> rfl
theorem e_m__law_rules : m__law_rules = W82.m__law_rules := by
  funext a0 a1 a2
  unfold m__law_rules W82.m__law_rules
  simp -implicitDefEqProofs only [FK.e_bd, FK.e_bindM, FK.e_M1, FK.e_M2, FK.e_M3, FK.e_M4, FK.e_andM, FK.e_orM, FK.e_notM, FK.e_iteM, FK.e_forM, FK.e_whileM, FK.e_whileP, FK.e_loopM, FK.e_outM, FK.e_lcM, FK.e_addI, FK.e_subI, FK.e_mulI, FK.e_modI, FK.e_divI, FK.e_ltI, FK.e_leI, FK.e_gtI, FK.e_geI, FK.e_eqI, FK.e_neI, FK.e_neB, FK.e_absI, FK.e_intI, FK.e_intB, FK.e_augP, FK.e_max2I, FK.e_chM, FK.e_neL, FK.e_lenM, FK.e_consM, FK.e_capM, FK.e_appM, FK.e_catM, FK.e_addL, FK.e_extL, FK.e_ixM, FK.e_pairM, FK.e_tripM, FK.e_enumM, FK.e_zipM, FK.e_rangeM, FK.e_downM, FK.e_cutM, FK.e_sumM, FK.e_minL, FK.e_maxL, FK.e_sortM, FK.e_allM, FK.e_anyI, FK.e_memI, FK.e_mapK, FK.e_keysM, FK.e_dgetM, FK.e_dgetD, FK.e_dninM, FK.e_dnilM, FK.e_putM, FK.e_mergeM, FK.e_dcM, FK.e_ltM, FK.e_ltLen, FK.e_ltIx, FK.e_ltL, FK.e_isN, FK.e_rdM, FK.e_eqL, FK.e_neqL, FK.e_eqPB, FK.e_nePB, e_m_is_integer, e_m_is_list, e_m_is_prime, e_m_are_digits, e_m_inverse, e_m_divided, e_m_product_rest, e_m_shift_rest, e_m_moved_rest, e_m_far_rest, e_m_is_term, e_m_Filter_init, e_m_Filter_getitem, e_m_Filter_bool, e_m_Filter_eq, e_m_Filter_terms, e_m_Filter_low, e_m_Filter_high, e_m_Filter_span, e_m_Filter_normal, e_m_check_primes, e_m_divisor_of, e_m_Filter_mod, e_m_Filter_floordiv, e_m_gcd, e_m_least_rule, e_m_Sequence_init, e_m_Sequence_led, e_m_Sequence_rule, e_m_Sequence_eq, e_m_Sequence_digits, e_m_less, e_m_cleared, e_m_spanned, e_m_fits, e_m_rules_that_fit, e_m_guessed, e_m_Sequence_zero, e_m__law_all_rows, e_m__law_fits] <;> rfl
theorem e_m__law_shortest : m__law_shortest = W82.m__law_shortest := by
  funext a0 a1
  unfold m__law_shortest W82.m__law_shortest
  simp -implicitDefEqProofs only [FK.e_bd, FK.e_bindM, FK.e_M1, FK.e_M2, FK.e_M3, FK.e_M4, FK.e_andM, FK.e_orM, FK.e_notM, FK.e_iteM, FK.e_forM, FK.e_whileM, FK.e_whileP, FK.e_loopM, FK.e_outM, FK.e_lcM, FK.e_addI, FK.e_subI, FK.e_mulI, FK.e_modI, FK.e_divI, FK.e_ltI, FK.e_leI, FK.e_gtI, FK.e_geI, FK.e_eqI, FK.e_neI, FK.e_neB, FK.e_absI, FK.e_intI, FK.e_intB, FK.e_augP, FK.e_max2I, FK.e_chM, FK.e_neL, FK.e_lenM, FK.e_consM, FK.e_capM, FK.e_appM, FK.e_catM, FK.e_addL, FK.e_extL, FK.e_ixM, FK.e_pairM, FK.e_tripM, FK.e_enumM, FK.e_zipM, FK.e_rangeM, FK.e_downM, FK.e_cutM, FK.e_sumM, FK.e_minL, FK.e_maxL, FK.e_sortM, FK.e_allM, FK.e_anyI, FK.e_memI, FK.e_mapK, FK.e_keysM, FK.e_dgetM, FK.e_dgetD, FK.e_dninM, FK.e_dnilM, FK.e_putM, FK.e_mergeM, FK.e_dcM, FK.e_ltM, FK.e_ltLen, FK.e_ltIx, FK.e_ltL, FK.e_isN, FK.e_rdM, FK.e_eqL, FK.e_neqL, FK.e_eqPB, FK.e_nePB, e_m_is_integer, e_m_is_list, e_m_is_prime, e_m_are_digits, e_m_inverse, e_m_divided, e_m_product_rest, e_m_shift_rest, e_m_moved_rest, e_m_far_rest, e_m_is_term, e_m_Filter_init, e_m_Filter_getitem, e_m_Filter_bool, e_m_Filter_eq, e_m_Filter_terms, e_m_Filter_low, e_m_Filter_high, e_m_Filter_span, e_m_Filter_normal, e_m_check_primes, e_m_divisor_of, e_m_Filter_mod, e_m_Filter_floordiv, e_m_gcd, e_m_least_rule, e_m_Sequence_init, e_m_Sequence_led, e_m_Sequence_rule, e_m_Sequence_eq, e_m_Sequence_digits, e_m_less, e_m_cleared, e_m_spanned, e_m_fits, e_m_rules_that_fit, e_m_guessed, e_m_Sequence_zero, e_m__law_all_rows, e_m__law_fits, e_m__law_rules] <;> rfl
end FS
end
section
set_option Elab.async false
set_option linter.all false
set_option maxRecDepth 100000
set_option maxHeartbeats 4000000
noncomputable section
namespace FS
open FK
open SR (Dct Out RdL Rep SeqLike Flt Sqn rows)
def eA (told : Sqn × Bool) (due : List (List Int)) : Option Bool := (FK.orM (FK.notM ((some told).bd fun _ => some true)) (FK.orM (M2 neI ((some told).bd fun _ => some (Int.ofNat (nat_lit 2))) (some (Int.ofNat (nat_lit 2)))) (M2 neB ((some told).bd fun x => some x.2) (M2 eqI (M1 lenM (some due)) (some (Int.ofNat (nat_lit 1)))))))
def eB (ds : List Int) (due : List (List Int)) (told : Sqn × Bool) (x : Sqn) (g : Option (Sqn × Bool)) : Option Bool := (FK.orM (M2 neqL (M3 m_Sequence_digits (some x) (some (Int.ofNat (nat_lit 0))) (M1 lenM (some ds))) (some ds)) (FK.orM (M2 neI ((M1 m_Filter_span (M1 m_Sequence_rule (some x))).bd fun x => x) (M2 subI (M1 lenM (M2 ixM (some due) (some (Int.ofNat (nat_lit 0))))) (some (Int.ofNat (nat_lit 1))))) (M2 (nePB m_Sequence_eq) g (some told))))
def eC (ds : List Int) (told : Sqn × Bool) (x : Sqn) : Option Bool := (FK.andM (M2 geI (M1 lenM (some ds)) (M2 mulI (some (Int.ofNat (nat_lit 2))) ((M1 m_Filter_span (M1 m_Sequence_rule (some x))).bd fun x => x))) (FK.notM ((some told).bd fun x => some x.2)))
def gChk (p : Int) (ds : List Int) : Bool := W82.chk1 (m__law_shortest p ds) fun due => W82.chk1 (m_guessed p ⟨ds⟩) fun told => decide (eA told due = some false) && (decide (eB ds due told told.1 (some told) = some false) && decide (eC ds told told.1 = some false))
def mkF (p mv : Int) (row : List Int) : Option Flt := (M2 m_Filter_init (some p) (lcM (fun x10 : (Int × Int) => (some true)) (fun x10 : (Int × Int) => (M2 pairM (M2 addI (some x10.1) (some mv)) (some x10.2))) (M1 enumM (some row))))
def copyM (row : List Int) : Option (List Int) := (lcM (fun x12 : Int => (some true)) (fun x12 : Int => (some x12)) (some row))
def strip1 (b13 : List Int) : Option (List Int) := (whileM (fun (s14 : ((List Int))) => (M2 eqI (M2 ixM (some s14) (some (Int.ofNat (nat_lit 0)))) (some (Int.ofNat (nat_lit 0))))) (fun (s14 : ((List Int))) => (SR.bindM (M3 cutM (some s14) ((some (Int.ofNat (nat_lit 1))).bd fun i => some (some i)) (some none)) fun b15 => (some b15))) 8 b13)
def strip2 (b16 : List Int) : Option (List Int) := (whileM (fun (s17 : ((List Int))) => (M2 eqI (M2 ixM (some s17) ((some (Int.negSucc (nat_lit 0))))) (some (Int.ofNat (nat_lit 0))))) (fun (s17 : ((List Int))) => (SR.bindM (M3 cutM (some s17) (some none) (((some (Int.negSucc (nat_lit 0)))).bd fun i => some (some i))) fun b18 => (some b18))) 8 b16)
def rowChk (p : Nat) (mv : Int) (row : List Int) : Bool := W82.chk1 (mkF p mv row) fun f => W82.chk1 (copyM row) fun c => W82.chk1 (strip1 c) fun c1 => W82.chk1 (strip2 c1) fun s =>
  decide (s ∈ W82.strips p) && (decide (f.prime = p) && decide (f.kept = (W82.flt p s).kept.map fun x => (x.1 + (f.kept.head?.map (·.1)).getD 0, x.2)))
def fitsChk (p : Nat) (s ds : List Int) : Bool := decide (m_fits (W82.flt p s) ⟨ds⟩ = m__law_fits p s ds) && (m__law_fits p s ds).isSome

def seqT (p : Nat) (s : Sqn) (many : Nat) : Bool := W82.chk1 (m_Sequence_digits s (Int.ofNat (nat_lit 0)) (Int.ofNat many)) fun ds => Nat.beq (len ds) many && (ds.all fun d => leB (Int.ofNat (nat_lit 0)) d && ltB d (Int.ofNat p))
def seqF (p top : Nat) (r0 : Int) (mid front : List Int) : Bool := W82.chk1 (m_Filter_init (Int.ofNat p) (W82.ruleOf r0 mid)) fun f => W82.chk1 (m_Sequence_init f front) fun s => (List.range top).all (seqT p s)
theorem c_eA : eA = W82.eA := by
  funext a0 a1
  unfold eA W82.eA
  simp -implicitDefEqProofs only [FK.e_bd, FK.e_bindM, FK.e_M1, FK.e_M2, FK.e_M3, FK.e_M4, FK.e_andM, FK.e_orM, FK.e_notM, FK.e_iteM, FK.e_forM, FK.e_whileM, FK.e_whileP, FK.e_loopM, FK.e_outM, FK.e_lcM, FK.e_addI, FK.e_subI, FK.e_mulI, FK.e_modI, FK.e_divI, FK.e_ltI, FK.e_leI, FK.e_gtI, FK.e_geI, FK.e_eqI, FK.e_neI, FK.e_neB, FK.e_absI, FK.e_intI, FK.e_intB, FK.e_augP, FK.e_max2I, FK.e_chM, FK.e_neL, FK.e_lenM, FK.e_consM, FK.e_capM, FK.e_appM, FK.e_catM, FK.e_addL, FK.e_extL, FK.e_ixM, FK.e_pairM, FK.e_tripM, FK.e_enumM, FK.e_zipM, FK.e_rangeM, FK.e_downM, FK.e_cutM, FK.e_sumM, FK.e_minL, FK.e_maxL, FK.e_sortM, FK.e_allM, FK.e_anyI, FK.e_memI, FK.e_mapK, FK.e_keysM, FK.e_dgetM, FK.e_dgetD, FK.e_dninM, FK.e_dnilM, FK.e_putM, FK.e_mergeM, FK.e_dcM, FK.e_ltM, FK.e_ltLen, FK.e_ltIx, FK.e_ltL, FK.e_isN, FK.e_rdM, FK.e_eqL, FK.e_neqL, FK.e_eqPB, FK.e_nePB, e_m_is_integer, e_m_is_list, e_m_is_prime, e_m_are_digits, e_m_inverse, e_m_divided, e_m_product_rest, e_m_shift_rest, e_m_moved_rest, e_m_far_rest, e_m_is_term, e_m_Filter_init, e_m_Filter_getitem, e_m_Filter_bool, e_m_Filter_eq, e_m_Filter_terms, e_m_Filter_low, e_m_Filter_high, e_m_Filter_span, e_m_Filter_normal, e_m_check_primes, e_m_divisor_of, e_m_Filter_mod, e_m_Filter_floordiv, e_m_gcd, e_m_least_rule, e_m_Sequence_init, e_m_Sequence_led, e_m_Sequence_rule, e_m_Sequence_eq, e_m_Sequence_digits, e_m_less, e_m_cleared, e_m_spanned, e_m_fits, e_m_rules_that_fit, e_m_guessed, e_m_Sequence_zero, e_m__law_all_rows, e_m__law_fits, e_m__law_rules, e_m__law_shortest] <;> rfl
theorem c_eB : eB = W82.eB := by
  funext a0 a1 a2 a3 a4
  unfold eB W82.eB
  simp -implicitDefEqProofs only [FK.e_bd, FK.e_bindM, FK.e_M1, FK.e_M2, FK.e_M3, FK.e_M4, FK.e_andM, FK.e_orM, FK.e_notM, FK.e_iteM, FK.e_forM, FK.e_whileM, FK.e_whileP, FK.e_loopM, FK.e_outM, FK.e_lcM, FK.e_addI, FK.e_subI, FK.e_mulI, FK.e_modI, FK.e_divI, FK.e_ltI, FK.e_leI, FK.e_gtI, FK.e_geI, FK.e_eqI, FK.e_neI, FK.e_neB, FK.e_absI, FK.e_intI, FK.e_intB, FK.e_augP, FK.e_max2I, FK.e_chM, FK.e_neL, FK.e_lenM, FK.e_consM, FK.e_capM, FK.e_appM, FK.e_catM, FK.e_addL, FK.e_extL, FK.e_ixM, FK.e_pairM, FK.e_tripM, FK.e_enumM, FK.e_zipM, FK.e_rangeM, FK.e_downM, FK.e_cutM, FK.e_sumM, FK.e_minL, FK.e_maxL, FK.e_sortM, FK.e_allM, FK.e_anyI, FK.e_memI, FK.e_mapK, FK.e_keysM, FK.e_dgetM, FK.e_dgetD, FK.e_dninM, FK.e_dnilM, FK.e_putM, FK.e_mergeM, FK.e_dcM, FK.e_ltM, FK.e_ltLen, FK.e_ltIx, FK.e_ltL, FK.e_isN, FK.e_rdM, FK.e_eqL, FK.e_neqL, FK.e_eqPB, FK.e_nePB, e_m_is_integer, e_m_is_list, e_m_is_prime, e_m_are_digits, e_m_inverse, e_m_divided, e_m_product_rest, e_m_shift_rest, e_m_moved_rest, e_m_far_rest, e_m_is_term, e_m_Filter_init, e_m_Filter_getitem, e_m_Filter_bool, e_m_Filter_eq, e_m_Filter_terms, e_m_Filter_low, e_m_Filter_high, e_m_Filter_span, e_m_Filter_normal, e_m_check_primes, e_m_divisor_of, e_m_Filter_mod, e_m_Filter_floordiv, e_m_gcd, e_m_least_rule, e_m_Sequence_init, e_m_Sequence_led, e_m_Sequence_rule, e_m_Sequence_eq, e_m_Sequence_digits, e_m_less, e_m_cleared, e_m_spanned, e_m_fits, e_m_rules_that_fit, e_m_guessed, e_m_Sequence_zero, e_m__law_all_rows, e_m__law_fits, e_m__law_rules, e_m__law_shortest, c_eA] <;> rfl
theorem c_eC : eC = W82.eC := by
  funext a0 a1 a2
  unfold eC W82.eC
  simp -implicitDefEqProofs only [FK.e_bd, FK.e_bindM, FK.e_M1, FK.e_M2, FK.e_M3, FK.e_M4, FK.e_andM, FK.e_orM, FK.e_notM, FK.e_iteM, FK.e_forM, FK.e_whileM, FK.e_whileP, FK.e_loopM, FK.e_outM, FK.e_lcM, FK.e_addI, FK.e_subI, FK.e_mulI, FK.e_modI, FK.e_divI, FK.e_ltI, FK.e_leI, FK.e_gtI, FK.e_geI, FK.e_eqI, FK.e_neI, FK.e_neB, FK.e_absI, FK.e_intI, FK.e_intB, FK.e_augP, FK.e_max2I, FK.e_chM, FK.e_neL, FK.e_lenM, FK.e_consM, FK.e_capM, FK.e_appM, FK.e_catM, FK.e_addL, FK.e_extL, FK.e_ixM, FK.e_pairM, FK.e_tripM, FK.e_enumM, FK.e_zipM, FK.e_rangeM, FK.e_downM, FK.e_cutM, FK.e_sumM, FK.e_minL, FK.e_maxL, FK.e_sortM, FK.e_allM, FK.e_anyI, FK.e_memI, FK.e_mapK, FK.e_keysM, FK.e_dgetM, FK.e_dgetD, FK.e_dninM, FK.e_dnilM, FK.e_putM, FK.e_mergeM, FK.e_dcM, FK.e_ltM, FK.e_ltLen, FK.e_ltIx, FK.e_ltL, FK.e_isN, FK.e_rdM, FK.e_eqL, FK.e_neqL, FK.e_eqPB, FK.e_nePB, e_m_is_integer, e_m_is_list, e_m_is_prime, e_m_are_digits, e_m_inverse, e_m_divided, e_m_product_rest, e_m_shift_rest, e_m_moved_rest, e_m_far_rest, e_m_is_term, e_m_Filter_init, e_m_Filter_getitem, e_m_Filter_bool, e_m_Filter_eq, e_m_Filter_terms, e_m_Filter_low, e_m_Filter_high, e_m_Filter_span, e_m_Filter_normal, e_m_check_primes, e_m_divisor_of, e_m_Filter_mod, e_m_Filter_floordiv, e_m_gcd, e_m_least_rule, e_m_Sequence_init, e_m_Sequence_led, e_m_Sequence_rule, e_m_Sequence_eq, e_m_Sequence_digits, e_m_less, e_m_cleared, e_m_spanned, e_m_fits, e_m_rules_that_fit, e_m_guessed, e_m_Sequence_zero, e_m__law_all_rows, e_m__law_fits, e_m__law_rules, e_m__law_shortest, c_eA, c_eB] <;> rfl
theorem c_gChk : gChk = W82.gChk := by
  funext a0 a1
  unfold gChk W82.gChk
  simp -implicitDefEqProofs only [FK.e_bd, FK.e_bindM, FK.e_M1, FK.e_M2, FK.e_M3, FK.e_M4, FK.e_andM, FK.e_orM, FK.e_notM, FK.e_iteM, FK.e_forM, FK.e_whileM, FK.e_whileP, FK.e_loopM, FK.e_outM, FK.e_lcM, FK.e_addI, FK.e_subI, FK.e_mulI, FK.e_modI, FK.e_divI, FK.e_ltI, FK.e_leI, FK.e_gtI, FK.e_geI, FK.e_eqI, FK.e_neI, FK.e_neB, FK.e_absI, FK.e_intI, FK.e_intB, FK.e_augP, FK.e_max2I, FK.e_chM, FK.e_neL, FK.e_lenM, FK.e_consM, FK.e_capM, FK.e_appM, FK.e_catM, FK.e_addL, FK.e_extL, FK.e_ixM, FK.e_pairM, FK.e_tripM, FK.e_enumM, FK.e_zipM, FK.e_rangeM, FK.e_downM, FK.e_cutM, FK.e_sumM, FK.e_minL, FK.e_maxL, FK.e_sortM, FK.e_allM, FK.e_anyI, FK.e_memI, FK.e_mapK, FK.e_keysM, FK.e_dgetM, FK.e_dgetD, FK.e_dninM, FK.e_dnilM, FK.e_putM, FK.e_mergeM, FK.e_dcM, FK.e_ltM, FK.e_ltLen, FK.e_ltIx, FK.e_ltL, FK.e_isN, FK.e_rdM, FK.e_eqL, FK.e_neqL, FK.e_eqPB, FK.e_nePB, e_m_is_integer, e_m_is_list, e_m_is_prime, e_m_are_digits, e_m_inverse, e_m_divided, e_m_product_rest, e_m_shift_rest, e_m_moved_rest, e_m_far_rest, e_m_is_term, e_m_Filter_init, e_m_Filter_getitem, e_m_Filter_bool, e_m_Filter_eq, e_m_Filter_terms, e_m_Filter_low, e_m_Filter_high, e_m_Filter_span, e_m_Filter_normal, e_m_check_primes, e_m_divisor_of, e_m_Filter_mod, e_m_Filter_floordiv, e_m_gcd, e_m_least_rule, e_m_Sequence_init, e_m_Sequence_led, e_m_Sequence_rule, e_m_Sequence_eq, e_m_Sequence_digits, e_m_less, e_m_cleared, e_m_spanned, e_m_fits, e_m_rules_that_fit, e_m_guessed, e_m_Sequence_zero, e_m__law_all_rows, e_m__law_fits, e_m__law_rules, e_m__law_shortest, c_eA, c_eB, c_eC] <;> rfl
theorem c_mkF : mkF = W82.mkF := by
  funext a0 a1 a2
  unfold mkF W82.mkF
  simp -implicitDefEqProofs only [FK.e_bd, FK.e_bindM, FK.e_M1, FK.e_M2, FK.e_M3, FK.e_M4, FK.e_andM, FK.e_orM, FK.e_notM, FK.e_iteM, FK.e_forM, FK.e_whileM, FK.e_whileP, FK.e_loopM, FK.e_outM, FK.e_lcM, FK.e_addI, FK.e_subI, FK.e_mulI, FK.e_modI, FK.e_divI, FK.e_ltI, FK.e_leI, FK.e_gtI, FK.e_geI, FK.e_eqI, FK.e_neI, FK.e_neB, FK.e_absI, FK.e_intI, FK.e_intB, FK.e_augP, FK.e_max2I, FK.e_chM, FK.e_neL, FK.e_lenM, FK.e_consM, FK.e_capM, FK.e_appM, FK.e_catM, FK.e_addL, FK.e_extL, FK.e_ixM, FK.e_pairM, FK.e_tripM, FK.e_enumM, FK.e_zipM, FK.e_rangeM, FK.e_downM, FK.e_cutM, FK.e_sumM, FK.e_minL, FK.e_maxL, FK.e_sortM, FK.e_allM, FK.e_anyI, FK.e_memI, FK.e_mapK, FK.e_keysM, FK.e_dgetM, FK.e_dgetD, FK.e_dninM, FK.e_dnilM, FK.e_putM, FK.e_mergeM, FK.e_dcM, FK.e_ltM, FK.e_ltLen, FK.e_ltIx, FK.e_ltL, FK.e_isN, FK.e_rdM, FK.e_eqL, FK.e_neqL, FK.e_eqPB, FK.e_nePB, e_m_is_integer, e_m_is_list, e_m_is_prime, e_m_are_digits, e_m_inverse, e_m_divided, e_m_product_rest, e_m_shift_rest, e_m_moved_rest, e_m_far_rest, e_m_is_term, e_m_Filter_init, e_m_Filter_getitem, e_m_Filter_bool, e_m_Filter_eq, e_m_Filter_terms, e_m_Filter_low, e_m_Filter_high, e_m_Filter_span, e_m_Filter_normal, e_m_check_primes, e_m_divisor_of, e_m_Filter_mod, e_m_Filter_floordiv, e_m_gcd, e_m_least_rule, e_m_Sequence_init, e_m_Sequence_led, e_m_Sequence_rule, e_m_Sequence_eq, e_m_Sequence_digits, e_m_less, e_m_cleared, e_m_spanned, e_m_fits, e_m_rules_that_fit, e_m_guessed, e_m_Sequence_zero, e_m__law_all_rows, e_m__law_fits, e_m__law_rules, e_m__law_shortest, c_eA, c_eB, c_eC, c_gChk] <;> rfl
theorem c_copyM : copyM = W82.copyM := by
  funext a0
  unfold copyM W82.copyM
  simp -implicitDefEqProofs only [FK.e_bd, FK.e_bindM, FK.e_M1, FK.e_M2, FK.e_M3, FK.e_M4, FK.e_andM, FK.e_orM, FK.e_notM, FK.e_iteM, FK.e_forM, FK.e_whileM, FK.e_whileP, FK.e_loopM, FK.e_outM, FK.e_lcM, FK.e_addI, FK.e_subI, FK.e_mulI, FK.e_modI, FK.e_divI, FK.e_ltI, FK.e_leI, FK.e_gtI, FK.e_geI, FK.e_eqI, FK.e_neI, FK.e_neB, FK.e_absI, FK.e_intI, FK.e_intB, FK.e_augP, FK.e_max2I, FK.e_chM, FK.e_neL, FK.e_lenM, FK.e_consM, FK.e_capM, FK.e_appM, FK.e_catM, FK.e_addL, FK.e_extL, FK.e_ixM, FK.e_pairM, FK.e_tripM, FK.e_enumM, FK.e_zipM, FK.e_rangeM, FK.e_downM, FK.e_cutM, FK.e_sumM, FK.e_minL, FK.e_maxL, FK.e_sortM, FK.e_allM, FK.e_anyI, FK.e_memI, FK.e_mapK, FK.e_keysM, FK.e_dgetM, FK.e_dgetD, FK.e_dninM, FK.e_dnilM, FK.e_putM, FK.e_mergeM, FK.e_dcM, FK.e_ltM, FK.e_ltLen, FK.e_ltIx, FK.e_ltL, FK.e_isN, FK.e_rdM, FK.e_eqL, FK.e_neqL, FK.e_eqPB, FK.e_nePB, e_m_is_integer, e_m_is_list, e_m_is_prime, e_m_are_digits, e_m_inverse, e_m_divided, e_m_product_rest, e_m_shift_rest, e_m_moved_rest, e_m_far_rest, e_m_is_term, e_m_Filter_init, e_m_Filter_getitem, e_m_Filter_bool, e_m_Filter_eq, e_m_Filter_terms, e_m_Filter_low, e_m_Filter_high, e_m_Filter_span, e_m_Filter_normal, e_m_check_primes, e_m_divisor_of, e_m_Filter_mod, e_m_Filter_floordiv, e_m_gcd, e_m_least_rule, e_m_Sequence_init, e_m_Sequence_led, e_m_Sequence_rule, e_m_Sequence_eq, e_m_Sequence_digits, e_m_less, e_m_cleared, e_m_spanned, e_m_fits, e_m_rules_that_fit, e_m_guessed, e_m_Sequence_zero, e_m__law_all_rows, e_m__law_fits, e_m__law_rules, e_m__law_shortest, c_eA, c_eB, c_eC, c_gChk, c_mkF] <;> rfl
theorem c_strip1 : strip1 = W82.strip1 := by
  funext a0
  unfold strip1 W82.strip1
  simp -implicitDefEqProofs only [FK.e_bd, FK.e_bindM, FK.e_M1, FK.e_M2, FK.e_M3, FK.e_M4, FK.e_andM, FK.e_orM, FK.e_notM, FK.e_iteM, FK.e_forM, FK.e_whileM, FK.e_whileP, FK.e_loopM, FK.e_outM, FK.e_lcM, FK.e_addI, FK.e_subI, FK.e_mulI, FK.e_modI, FK.e_divI, FK.e_ltI, FK.e_leI, FK.e_gtI, FK.e_geI, FK.e_eqI, FK.e_neI, FK.e_neB, FK.e_absI, FK.e_intI, FK.e_intB, FK.e_augP, FK.e_max2I, FK.e_chM, FK.e_neL, FK.e_lenM, FK.e_consM, FK.e_capM, FK.e_appM, FK.e_catM, FK.e_addL, FK.e_extL, FK.e_ixM, FK.e_pairM, FK.e_tripM, FK.e_enumM, FK.e_zipM, FK.e_rangeM, FK.e_downM, FK.e_cutM, FK.e_sumM, FK.e_minL, FK.e_maxL, FK.e_sortM, FK.e_allM, FK.e_anyI, FK.e_memI, FK.e_mapK, FK.e_keysM, FK.e_dgetM, FK.e_dgetD, FK.e_dninM, FK.e_dnilM, FK.e_putM, FK.e_mergeM, FK.e_dcM, FK.e_ltM, FK.e_ltLen, FK.e_ltIx, FK.e_ltL, FK.e_isN, FK.e_rdM, FK.e_eqL, FK.e_neqL, FK.e_eqPB, FK.e_nePB, e_m_is_integer, e_m_is_list, e_m_is_prime, e_m_are_digits, e_m_inverse, e_m_divided, e_m_product_rest, e_m_shift_rest, e_m_moved_rest, e_m_far_rest, e_m_is_term, e_m_Filter_init, e_m_Filter_getitem, e_m_Filter_bool, e_m_Filter_eq, e_m_Filter_terms, e_m_Filter_low, e_m_Filter_high, e_m_Filter_span, e_m_Filter_normal, e_m_check_primes, e_m_divisor_of, e_m_Filter_mod, e_m_Filter_floordiv, e_m_gcd, e_m_least_rule, e_m_Sequence_init, e_m_Sequence_led, e_m_Sequence_rule, e_m_Sequence_eq, e_m_Sequence_digits, e_m_less, e_m_cleared, e_m_spanned, e_m_fits, e_m_rules_that_fit, e_m_guessed, e_m_Sequence_zero, e_m__law_all_rows, e_m__law_fits, e_m__law_rules, e_m__law_shortest, c_eA, c_eB, c_eC, c_gChk, c_mkF, c_copyM] <;> rfl
theorem c_strip2 : strip2 = W82.strip2 := by
  funext a0
  unfold strip2 W82.strip2
  simp -implicitDefEqProofs only [FK.e_bd, FK.e_bindM, FK.e_M1, FK.e_M2, FK.e_M3, FK.e_M4, FK.e_andM, FK.e_orM, FK.e_notM, FK.e_iteM, FK.e_forM, FK.e_whileM, FK.e_whileP, FK.e_loopM, FK.e_outM, FK.e_lcM, FK.e_addI, FK.e_subI, FK.e_mulI, FK.e_modI, FK.e_divI, FK.e_ltI, FK.e_leI, FK.e_gtI, FK.e_geI, FK.e_eqI, FK.e_neI, FK.e_neB, FK.e_absI, FK.e_intI, FK.e_intB, FK.e_augP, FK.e_max2I, FK.e_chM, FK.e_neL, FK.e_lenM, FK.e_consM, FK.e_capM, FK.e_appM, FK.e_catM, FK.e_addL, FK.e_extL, FK.e_ixM, FK.e_pairM, FK.e_tripM, FK.e_enumM, FK.e_zipM, FK.e_rangeM, FK.e_downM, FK.e_cutM, FK.e_sumM, FK.e_minL, FK.e_maxL, FK.e_sortM, FK.e_allM, FK.e_anyI, FK.e_memI, FK.e_mapK, FK.e_keysM, FK.e_dgetM, FK.e_dgetD, FK.e_dninM, FK.e_dnilM, FK.e_putM, FK.e_mergeM, FK.e_dcM, FK.e_ltM, FK.e_ltLen, FK.e_ltIx, FK.e_ltL, FK.e_isN, FK.e_rdM, FK.e_eqL, FK.e_neqL, FK.e_eqPB, FK.e_nePB, e_m_is_integer, e_m_is_list, e_m_is_prime, e_m_are_digits, e_m_inverse, e_m_divided, e_m_product_rest, e_m_shift_rest, e_m_moved_rest, e_m_far_rest, e_m_is_term, e_m_Filter_init, e_m_Filter_getitem, e_m_Filter_bool, e_m_Filter_eq, e_m_Filter_terms, e_m_Filter_low, e_m_Filter_high, e_m_Filter_span, e_m_Filter_normal, e_m_check_primes, e_m_divisor_of, e_m_Filter_mod, e_m_Filter_floordiv, e_m_gcd, e_m_least_rule, e_m_Sequence_init, e_m_Sequence_led, e_m_Sequence_rule, e_m_Sequence_eq, e_m_Sequence_digits, e_m_less, e_m_cleared, e_m_spanned, e_m_fits, e_m_rules_that_fit, e_m_guessed, e_m_Sequence_zero, e_m__law_all_rows, e_m__law_fits, e_m__law_rules, e_m__law_shortest, c_eA, c_eB, c_eC, c_gChk, c_mkF, c_copyM, c_strip1] <;> rfl
theorem c_rowChk : rowChk = W82.rowChk := by
  funext a0 a1 a2
  unfold rowChk W82.rowChk
  simp -implicitDefEqProofs only [FK.e_bd, FK.e_bindM, FK.e_M1, FK.e_M2, FK.e_M3, FK.e_M4, FK.e_andM, FK.e_orM, FK.e_notM, FK.e_iteM, FK.e_forM, FK.e_whileM, FK.e_whileP, FK.e_loopM, FK.e_outM, FK.e_lcM, FK.e_addI, FK.e_subI, FK.e_mulI, FK.e_modI, FK.e_divI, FK.e_ltI, FK.e_leI, FK.e_gtI, FK.e_geI, FK.e_eqI, FK.e_neI, FK.e_neB, FK.e_absI, FK.e_intI, FK.e_intB, FK.e_augP, FK.e_max2I, FK.e_chM, FK.e_neL, FK.e_lenM, FK.e_consM, FK.e_capM, FK.e_appM, FK.e_catM, FK.e_addL, FK.e_extL, FK.e_ixM, FK.e_pairM, FK.e_tripM, FK.e_enumM, FK.e_zipM, FK.e_rangeM, FK.e_downM, FK.e_cutM, FK.e_sumM, FK.e_minL, FK.e_maxL, FK.e_sortM, FK.e_allM, FK.e_anyI, FK.e_memI, FK.e_mapK, FK.e_keysM, FK.e_dgetM, FK.e_dgetD, FK.e_dninM, FK.e_dnilM, FK.e_putM, FK.e_mergeM, FK.e_dcM, FK.e_ltM, FK.e_ltLen, FK.e_ltIx, FK.e_ltL, FK.e_isN, FK.e_rdM, FK.e_eqL, FK.e_neqL, FK.e_eqPB, FK.e_nePB, e_m_is_integer, e_m_is_list, e_m_is_prime, e_m_are_digits, e_m_inverse, e_m_divided, e_m_product_rest, e_m_shift_rest, e_m_moved_rest, e_m_far_rest, e_m_is_term, e_m_Filter_init, e_m_Filter_getitem, e_m_Filter_bool, e_m_Filter_eq, e_m_Filter_terms, e_m_Filter_low, e_m_Filter_high, e_m_Filter_span, e_m_Filter_normal, e_m_check_primes, e_m_divisor_of, e_m_Filter_mod, e_m_Filter_floordiv, e_m_gcd, e_m_least_rule, e_m_Sequence_init, e_m_Sequence_led, e_m_Sequence_rule, e_m_Sequence_eq, e_m_Sequence_digits, e_m_less, e_m_cleared, e_m_spanned, e_m_fits, e_m_rules_that_fit, e_m_guessed, e_m_Sequence_zero, e_m__law_all_rows, e_m__law_fits, e_m__law_rules, e_m__law_shortest, c_eA, c_eB, c_eC, c_gChk, c_mkF, c_copyM, c_strip1, c_strip2] <;> rfl
theorem c_fitsChk : fitsChk = W82.fitsChk := by
  funext a0 a1 a2
  unfold fitsChk W82.fitsChk
  simp -implicitDefEqProofs only [FK.e_bd, FK.e_bindM, FK.e_M1, FK.e_M2, FK.e_M3, FK.e_M4, FK.e_andM, FK.e_orM, FK.e_notM, FK.e_iteM, FK.e_forM, FK.e_whileM, FK.e_whileP, FK.e_loopM, FK.e_outM, FK.e_lcM, FK.e_addI, FK.e_subI, FK.e_mulI, FK.e_modI, FK.e_divI, FK.e_ltI, FK.e_leI, FK.e_gtI, FK.e_geI, FK.e_eqI, FK.e_neI, FK.e_neB, FK.e_absI, FK.e_intI, FK.e_intB, FK.e_augP, FK.e_max2I, FK.e_chM, FK.e_neL, FK.e_lenM, FK.e_consM, FK.e_capM, FK.e_appM, FK.e_catM, FK.e_addL, FK.e_extL, FK.e_ixM, FK.e_pairM, FK.e_tripM, FK.e_enumM, FK.e_zipM, FK.e_rangeM, FK.e_downM, FK.e_cutM, FK.e_sumM, FK.e_minL, FK.e_maxL, FK.e_sortM, FK.e_allM, FK.e_anyI, FK.e_memI, FK.e_mapK, FK.e_keysM, FK.e_dgetM, FK.e_dgetD, FK.e_dninM, FK.e_dnilM, FK.e_putM, FK.e_mergeM, FK.e_dcM, FK.e_ltM, FK.e_ltLen, FK.e_ltIx, FK.e_ltL, FK.e_isN, FK.e_rdM, FK.e_eqL, FK.e_neqL, FK.e_eqPB, FK.e_nePB, e_m_is_integer, e_m_is_list, e_m_is_prime, e_m_are_digits, e_m_inverse, e_m_divided, e_m_product_rest, e_m_shift_rest, e_m_moved_rest, e_m_far_rest, e_m_is_term, e_m_Filter_init, e_m_Filter_getitem, e_m_Filter_bool, e_m_Filter_eq, e_m_Filter_terms, e_m_Filter_low, e_m_Filter_high, e_m_Filter_span, e_m_Filter_normal, e_m_check_primes, e_m_divisor_of, e_m_Filter_mod, e_m_Filter_floordiv, e_m_gcd, e_m_least_rule, e_m_Sequence_init, e_m_Sequence_led, e_m_Sequence_rule, e_m_Sequence_eq, e_m_Sequence_digits, e_m_less, e_m_cleared, e_m_spanned, e_m_fits, e_m_rules_that_fit, e_m_guessed, e_m_Sequence_zero, e_m__law_all_rows, e_m__law_fits, e_m__law_rules, e_m__law_shortest, c_eA, c_eB, c_eC, c_gChk, c_mkF, c_copyM, c_strip1, c_strip2, c_rowChk] <;> rfl
end FS
end
end
section
set_option Elab.async false
set_option linter.all false
set_option maxRecDepth 10000
set_option maxHeartbeats 4000000
/-! from the quick checks to what the law wants -/
namespace FS
open SR (rows)
open W82 (digs strips moves)
theorem seq_of {p top : Nat} {r0 : Int} {mid front : List Int} (h : seqF p top r0 mid front = true) {many : Nat} (hm : many < top) : W82.seqChk p r0 mid front many = true := by
  obtain ⟨f, e1, h⟩ := W82.chk1_ok h
  obtain ⟨s, e2, h⟩ := W82.chk1_ok h
  obtain ⟨ds, e3, h⟩ := W82.chk1_ok (List.all_eq_true.mp h many (List.mem_range.mpr hm))
  rw [e_m_Filter_init] at e1
  rw [e_m_Sequence_init] at e2
  rw [e_m_Sequence_digits] at e3
  have e1' : W82.m_Filter_init (p : Int) (W82.ruleOf r0 mid) = some f := e1
  have e3' : W82.m_Sequence_digits s 0 many = some ds := e3
  obtain ⟨h1, h2⟩ := Bool.and_eq_true_iff.mp h
  unfold W82.seqChk
  rw [e1']
  show W82.chk1 (W82.m_Sequence_init f front) _ = true
  rw [e2]
  show W82.chk1 (W82.m_Sequence_digits s 0 many) _ = true
  rw [e3']
  show (decide (ds.length = many) && decide (∀ d ∈ ds, 0 ≤ d ∧ d < (p : Int))) = true
  rw [Bool.and_eq_true, decide_eq_true_eq, decide_eq_true_eq]
  refine ⟨?_, fun d hd => ?_⟩
  · rw [← FK.len_eq]
    exact Nat.eq_of_beq_eq_true h1
  · obtain ⟨h3, h4⟩ := Bool.and_eq_true_iff.mp (List.all_eq_true.mp h2 d hd)
    exact ⟨(FK.leB_ok 0 d).mp h3, (FK.ltB_ok d p).mp h4⟩
noncomputable def rowsC (p : Nat) : Bool := (((rows p 1 ++ rows p 2) ++ rows p 3).all fun row => row.all (fun d => decide (d = 0)) || moves.all fun mv => rowChk p mv row)
noncomputable def fitC (p : Nat) : Bool := (strips p).all fun s => (digs p).all (fitsChk p s)
noncomputable def seqC (p top k : Nat) : Bool := (rows p k).all fun mid => (rows p (k + 1)).all fun front => (List.range (p - 1)).all fun (d : Nat) => seqF p top (Int.ofNat (Nat.succ d)) mid front
noncomputable def gC (p : Nat) : Bool := (digs p).all (gChk (Int.ofNat p))
theorem okP {p : Nat} (h23 : p = 2 ∨ p = 3) (hr : rowsC p = true) (hf : fitC p = true) (hs0 : seqC p (10 - p) 0 = true) (hs1 : seqC p (10 - p) 1 = true) (hs2 : seqC p (10 - p) 2 = true) (hg : gC p = true) : W82.OkP p where
  p23 := h23
  row := fun k h1 h3 r hr' => by
    have hm : r ∈ (rows p 1 ++ rows p 2) ++ rows p 3 := by
      have : k = 1 ∨ k = 2 ∨ k = 3 := by omega
      rcases this with rfl | rfl | rfl
      · exact List.mem_append_left _ (List.mem_append_left _ hr')
      · exact List.mem_append_left _ (List.mem_append_right _ hr')
      · exact List.mem_append_right _ hr'
    have h := List.all_eq_true.mp hr r hm
    rw [c_rowChk, Bool.or_eq_true] at h
    exact h.imp id fun h mv hmv => List.all_eq_true.mp h mv hmv
  fit := fun s hs ds hds => by
    have h := List.all_eq_true.mp (List.all_eq_true.mp hf s hs) ds hds
    rw [c_fitsChk] at h
    exact h
  seq := fun k hk d hd mid hmid front hfront many hmany => by
    have hC : seqC p (10 - p) k = true := by
      have : k = 0 ∨ k = 1 ∨ k = 2 := by omega
      rcases this with rfl | rfl | rfl <;> assumption
    have h := List.all_eq_true.mp (List.all_eq_true.mp (List.all_eq_true.mp hC mid hmid) front hfront) d (List.mem_range.mpr hd)
    exact seq_of h hmany
  g := fun ds hds => by
    have h := List.all_eq_true.mp hg ds hds
    rw [c_gChk] at h
    exact h
theorem rows_all {p k : Nat} {f : List Int → Bool} (h : ∀ d : Nat, d < p → (rows p k).all (fun r => f ((d : Int) :: r)) = true) : (rows p (k + 1)).all f = true := by
  rw [List.all_eq_true]
  intro x hx
  unfold rows at hx
  obtain ⟨l, hl, hx⟩ := List.mem_flatten.mp hx
  obtain ⟨d, hd, rfl⟩ := List.mem_map.mp hl
  obtain ⟨r, hr, rfl⟩ := List.mem_map.mp hx
  exact List.all_eq_true.mp (h d (List.mem_range.mp hd)) r hr
noncomputable def gK (p k : Nat) : Bool := (rows p k).all (gChk (Int.ofNat p))
noncomputable def gD (p k : Nat) (a : Int) : Bool := (rows p k).all fun r => gChk (Int.ofNat p) (a :: r)
noncomputable def gD2 (p k : Nat) (a b : Int) : Bool := (rows p k).all fun r => gChk (Int.ofNat p) (a :: b :: r)
theorem g3_of (h0 : gK 3 0 = true) (h1 : gK 3 1 = true) (h2 : gK 3 2 = true) (h3 : gK 3 3 = true) (h4 : gK 3 4 = true) (h50 : gD 3 4 0 = true) (h51 : gD 3 4 1 = true) (h52 : gD 3 4 2 = true)
    (h600 : gD2 3 4 0 0 = true) (h601 : gD2 3 4 0 1 = true) (h602 : gD2 3 4 0 2 = true) (h610 : gD2 3 4 1 0 = true) (h611 : gD2 3 4 1 1 = true) (h612 : gD2 3 4 1 2 = true) (h620 : gD2 3 4 2 0 = true) (h621 : gD2 3 4 2 1 = true) (h622 : gD2 3 4 2 2 = true) : gC 3 = true := by
  have h5 : gK 3 5 = true := rows_all fun d hd => by
    have : d = 0 ∨ d = 1 ∨ d = 2 := by omega
    rcases this with rfl | rfl | rfl
    · exact h50
    · exact h51
    · exact h52
  have h6 : gK 3 6 = true := rows_all fun d hd => rows_all fun e he => by
    have t1 : d = 0 ∨ d = 1 ∨ d = 2 := by omega
    have t2 : e = 0 ∨ e = 1 ∨ e = 2 := by omega
    rcases t1 with rfl | rfl | rfl <;> rcases t2 with rfl | rfl | rfl
    · exact h600
    · exact h601
    · exact h602
    · exact h610
    · exact h611
    · exact h612
    · exact h620
    · exact h621
    · exact h622
  unfold gC
  rw [List.all_eq_true]
  intro x hx
  obtain ⟨k, hk, hx⟩ := List.mem_flatMap.mp (show x ∈ (List.range 7).flatMap (rows 3) from hx)
  have hk := List.mem_range.mp hk
  have : k = 0 ∨ k = 1 ∨ k = 2 ∨ k = 3 ∨ k = 4 ∨ k = 5 ∨ k = 6 := by omega
  rcases this with rfl | rfl | rfl | rfl | rfl | rfl | rfl
  · exact List.all_eq_true.mp h0 x hx
  · exact List.all_eq_true.mp h1 x hx
  · exact List.all_eq_true.mp h2 x hx
  · exact List.all_eq_true.mp h3 x hx
  · exact List.all_eq_true.mp h4 x hx
  · exact List.all_eq_true.mp h5 x hx
  · exact List.all_eq_true.mp h6 x hx
theorem seq_split {p top k : Nat} (h : ∀ d : Nat, d < p → ((rows p k).all fun m => (rows p (k + 2)).all fun front => (List.range (p - 1)).all fun (e : Nat) => seqF p top (Int.ofNat (Nat.succ e)) ((d : Int) :: m) front) = true) : seqC p top (k + 1) = true :=
  rows_all (f := fun mid => (rows p (k + 2)).all fun front => (List.range (p - 1)).all fun (e : Nat) => seqF p top (Int.ofNat (Nat.succ e)) mid front) h
noncomputable def seqD (p top k : Nat) (a : Int) : Bool := (rows p k).all fun m => (rows p (k + 2)).all fun front => (List.range (p - 1)).all fun (e : Nat) => seqF p top (Int.ofNat (Nat.succ e)) (a :: m) front
noncomputable def fitD (p k : Nat) : Bool := (strips p).all fun s => (rows p k).all (fitsChk p s)
noncomputable def fitE (p k : Nat) (a : Int) : Bool := (strips p).all fun s => (rows p k).all fun r => fitsChk p s (a :: r)
theorem fit3_of (h0 : fitD 3 0 = true) (h1 : fitD 3 1 = true) (h2 : fitD 3 2 = true) (h3 : fitD 3 3 = true) (h4 : fitD 3 4 = true) (h5 : fitD 3 5 = true) (h60 : fitE 3 5 0 = true) (h61 : fitE 3 5 1 = true) (h62 : fitE 3 5 2 = true) : fitC 3 = true := by
  unfold fitC
  rw [List.all_eq_true]
  intro s hs
  rw [List.all_eq_true]
  intro x hx
  obtain ⟨k, hk, hx⟩ := List.mem_flatMap.mp (show x ∈ (List.range 7).flatMap (rows 3) from hx)
  have hk := List.mem_range.mp hk
  have h6 : (rows 3 6).all (fitsChk 3 s) = true := rows_all fun d hd => by
    have : d = 0 ∨ d = 1 ∨ d = 2 := by omega
    rcases this with rfl | rfl | rfl
    · exact List.all_eq_true.mp h60 s hs
    · exact List.all_eq_true.mp h61 s hs
    · exact List.all_eq_true.mp h62 s hs
  have : k = 0 ∨ k = 1 ∨ k = 2 ∨ k = 3 ∨ k = 4 ∨ k = 5 ∨ k = 6 := by omega
  rcases this with rfl | rfl | rfl | rfl | rfl | rfl | rfl
  · exact List.all_eq_true.mp (List.all_eq_true.mp h0 s hs) x hx
  · exact List.all_eq_true.mp (List.all_eq_true.mp h1 s hs) x hx
  · exact List.all_eq_true.mp (List.all_eq_true.mp h2 s hs) x hx
  · exact List.all_eq_true.mp (List.all_eq_true.mp h3 s hs) x hx
  · exact List.all_eq_true.mp (List.all_eq_true.mp h4 s hs) x hx
  · exact List.all_eq_true.mp (List.all_eq_true.mp h5 s hs) x hx
  · exact List.all_eq_true.mp h6 x hx
end FS
end
section
set_option Elab.async false
set_option linter.all false
set_option maxRecDepth 100000
set_option maxHeartbeats 4000000
namespace FS
theorem row2 : rowsC 2 = true := by decide +kernel
theorem row3 : rowsC 3 = true := by decide +kernel
theorem fit2 : fitC 2 = true := by decide +kernel
theorem seq20 : seqC 2 8 0 = true := by decide +kernel
theorem seq21 : seqC 2 8 1 = true := by decide +kernel
theorem seq22 : seqC 2 8 2 = true := by decide +kernel
theorem g2 : gC 2 = true := by decide +kernel
theorem ok2 : W82.OkP 2 := okP (.inl rfl) row2 fit2 seq20 seq21 seq22 g2
end FS
end
section
set_option Elab.async false
set_option linter.all false
set_option maxRecDepth 100000
set_option maxHeartbeats 4000000
namespace FS
theorem fit30 : fitD 3 0 = true := by decide +kernel
theorem fit31 : fitD 3 1 = true := by decide +kernel
theorem fit32 : fitD 3 2 = true := by decide +kernel
theorem fit33 : fitD 3 3 = true := by decide +kernel
theorem fit34 : fitD 3 4 = true := by decide +kernel
theorem fit35 : fitD 3 5 = true := by decide +kernel
theorem fit360 : fitE 3 5 0 = true := by decide +kernel
theorem fit361 : fitE 3 5 1 = true := by decide +kernel
theorem fit362 : fitE 3 5 2 = true := by decide +kernel
theorem fit3 : fitC 3 = true := fit3_of fit30 fit31 fit32 fit33 fit34 fit35 fit360 fit361 fit362
theorem seq30 : seqC 3 7 0 = true := by decide +kernel
theorem seq31 : seqC 3 7 1 = true := by decide +kernel
theorem seq320 : seqD 3 7 1 0 = true := by decide +kernel
theorem seq321 : seqD 3 7 1 1 = true := by decide +kernel
theorem seq322 : seqD 3 7 1 2 = true := by decide +kernel
theorem seq32 : seqC 3 7 2 = true := seq_split fun d hd => by
  have : d = 0 ∨ d = 1 ∨ d = 2 := by omega
  rcases this with rfl | rfl | rfl
  · exact seq320
  · exact seq321
  · exact seq322
end FS
end
section
set_option Elab.async false
set_option linter.all false
set_option maxRecDepth 100000
set_option maxHeartbeats 4000000
namespace FS
theorem g30 : gK 3 0 = true := by decide +kernel
theorem g31 : gK 3 1 = true := by decide +kernel
theorem g32 : gK 3 2 = true := by decide +kernel
theorem g33 : gK 3 3 = true := by decide +kernel
theorem g34 : gK 3 4 = true := by decide +kernel
theorem g350 : gD 3 4 0 = true := by decide +kernel
theorem g351 : gD 3 4 1 = true := by decide +kernel
theorem g352 : gD 3 4 2 = true := by decide +kernel
theorem g3600 : gD2 3 4 0 0 = true := by decide +kernel
theorem g3601 : gD2 3 4 0 1 = true := by decide +kernel
theorem g3602 : gD2 3 4 0 2 = true := by decide +kernel
theorem g3610 : gD2 3 4 1 0 = true := by decide +kernel
theorem g3611 : gD2 3 4 1 1 = true := by decide +kernel
theorem g3612 : gD2 3 4 1 2 = true := by decide +kernel
theorem g3620 : gD2 3 4 2 0 = true := by decide +kernel
theorem g3621 : gD2 3 4 2 1 = true := by decide +kernel
theorem g3622 : gD2 3 4 2 2 = true := by decide +kernel
theorem g3 : gC 3 = true := g3_of g30 g31 g32 g33 g34 g350 g351 g352 g3600 g3601 g3602 g3610 g3611 g3612 g3620 g3621 g3622
end FS
end
section
set_option Elab.async false
set_option linter.all false
set_option maxRecDepth 100000
set_option maxHeartbeats 4000000
namespace W82
open PySem PySem.Spec PyProof.Rows L2 SR
def top (i : Nat) : Stmt := PySem.Challenge.pw_seenrows_k82_whole_digits_guessed.main.body.getD i (.Pass ⟨0, 0, 0, 0⟩)
def met (i j : Nat) : Stmt := (clsB (top i)).getD j (.Pass ⟨0, 0, 0, 0⟩)
def gam (K : PySem.W.Frag) : Cs := ⟨He.ga K "Filter", He.ga K "Sequence", He.ga K "Table", He.ga K "World", He.ga K "Watcher", He.ga K "Coding", He.ga K "Glimpse"⟩
def fn : List He5.DefA := [
  ⟨fun K => He.fAd K ("is_integer", none), "is_integer", "is_integer", defArgs (top 3), defBody (top 3), defScope (top 3), [], []⟩,
  ⟨fun K => He.fAd K ("is_list", none), "is_list", "is_list", defArgs (top 4), defBody (top 4), defScope (top 4), [], []⟩,
  ⟨fun K => He.fAd K ("is_prime", none), "is_prime", "is_prime", defArgs (top 5), defBody (top 5), defScope (top 5), [], []⟩,
  ⟨fun K => He.fAd K ("are_digits", none), "are_digits", "are_digits", defArgs (top 6), defBody (top 6), defScope (top 6), [], []⟩,
  ⟨fun K => He.fAd K ("inverse", none), "inverse", "inverse", defArgs (top 7), defBody (top 7), defScope (top 7), [], []⟩,
  ⟨fun K => He.fAd K ("divided", none), "divided", "divided", defArgs (top 17), defBody (top 17), defScope (top 17), [], []⟩,
  ⟨fun K => He.fAd K ("product_rest", none), "product_rest", "product_rest", defArgs (top 18), defBody (top 18), defScope (top 18), [], []⟩,
  ⟨fun K => He.fAd K ("shift_rest", none), "shift_rest", "shift_rest", defArgs (top 19), defBody (top 19), defScope (top 19), [], []⟩,
  ⟨fun K => He.fAd K ("moved_rest", none), "moved_rest", "moved_rest", defArgs (top 20), defBody (top 20), defScope (top 20), [], []⟩,
  ⟨fun K => He.fAd K ("far_rest", none), "far_rest", "far_rest", defArgs (top 21), defBody (top 21), defScope (top 21), [], []⟩,
  ⟨fun K => He.fAd K ("is_term", none), "is_term", "is_term", defArgs (top 27), defBody (top 27), defScope (top 27), [], []⟩,
  ⟨fun K => He.fAd K ("Filter", some "__init__"), "__init__", "Filter.__init__", defArgs (met 29 0), defBody (met 29 0), defScope (met 29 0), [.adr (He.dflAt ("Filter", some "__init__") 0)], []⟩,
  ⟨fun K => He.fAd K ("Filter", some "__getitem__"), "__getitem__", "Filter.__getitem__", defArgs (met 29 2), defBody (met 29 2), defScope (met 29 2), [], []⟩,
  ⟨fun K => He.fAd K ("Filter", some "__bool__"), "__bool__", "Filter.__bool__", defArgs (met 29 4), defBody (met 29 4), defScope (met 29 4), [], []⟩,
  ⟨fun K => He.fAd K ("Filter", some "__eq__"), "__eq__", "Filter.__eq__", defArgs (met 29 5), defBody (met 29 5), defScope (met 29 5), [], []⟩,
  ⟨fun K => He.fAd K ("Filter", some "terms"), "terms", "Filter.terms", defArgs (met 29 7), defBody (met 29 7), defScope (met 29 7), [], []⟩,
  ⟨fun K => He.fAd K ("Filter", some "low"), "low", "Filter.low", defArgs (met 29 8), defBody (met 29 8), defScope (met 29 8), [], []⟩,
  ⟨fun K => He.fAd K ("Filter", some "high"), "high", "Filter.high", defArgs (met 29 9), defBody (met 29 9), defScope (met 29 9), [], []⟩,
  ⟨fun K => He.fAd K ("Filter", some "span"), "span", "Filter.span", defArgs (met 29 10), defBody (met 29 10), defScope (met 29 10), [], []⟩,
  ⟨fun K => He.fAd K ("Filter", some "normal"), "normal", "Filter.normal", defArgs (met 29 11), defBody (met 29 11), defScope (met 29 11), [], []⟩,
  ⟨fun K => He.fAd K ("check_primes", none), "check_primes", "check_primes", defArgs (top 22), defBody (top 22), defScope (top 22), [], []⟩,
  ⟨fun K => He.fAd K ("divisor_of", none), "divisor_of", "divisor_of", defArgs (top 28), defBody (top 28), defScope (top 28), [], []⟩,
  ⟨fun K => He.fAd K ("Filter", some "__mod__"), "__mod__", "Filter.__mod__", defArgs (met 29 18), defBody (met 29 18), defScope (met 29 18), [], []⟩,
  ⟨fun K => He.fAd K ("Filter", some "__floordiv__"), "__floordiv__", "Filter.__floordiv__", defArgs (met 29 19), defBody (met 29 19), defScope (met 29 19), [], []⟩,
  ⟨fun K => He.fAd K ("gcd", none), "gcd", "gcd", defArgs (top 23), defBody (top 23), defScope (top 23), [], []⟩,
  ⟨fun K => He.fAd K ("least_rule", none), "least_rule", "least_rule", defArgs (top 31), defBody (top 31), defScope (top 31), [], []⟩,
  ⟨fun K => He.fAd K ("Sequence", some "__init__"), "__init__", "Sequence.__init__", defArgs (met 32 0), defBody (met 32 0), defScope (met 32 0), [], []⟩,
  ⟨fun K => He.fAd K ("Sequence", some "led"), "led", "Sequence.led", defArgs (met 32 3), defBody (met 32 3), defScope (met 32 3), [], []⟩,
  ⟨fun K => He.fAd K ("Sequence", some "rule"), "rule", "Sequence.rule", defArgs (met 32 8), defBody (met 32 8), defScope (met 32 8), [], []⟩,
  ⟨fun K => He.fAd K ("Sequence", some "__eq__"), "__eq__", "Sequence.__eq__", defArgs (met 32 7), defBody (met 32 7), defScope (met 32 7), [], []⟩,
  ⟨fun K => He.fAd K ("Sequence", some "digits"), "digits", "Sequence.digits", defArgs (met 32 9), defBody (met 32 9), defScope (met 32 9), [], []⟩,
  ⟨fun K => He.fAd K ("less", none), "less", "less", defArgs (top 34), defBody (top 34), defScope (top 34), [], []⟩,
  ⟨fun K => He.fAd K ("cleared", none), "cleared", "cleared", defArgs (top 35), defBody (top 35), defScope (top 35), [], []⟩,
  ⟨fun K => He.fAd K ("spanned", none), "spanned", "spanned", defArgs (top 36), defBody (top 36), defScope (top 36), [], []⟩,
  ⟨fun K => He.fAd K ("fits", none), "fits", "fits", defArgs (top 38), defBody (top 38), defScope (top 38), [], []⟩,
  ⟨fun K => He.fAd K ("rules_that_fit", none), "rules_that_fit", "rules_that_fit", defArgs (top 39), defBody (top 39), defScope (top 39), [], []⟩,
  ⟨fun K => He.fAd K ("guessed", none), "guessed", "guessed", defArgs (top 40), defBody (top 40), defScope (top 40), [], []⟩,
  ⟨fun K => He5.wf K (He.ga K "Sequence") "classmethod" "zero", "zero", "Sequence.zero", defArgs (met 32 1), defBody (met 32 1), defScope (met 32 1), [], []⟩,
  ⟨fun K => He.fAd K ("_law_all_rows", none), "_law_all_rows", "_law_all_rows", defArgs (top 45), defBody (top 45), defScope (top 45), [], []⟩,
  ⟨fun K => He.fAd K ("_law_fits", none), "_law_fits", "_law_fits", defArgs (top 46), defBody (top 46), defScope (top 46), [], []⟩,
  ⟨fun K => He.fAd K ("_law_rules", none), "_law_rules", "_law_rules", defArgs (top 47), defBody (top 47), defScope (top 47), [], []⟩,
  ⟨fun K => He.fAd K ("_law_shortest", none), "_law_shortest", "_law_shortest", defArgs (top 48), defBody (top 48), defScope (top 48), [], []⟩,
  ⟨fun K => He.fAd K ("_law_box", none), "_law_box", "_law_box", defArgs (top 42), defBody (top 42), defScope (top 42), [], []⟩,
  ⟨fun K => He.fAd K ("_law_take", none), "_law_take", "_law_take", defArgs (top 43), defBody (top 43), defScope (top 43), [], []⟩,
  ⟨fun K => He.fAd K ("_law_pick", none), "_law_pick", "_law_pick", defArgs (top 44), defBody (top 44), defScope (top 44), [], []⟩,
  ⟨fun K => He.fAd K ("_law_some_digits", none), "_law_some_digits", "_law_some_digits", defArgs (top 49), defBody (top 49), defScope (top 49), [], []⟩,
  ⟨fun K => He.fAd K ("law", none), "law", "law", defArgs (top 50), defBody (top 50), defScope (top 50), [], []⟩]
def fa : List He.Fa := [.free "isinstance", .free "int", .free "bool", .glo "is_integer", .free "list", .free "tuple", .glo "is_list", .glo "PRIMES", .glo "is_prime", .free "all", .glo "are_digits", .free "range", .glo "inverse", .free "len", .free "min", .free "max", .free "enumerate", .glo "divided", .glo "product_rest", .glo "shift_rest", .glo "moved_rest", .free "abs", .glo "far_rest", .glo "is_term", .free "sorted", .cls "Filter", .noat "Filter" "prime", .noat "Filter" "kept", .free "dict", .noat "Filter" "held", .mkr "Filter", .glo "Filter", .meth "Filter" "__getitem__", .meth "Filter" "__bool__", .meth "Filter" "__eq__", .meth "Filter" "terms", .meth "Filter" "low", .meth "Filter" "high", .meth "Filter" "span", .meth "Filter" "normal", .glo "check_primes", .glo "divisor_of", .int "NEAR" 2000, .meth "Filter" "__mod__", .meth "Filter" "__floordiv__", .glo "gcd", .glo "least_rule", .cls "Sequence", .noat "Sequence" "prime", .noat "Sequence" "ruler", .noat "Sequence" "front", .noat "Sequence" "divisor", .mkr "Sequence", .glo "Sequence", .free "zip", .free "sum", .meth "Sequence" "led", .meth "Sequence" "rule", .meth "Sequence" "__eq__", .meth "Sequence" "digits", .glo "less", .glo "cleared", .glo "spanned", .glo "fits", .free "any", .glo "rules_that_fit", .glo "guessed", .glo "_law_all_rows", .glo "_law_fits", .glo "_law_rules", .glo "_law_shortest", .glo "_law_box", .glo "_law_take", .glo "_law_pick", .glo "_law_some_digits", .glo "law"]
def exs (K : PySem.W.Frag) : List Bool := [
  decide (PySem.W.kitOne K (.type "int") (.type "bool") = some false),
  decide (PySem.W.kitOne K (.type "tuple") (.type "list") = some false),
  He.eqO (PySem.W.findIn K (.ref (He.ga K "Filter")) "__class__") (some (some (.builtin "object.__class__"))),
  He.eqO (PySem.W.specialIn K (.builtin "object.__class__") "__get__") (some (some (.builtin "getset_descriptor.__get__"))),
  decide (PySem.W.takesIn K (.builtin "object.__class__") = some true),
  decide (PySem.W.mroIn K (He.ga K "Filter") (.type "object") = some true),
  PySem.W.selfFirst K (He.ga K "Filter"),
  He.eqO (PySem.W.findIn K (.ref (He.ga K "Sequence")) "__class__") (some (some (.builtin "object.__class__"))),
  He.eqO (PySem.W.specialIn K (.builtin "object.__class__") "__get__") (some (some (.builtin "getset_descriptor.__get__"))),
  decide (PySem.W.takesIn K (.builtin "object.__class__") = some true),
  decide (PySem.W.mroIn K (He.ga K "Sequence") (.type "object") = some true),
  PySem.W.readsIn K (He.ga K "Sequence") (.type "type"),
  He.eqO (PySem.W.specialIn K (.ref (He.ga K "Sequence")) "__getattribute__") (some (some (.builtin "type.__getattribute__"))),
  He5.wrapB K (He.ga K "Sequence") "classmethod" "classmethod.__get__" "zero",
  He.tupB K "PRIMES" [.int 2, .int 3, .int 5, .int 7]]
def ex (K : PySem.W.Frag) : Bool := (exs K).all id
structure Ctx (K : PySem.W.Frag) (mg : Str → Option Value) : Prop where
  d : He5.SaysA fa fn K
  x : ex K = true
  h : ∃ h : Heap, K.In h ∧ h.Ns mainGlobals mg
section
variable {K : PySem.W.Frag} {mg : Str → Option Value}
theorem Ctx.ex (C : Ctx K mg) (i : Nat) {b : Bool} (h : (exs K)[i]? = some b) : b = true := List.all_eq_true.mp C.x b (List.mem_of_getElem? h)
theorem fr_isinstance (C : Ctx K mg) : mg "isinstance" = none := by obtain ⟨_, X, G⟩ := C.h; exact He.free_ok X G (C.d.fact 0 (f := .free "isinstance") rfl)
theorem fr_int (C : Ctx K mg) : mg "int" = none := by obtain ⟨_, X, G⟩ := C.h; exact He.free_ok X G (C.d.fact 1 (f := .free "int") rfl)
theorem fr_bool (C : Ctx K mg) : mg "bool" = none := by obtain ⟨_, X, G⟩ := C.h; exact He.free_ok X G (C.d.fact 2 (f := .free "bool") rfl)
theorem gl_is_integer (C : Ctx K mg) : mg "is_integer" = some (.ref (He.ga K "is_integer")) := by obtain ⟨_, X, G⟩ := C.h; exact He.glo_ok X G (C.d.fact 3 (f := .glo "is_integer") rfl)
theorem fr_list (C : Ctx K mg) : mg "list" = none := by obtain ⟨_, X, G⟩ := C.h; exact He.free_ok X G (C.d.fact 4 (f := .free "list") rfl)
theorem fr_tuple (C : Ctx K mg) : mg "tuple" = none := by obtain ⟨_, X, G⟩ := C.h; exact He.free_ok X G (C.d.fact 5 (f := .free "tuple") rfl)
theorem gl_is_list (C : Ctx K mg) : mg "is_list" = some (.ref (He.ga K "is_list")) := by obtain ⟨_, X, G⟩ := C.h; exact He.glo_ok X G (C.d.fact 6 (f := .glo "is_list") rfl)
theorem gl_PRIMES (C : Ctx K mg) : mg "PRIMES" = some (.ref (He.ga K "PRIMES")) := by obtain ⟨_, X, G⟩ := C.h; exact He.glo_ok X G (C.d.fact 7 (f := .glo "PRIMES") rfl)
theorem gl_is_prime (C : Ctx K mg) : mg "is_prime" = some (.ref (He.ga K "is_prime")) := by obtain ⟨_, X, G⟩ := C.h; exact He.glo_ok X G (C.d.fact 8 (f := .glo "is_prime") rfl)
theorem fr_all (C : Ctx K mg) : mg "all" = none := by obtain ⟨_, X, G⟩ := C.h; exact He.free_ok X G (C.d.fact 9 (f := .free "all") rfl)
theorem gl_are_digits (C : Ctx K mg) : mg "are_digits" = some (.ref (He.ga K "are_digits")) := by obtain ⟨_, X, G⟩ := C.h; exact He.glo_ok X G (C.d.fact 10 (f := .glo "are_digits") rfl)
theorem fr_range (C : Ctx K mg) : mg "range" = none := by obtain ⟨_, X, G⟩ := C.h; exact He.free_ok X G (C.d.fact 11 (f := .free "range") rfl)
theorem gl_inverse (C : Ctx K mg) : mg "inverse" = some (.ref (He.ga K "inverse")) := by obtain ⟨_, X, G⟩ := C.h; exact He.glo_ok X G (C.d.fact 12 (f := .glo "inverse") rfl)
theorem fr_len (C : Ctx K mg) : mg "len" = none := by obtain ⟨_, X, G⟩ := C.h; exact He.free_ok X G (C.d.fact 13 (f := .free "len") rfl)
theorem fr_min (C : Ctx K mg) : mg "min" = none := by obtain ⟨_, X, G⟩ := C.h; exact He.free_ok X G (C.d.fact 14 (f := .free "min") rfl)
theorem fr_max (C : Ctx K mg) : mg "max" = none := by obtain ⟨_, X, G⟩ := C.h; exact He.free_ok X G (C.d.fact 15 (f := .free "max") rfl)
theorem fr_enumerate (C : Ctx K mg) : mg "enumerate" = none := by obtain ⟨_, X, G⟩ := C.h; exact He.free_ok X G (C.d.fact 16 (f := .free "enumerate") rfl)
theorem gl_divided (C : Ctx K mg) : mg "divided" = some (.ref (He.ga K "divided")) := by obtain ⟨_, X, G⟩ := C.h; exact He.glo_ok X G (C.d.fact 17 (f := .glo "divided") rfl)
theorem gl_product_rest (C : Ctx K mg) : mg "product_rest" = some (.ref (He.ga K "product_rest")) := by obtain ⟨_, X, G⟩ := C.h; exact He.glo_ok X G (C.d.fact 18 (f := .glo "product_rest") rfl)
theorem gl_shift_rest (C : Ctx K mg) : mg "shift_rest" = some (.ref (He.ga K "shift_rest")) := by obtain ⟨_, X, G⟩ := C.h; exact He.glo_ok X G (C.d.fact 19 (f := .glo "shift_rest") rfl)
theorem gl_moved_rest (C : Ctx K mg) : mg "moved_rest" = some (.ref (He.ga K "moved_rest")) := by obtain ⟨_, X, G⟩ := C.h; exact He.glo_ok X G (C.d.fact 20 (f := .glo "moved_rest") rfl)
theorem fr_abs (C : Ctx K mg) : mg "abs" = none := by obtain ⟨_, X, G⟩ := C.h; exact He.free_ok X G (C.d.fact 21 (f := .free "abs") rfl)
theorem gl_far_rest (C : Ctx K mg) : mg "far_rest" = some (.ref (He.ga K "far_rest")) := by obtain ⟨_, X, G⟩ := C.h; exact He.glo_ok X G (C.d.fact 22 (f := .glo "far_rest") rfl)
theorem gl_is_term (C : Ctx K mg) : mg "is_term" = some (.ref (He.ga K "is_term")) := by obtain ⟨_, X, G⟩ := C.h; exact He.glo_ok X G (C.d.fact 23 (f := .glo "is_term") rfl)
theorem fr_sorted (C : Ctx K mg) : mg "sorted" = none := by obtain ⟨_, X, G⟩ := C.h; exact He.free_ok X G (C.d.fact 24 (f := .free "sorted") rfl)
theorem cl_Filter (C : Ctx K mg) : Cls K (He.ga K "Filter") := He.cls_ok (C.d.fact 25 (f := .cls "Filter") rfl)
theorem na_Filter_prime (C : Ctx K mg) : NoAttr K (He.ga K "Filter") "prime" := He.noat_ok (C.d.fact 26 (f := .noat "Filter" "prime") rfl)
theorem na_Filter_kept (C : Ctx K mg) : NoAttr K (He.ga K "Filter") "kept" := He.noat_ok (C.d.fact 27 (f := .noat "Filter" "kept") rfl)
theorem fr_dict (C : Ctx K mg) : mg "dict" = none := by obtain ⟨_, X, G⟩ := C.h; exact He.free_ok X G (C.d.fact 28 (f := .free "dict") rfl)
theorem na_Filter_held (C : Ctx K mg) : NoAttr K (He.ga K "Filter") "held" := He.noat_ok (C.d.fact 29 (f := .noat "Filter" "held") rfl)
theorem mk_Filter (C : Ctx K mg) : Mk K (He.ga K "Filter") (He.ma K (He.ga K "Filter") "__init__") := He.mkr_ok (C.d.fact 30 (f := .mkr "Filter") rfl)
theorem gl_Filter (C : Ctx K mg) : mg "Filter" = some (.ref (He.ga K "Filter")) := by obtain ⟨_, X, G⟩ := C.h; exact He.glo_ok X G (C.d.fact 31 (f := .glo "Filter") rfl)
theorem me_Filter_getitem (C : Ctx K mg) : Meth K (He.ga K "Filter") "__getitem__" (He.ma K (He.ga K "Filter") "__getitem__") := He.meth_ok (C.d.fact 32 (f := .meth "Filter" "__getitem__") rfl)
theorem me_Filter_bool (C : Ctx K mg) : Meth K (He.ga K "Filter") "__bool__" (He.ma K (He.ga K "Filter") "__bool__") := He.meth_ok (C.d.fact 33 (f := .meth "Filter" "__bool__") rfl)
theorem me_Filter_eq (C : Ctx K mg) : Meth K (He.ga K "Filter") "__eq__" (He.ma K (He.ga K "Filter") "__eq__") := He.meth_ok (C.d.fact 34 (f := .meth "Filter" "__eq__") rfl)
theorem me_Filter_terms (C : Ctx K mg) : Meth K (He.ga K "Filter") "terms" (He.ma K (He.ga K "Filter") "terms") := He.meth_ok (C.d.fact 35 (f := .meth "Filter" "terms") rfl)
theorem me_Filter_low (C : Ctx K mg) : Meth K (He.ga K "Filter") "low" (He.ma K (He.ga K "Filter") "low") := He.meth_ok (C.d.fact 36 (f := .meth "Filter" "low") rfl)
theorem me_Filter_high (C : Ctx K mg) : Meth K (He.ga K "Filter") "high" (He.ma K (He.ga K "Filter") "high") := He.meth_ok (C.d.fact 37 (f := .meth "Filter" "high") rfl)
theorem me_Filter_span (C : Ctx K mg) : Meth K (He.ga K "Filter") "span" (He.ma K (He.ga K "Filter") "span") := He.meth_ok (C.d.fact 38 (f := .meth "Filter" "span") rfl)
theorem me_Filter_normal (C : Ctx K mg) : Meth K (He.ga K "Filter") "normal" (He.ma K (He.ga K "Filter") "normal") := He.meth_ok (C.d.fact 39 (f := .meth "Filter" "normal") rfl)
theorem gl_check_primes (C : Ctx K mg) : mg "check_primes" = some (.ref (He.ga K "check_primes")) := by obtain ⟨_, X, G⟩ := C.h; exact He.glo_ok X G (C.d.fact 40 (f := .glo "check_primes") rfl)
theorem gl_divisor_of (C : Ctx K mg) : mg "divisor_of" = some (.ref (He.ga K "divisor_of")) := by obtain ⟨_, X, G⟩ := C.h; exact He.glo_ok X G (C.d.fact 41 (f := .glo "divisor_of") rfl)
theorem gi_NEAR (C : Ctx K mg) : ∃ t, mg "NEAR" = some (.int 2000 t) := by obtain ⟨_, X, G⟩ := C.h; exact He.int_ok X G (C.d.fact 42 (f := .int "NEAR" 2000) rfl)
theorem me_Filter_mod (C : Ctx K mg) : Meth K (He.ga K "Filter") "__mod__" (He.ma K (He.ga K "Filter") "__mod__") := He.meth_ok (C.d.fact 43 (f := .meth "Filter" "__mod__") rfl)
theorem me_Filter_floordiv (C : Ctx K mg) : Meth K (He.ga K "Filter") "__floordiv__" (He.ma K (He.ga K "Filter") "__floordiv__") := He.meth_ok (C.d.fact 44 (f := .meth "Filter" "__floordiv__") rfl)
theorem gl_gcd (C : Ctx K mg) : mg "gcd" = some (.ref (He.ga K "gcd")) := by obtain ⟨_, X, G⟩ := C.h; exact He.glo_ok X G (C.d.fact 45 (f := .glo "gcd") rfl)
theorem gl_least_rule (C : Ctx K mg) : mg "least_rule" = some (.ref (He.ga K "least_rule")) := by obtain ⟨_, X, G⟩ := C.h; exact He.glo_ok X G (C.d.fact 46 (f := .glo "least_rule") rfl)
theorem cl_Sequence (C : Ctx K mg) : Cls K (He.ga K "Sequence") := He.cls_ok (C.d.fact 47 (f := .cls "Sequence") rfl)
theorem na_Sequence_prime (C : Ctx K mg) : NoAttr K (He.ga K "Sequence") "prime" := He.noat_ok (C.d.fact 48 (f := .noat "Sequence" "prime") rfl)
theorem na_Sequence_ruler (C : Ctx K mg) : NoAttr K (He.ga K "Sequence") "ruler" := He.noat_ok (C.d.fact 49 (f := .noat "Sequence" "ruler") rfl)
theorem na_Sequence_front (C : Ctx K mg) : NoAttr K (He.ga K "Sequence") "front" := He.noat_ok (C.d.fact 50 (f := .noat "Sequence" "front") rfl)
theorem na_Sequence_divisor (C : Ctx K mg) : NoAttr K (He.ga K "Sequence") "divisor" := He.noat_ok (C.d.fact 51 (f := .noat "Sequence" "divisor") rfl)
theorem mk_Sequence (C : Ctx K mg) : Mk K (He.ga K "Sequence") (He.ma K (He.ga K "Sequence") "__init__") := He.mkr_ok (C.d.fact 52 (f := .mkr "Sequence") rfl)
theorem gl_Sequence (C : Ctx K mg) : mg "Sequence" = some (.ref (He.ga K "Sequence")) := by obtain ⟨_, X, G⟩ := C.h; exact He.glo_ok X G (C.d.fact 53 (f := .glo "Sequence") rfl)
theorem fr_zip (C : Ctx K mg) : mg "zip" = none := by obtain ⟨_, X, G⟩ := C.h; exact He.free_ok X G (C.d.fact 54 (f := .free "zip") rfl)
theorem fr_sum (C : Ctx K mg) : mg "sum" = none := by obtain ⟨_, X, G⟩ := C.h; exact He.free_ok X G (C.d.fact 55 (f := .free "sum") rfl)
theorem me_Sequence_led (C : Ctx K mg) : Meth K (He.ga K "Sequence") "led" (He.ma K (He.ga K "Sequence") "led") := He.meth_ok (C.d.fact 56 (f := .meth "Sequence" "led") rfl)
theorem me_Sequence_rule (C : Ctx K mg) : Meth K (He.ga K "Sequence") "rule" (He.ma K (He.ga K "Sequence") "rule") := He.meth_ok (C.d.fact 57 (f := .meth "Sequence" "rule") rfl)
theorem me_Sequence_eq (C : Ctx K mg) : Meth K (He.ga K "Sequence") "__eq__" (He.ma K (He.ga K "Sequence") "__eq__") := He.meth_ok (C.d.fact 58 (f := .meth "Sequence" "__eq__") rfl)
theorem me_Sequence_digits (C : Ctx K mg) : Meth K (He.ga K "Sequence") "digits" (He.ma K (He.ga K "Sequence") "digits") := He.meth_ok (C.d.fact 59 (f := .meth "Sequence" "digits") rfl)
theorem gl_less (C : Ctx K mg) : mg "less" = some (.ref (He.ga K "less")) := by obtain ⟨_, X, G⟩ := C.h; exact He.glo_ok X G (C.d.fact 60 (f := .glo "less") rfl)
theorem gl_cleared (C : Ctx K mg) : mg "cleared" = some (.ref (He.ga K "cleared")) := by obtain ⟨_, X, G⟩ := C.h; exact He.glo_ok X G (C.d.fact 61 (f := .glo "cleared") rfl)
theorem gl_spanned (C : Ctx K mg) : mg "spanned" = some (.ref (He.ga K "spanned")) := by obtain ⟨_, X, G⟩ := C.h; exact He.glo_ok X G (C.d.fact 62 (f := .glo "spanned") rfl)
theorem gl_fits (C : Ctx K mg) : mg "fits" = some (.ref (He.ga K "fits")) := by obtain ⟨_, X, G⟩ := C.h; exact He.glo_ok X G (C.d.fact 63 (f := .glo "fits") rfl)
theorem fr_any (C : Ctx K mg) : mg "any" = none := by obtain ⟨_, X, G⟩ := C.h; exact He.free_ok X G (C.d.fact 64 (f := .free "any") rfl)
theorem gl_rules_that_fit (C : Ctx K mg) : mg "rules_that_fit" = some (.ref (He.ga K "rules_that_fit")) := by obtain ⟨_, X, G⟩ := C.h; exact He.glo_ok X G (C.d.fact 65 (f := .glo "rules_that_fit") rfl)
theorem gl_guessed (C : Ctx K mg) : mg "guessed" = some (.ref (He.ga K "guessed")) := by obtain ⟨_, X, G⟩ := C.h; exact He.glo_ok X G (C.d.fact 66 (f := .glo "guessed") rfl)
theorem gl__law_all_rows (C : Ctx K mg) : mg "_law_all_rows" = some (.ref (He.ga K "_law_all_rows")) := by obtain ⟨_, X, G⟩ := C.h; exact He.glo_ok X G (C.d.fact 67 (f := .glo "_law_all_rows") rfl)
theorem gl__law_fits (C : Ctx K mg) : mg "_law_fits" = some (.ref (He.ga K "_law_fits")) := by obtain ⟨_, X, G⟩ := C.h; exact He.glo_ok X G (C.d.fact 68 (f := .glo "_law_fits") rfl)
theorem gl__law_rules (C : Ctx K mg) : mg "_law_rules" = some (.ref (He.ga K "_law_rules")) := by obtain ⟨_, X, G⟩ := C.h; exact He.glo_ok X G (C.d.fact 69 (f := .glo "_law_rules") rfl)
theorem gl__law_shortest (C : Ctx K mg) : mg "_law_shortest" = some (.ref (He.ga K "_law_shortest")) := by obtain ⟨_, X, G⟩ := C.h; exact He.glo_ok X G (C.d.fact 70 (f := .glo "_law_shortest") rfl)
theorem gl__law_box (C : Ctx K mg) : mg "_law_box" = some (.ref (He.ga K "_law_box")) := by obtain ⟨_, X, G⟩ := C.h; exact He.glo_ok X G (C.d.fact 71 (f := .glo "_law_box") rfl)
theorem gl__law_take (C : Ctx K mg) : mg "_law_take" = some (.ref (He.ga K "_law_take")) := by obtain ⟨_, X, G⟩ := C.h; exact He.glo_ok X G (C.d.fact 72 (f := .glo "_law_take") rfl)
theorem gl__law_pick (C : Ctx K mg) : mg "_law_pick" = some (.ref (He.ga K "_law_pick")) := by obtain ⟨_, X, G⟩ := C.h; exact He.glo_ok X G (C.d.fact 73 (f := .glo "_law_pick") rfl)
theorem gl__law_some_digits (C : Ctx K mg) : mg "_law_some_digits" = some (.ref (He.ga K "_law_some_digits")) := by obtain ⟨_, X, G⟩ := C.h; exact He.glo_ok X G (C.d.fact 74 (f := .glo "_law_some_digits") rfl)
theorem gl_law (C : Ctx K mg) : mg "law" = some (.ref (He.ga K "law")) := by obtain ⟨_, X, G⟩ := C.h; exact He.glo_ok X G (C.d.fact 75 (f := .glo "law") rfl)
theorem kit_int_bool (C : Ctx K mg) : PySem.W.kitOne K (.type "int") (.type "bool") = some false := of_decide_eq_true (C.ex 0 rfl)
theorem kit_tuple_list (C : Ctx K mg) : PySem.W.kitOne K (.type "tuple") (.type "list") = some false := of_decide_eq_true (C.ex 1 rfl)
theorem ic_Filter (C : Ctx K mg) : C8.InsC K (He.ga K "Filter") := ⟨cl_Filter C, He.eqO_ok (C.ex 2 rfl), He.eqO_ok (C.ex 3 rfl), of_decide_eq_true (C.ex 4 rfl), of_decide_eq_true (C.ex 5 rfl), kit_self⟩
theorem sf_Filter (C : Ctx K mg) : PySem.W.selfFirst K (He.ga K "Filter") = true := C.ex 6 rfl
theorem ic_Sequence (C : Ctx K mg) : C8.InsC K (He.ga K "Sequence") := ⟨cl_Sequence C, He.eqO_ok (C.ex 7 rfl), He.eqO_ok (C.ex 8 rfl), of_decide_eq_true (C.ex 9 rfl), of_decide_eq_true (C.ex 10 rfl), kit_self⟩
theorem cr_Sequence (C : Ctx K mg) : ClX.CRead K (He.ga K "Sequence") (.type "type") := ⟨C.ex 11 rfl, He.eqO_ok (C.ex 12 rfl)⟩
theorem cm_Sequence_zero (C : Ctx K mg) : He5.wrapB K (He.ga K "Sequence") "classmethod" "classmethod.__get__" "zero" = true := C.ex 13 rfl
theorem tup_PRIMES (C : Ctx K mg) : ∀ H, SqT K H (He.ga K "PRIMES") (([2, 3, 5, 7] : List Int).map V.int) := fun H => He.tupB_ok (C.ex 14 rfl) H
end
theorem u1 {j : Nat} {A : Around} (hr : Room j A) : A.units + 1 < cLine := by have := hr.units; omega
section
variable {P : Program} {w : World} {K : PySem.W.Frag} {mg : Str → Option Value} {base : Heap}

theorem c_is_integer  (C : Ctx K mg) : CalF P w K mg base 1 "is_integer" (sp1 (gam K) (fun _ => kF (gam K)) m_is_integer) := by
  obtain ⟨fd, F⟩ := C.d.def_ 0 rfl
  have S : FnScope ["thing"] ["thing"] (defScope (top 3)) := ⟨rfl, rfl, rfl, by decide +kernel, rfl, by decide +kernel, by decide +kernel⟩
  have nd := S.nd
  refine calF (ps := ["thing"]) F (body1 F S rfl (by decide) fun x_thing cdv A outer s H E W0 hr => ?_) (gl_is_integer C) (fun _ _ _ _ _ _ us hl => match us, hl with | [_], _ => rfl)
  show RX _ _ _ _ _ [(fz x_thing)] (m_is_integer x_thing)
  unfold m_is_integer
  exact (r_ret (x_and (x_isi (fr_isinstance C) (fr_int C) (isi_int kit_self) (x_var 0)) (x_not (x_isi (fr_isinstance C) (fr_bool C) (isi_int (kit_int_bool C)) (x_var 0)))))

theorem c_is_list {α : Type} [Rep α] [SeqLike α] (C : Ctx K mg) : CalF P w K mg base 1 "is_list" (sp1 (gam K) (fun _ => kF (gam K)) m_is_list (α := α)) := by
  obtain ⟨fd, F⟩ := C.d.def_ 1 rfl
  have S : FnScope ["thing"] ["thing"] (defScope (top 4)) := ⟨rfl, rfl, rfl, by decide +kernel, rfl, by decide +kernel, by decide +kernel⟩
  have nd := S.nd
  refine calF (ps := ["thing"]) F (body1 F S rfl (by decide) fun x_thing cdv A outer s H E W0 hr => ?_) (gl_is_list C) (fun _ _ _ _ _ _ us hl => match us, hl with | [_], _ => rfl)
  show RX _ _ _ _ _ [(fz x_thing)] (m_is_list x_thing)
  unfold m_is_list
  exact (r_ret (x_isiT (fr_isinstance C) (fr_list C) (fr_tuple C) (isi_seq (kit_tuple_list C)) (x_var 0)))

theorem c_is_prime  (C : Ctx K mg) : CalF P w K mg base 2 "is_prime" (sp1 (gam K) (fun _ => kF (gam K)) m_is_prime) := by
  obtain ⟨fd, F⟩ := C.d.def_ 2 rfl
  have S : FnScope ["thing"] ["thing"] (defScope (top 5)) := ⟨rfl, rfl, rfl, by decide +kernel, rfl, by decide +kernel, by decide +kernel⟩
  have nd := S.nd
  refine calF (ps := ["thing"]) F (body1 F S rfl (by decide) fun x_thing cdv A outer s H E W0 hr => ?_) (gl_is_prime C) (fun _ _ _ _ _ _ us hl => match us, hl with | [_], _ => rfl)
  show RX _ _ _ _ _ [(fz x_thing)] (m_is_prime x_thing)
  unfold m_is_prime
  exact (r_ret (x_and (x_call1 (c_is_integer C) hr (x_var 0).p) (x_inG (gl_PRIMES C) (tup_PRIMES C) (x_var 0))))

theorem c_are_digits  (C : Ctx K mg) : CalF P w K mg base 2 "are_digits" (sp2 (gam K) (fun _ => kF (gam K)) m_are_digits) := by
  obtain ⟨fd, F⟩ := C.d.def_ 3 rfl
  have S : FnScope ["prime", "thing", "digit"] ["prime", "thing"] (defScope (top 6)) := ⟨rfl, rfl, rfl, by decide +kernel, rfl, by decide +kernel, by decide +kernel⟩
  have nd := S.nd
  refine calF (ps := ["prime", "thing"]) F (body2 F S rfl (by decide) fun x_prime x_thing cdv A outer s H E W0 hr => ?_) (gl_are_digits C) (fun _ _ _ _ _ _ us hl => match us, hl with | [_, _], _ => rfl)
  show RX _ _ _ _ _ [(fz x_prime), (fz x_thing), .un] (m_are_digits x_prime x_thing)
  unfold m_are_digits
  exact (r_ret (x_and (x_call1 (c_is_list C) hr (x_var 1).p) (x_all (fr_all C) (o_lc (own := [("digit", 2)]) rfl nd (blkOk_by (N := ["prime", "thing", "digit"]) (sc := defScope (top 6)) (by decide +kernel)) (iw_lt (x_var 1)).c (fun _ _ _ _ _ => pg1 2 nd) (tg1 2) (fun _ _ _ _ _ x2 => ts_nil) (fun _ _ _ _ _ x2 => (x_and (x_call1 (c_is_integer C) hr (x_var 2).p) (x_chain op_le os_le op_lt os_lt x_int (x_var 2) (x_var 0))))).lx)))

theorem c_inverse  (C : Ctx K mg) : CalF P w K mg base 1 "inverse" (sp2 (gam K) (fun _ => kF (gam K)) m_inverse) := by
  obtain ⟨fd, F⟩ := C.d.def_ 4 rfl
  have S : FnScope ["prime", "digit", "k"] ["prime", "digit"] (defScope (top 7)) := ⟨rfl, rfl, rfl, by decide +kernel, rfl, by decide +kernel, by decide +kernel⟩
  have nd := S.nd
  refine calF (ps := ["prime", "digit"]) F (body2 F S rfl (by decide) fun x_prime x_digit cdv A outer s H E W0 hr => ?_) (gl_inverse C) (fun _ _ _ _ _ _ us hl => match us, hl with | [_, _], _ => rfl)
  show RX _ _ _ _ _ [(fz x_prime), (fz x_digit), .un] (m_inverse x_prime x_digit)
  unfold m_inverse
  exact (r_ret (x_ix (o_lc (own := [("k", 2)]) rfl nd (blkOk_by (N := ["prime", "digit", "k"]) (sc := defScope (top 7)) (by decide +kernel)) (iw_range2 (fr_range C) x_int (x_var 0)).c (fun _ _ _ _ _ => pg1 2 nd) (tg1 2) (fun _ _ _ _ _ x2 => (ts_one (t_cmp op_eq os_eqI (x_op op_mod os_mod (x_op op_mul os_mul (x_var 2) (x_var 1)) (x_var 0)) x_int))) (fun _ _ _ _ _ x2 => (x_var 2))).lx x_int))

theorem c_divided  (C : Ctx K mg) : CalF P w K mg base 2 "divided" (sp3 (gam K) (fun _ => kF (gam K)) m_divided) := by
  obtain ⟨fd, F⟩ := C.d.def_ 5 rfl
  have S : FnScope ["prime", "terms", "divisor", "size", "scale", "left", "quotient", "offset", "coefficient", "low", "high", "digit", "start", "k", "part"] ["prime", "terms", "divisor"] (defScope (top 17)) := ⟨rfl, rfl, rfl, by decide +kernel, rfl, by decide +kernel, by decide +kernel⟩
  have nd := S.nd
  refine calF (ps := ["prime", "terms", "divisor"]) F (body3 F S rfl (by decide) fun x_prime x_terms x_divisor cdv A outer s H E W0 hr => ?_) (gl_divided C) (fun _ _ _ _ _ _ us hl => match us, hl with | [_, _, _], _ => rfl)
  show RX _ _ _ _ _ [(fz x_prime), (fz x_terms), (fz x_divisor), .un, .un, .un, .un, .un, .un, .un, .un, .un, .un, .un, .un] (m_divided x_prime x_terms x_divisor)
  unfold m_divided
  exact (r_cons (s_par 3 4 (x_op op_sub os_sub (x_len (fr_len C) (x_var 2).lx) x_int) (x_call2 (c_inverse C) hr (x_var 0).p (x_ix (x_var 2).lx x_int).p) nd) fun b1 => (r_cons (s_setD 5 o_dnil nd) fun b2 => (r_cons (s_setD 6 o_dnil nd) fun b3 => (r_cons (s_for (s0 := b2) (ρL := fun s4 => [(fz x_prime), (fz x_terms), (fz x_divisor), (fz b1.1), (fz b1.2), (.owD s4), (.owD b3), .un, .un, .un, .un, .un, .un, .un, .un]) (iw_list (x_var 1)) (pg2 7 8 nd) (tg2 7 8) (fun s4 x5 => (b_cons (s_dput 5 hr (x_var 8) (x_var 7)) fun b6 => b_nil)) PassesOwn.never) fun b7 => (r_cons (s_set 9 (x_min (fr_min C) (o_lc (own := [("offset", 7)]) rfl nd (blkOk_by (N := ["prime", "terms", "divisor", "size", "scale", "left", "quotient", "offset", "coefficient", "low", "high", "digit", "start", "k", "part"]) (sc := defScope (top 17)) (by decide +kernel)) (iw_list (o_lst (a_cons x_int (a_starD (x_ownD 5) a_nil))).ex).c (fun _ _ _ _ _ => pg1 7 nd) (tg1 7) (fun _ _ _ _ _ x9 => ts_nil) (fun _ _ _ _ _ x9 => (x_intI (fr_int C) (x_var 7)))).lx) nd) fun b10 => (r_cons (s_set 10 (x_max (fr_max C) (o_lc (own := [("offset", 7)]) rfl nd (blkOk_by (N := ["prime", "terms", "divisor", "size", "scale", "left", "quotient", "offset", "coefficient", "low", "high", "digit", "start", "k", "part"]) (sc := defScope (top 17)) (by decide +kernel)) (iw_list (o_lst (a_cons x_int (a_starD (x_ownD 5) a_nil))).ex).c (fun _ _ _ _ _ => pg1 7 nd) (tg1 7) (fun _ _ _ _ _ x12 => ts_nil) (fun _ _ _ _ _ x12 => (x_intI (fr_int C) (x_var 7)))).lx) nd) fun b13 => (r_cons (s_for (s0 := (b3, b7)) (ρL := fun s14 => [(fz x_prime), (fz x_terms), (fz x_divisor), (fz b1.1), (fz b1.2), (.owD s14.2), (.owD s14.1), .un, .un, (fz b10), (fz b13), .un, .un, .un, .un]) (iw_list (o_cat (o_listRg2 (fr_list C) (fr_range C) (x_var 9) x_int).lx (o_listDn (fr_list C) (fr_range C) (x_var 10) (x_op op_sub os_sub (x_var 3) x_int)).lx).ex) (pg1 7 nd) (tg1 7) (fun s14 x15 => (b_cons (s_par 11 12 (x_get (u1 hr) (x_ownD 5) (x_var 7) x_int ⟨rfl, rfl, rfl, rfl⟩) (x_op op_sub os_sub (x_var 7) (x_var 3)) nd) fun b16 => (b_cons (s_if (ρ' := fun s18 => [(fz x_prime), (fz x_terms), (fz x_divisor), (fz b1.1), (fz b1.2), (.owD s14.2), (.owD s14.1), (fz x15), .un, (fz b10), (fz b13), (fz s18.1), (fz s18.2), .un, .un]) (t_cmp op_lt os_lt (x_var 7) x_int) (b_cons (s_par 11 12 (x_op op_mod os_mod (x_op op_mul os_mul (x_var 11) (x_var 4)) (x_var 0)) (x_var 7) nd) fun b17 => b_nil) b_nil) fun b19 => (b_cons (s_if (ρ' := fun s25 => [(fz x_prime), (fz x_terms), (fz x_divisor), (fz b1.1), (fz b1.2), (.owD s25.2), (.owD s25.1), (fz x15), .un, (fz b10), (fz b13), (fz b19.1), (fz b19.2), .un, .un]) (t_cmp op_gt os_gt (x_var 11) x_int) (b_cons (s_dput 6 hr (x_var 11) (x_var 12)) fun b20 => (b_cons (s_for (s0 := s14.2) (ρL := fun s21 => [(fz x_prime), (fz x_terms), (fz x_divisor), (fz b1.1), (fz b1.2), (.owD s21), (.owD b20), (fz x15), .un, (fz b10), (fz b13), (fz b19.1), (fz b19.2), .un, .un]) (iw_enum (fr_enumerate C) (x_var 2)) (pg2 13 14 nd) (tg2 13 14) (fun s21 x22 => (b_cons (s_dput 5 hr (x_op op_mod os_mod (x_op op_sub os_sub (x_get (u1 hr) (x_ownD 5) (x_op op_add os_add (x_var 12) (x_var 13)) x_int ⟨rfl, rfl, rfl, rfl⟩) (x_op op_mul os_mul (x_var 11) (x_var 14))) (x_var 0)) (x_op op_add os_add (x_var 12) (x_var 13))) fun b23 => b_nil)) PassesOwn.never) fun b24 => b_nil)) b_nil) fun b26 => b_nil)))) PassesOwn.never) fun b27 => (r_freezeD 6 (r_ret (x_pair (x_var 6) (o_lc (own := [("k", 13)]) rfl nd (blkOk_by (N := ["prime", "terms", "divisor", "size", "scale", "left", "quotient", "offset", "coefficient", "low", "high", "digit", "start", "k", "part"]) (sc := defScope (top 17)) (by decide +kernel)) (iw_range1 (fr_range C) (x_var 3)).c (fun _ _ _ _ _ => pg1 13 nd) (tg1 13) (fun _ _ _ _ _ x28 => ts_nil) (fun _ _ _ _ _ x28 => (x_get (u1 hr) (x_ownD 5) (x_var 13) x_int ⟨rfl, rfl, rfl, rfl⟩))).ex))))))))))

theorem c_product_rest  (C : Ctx K mg) : CalF P w K mg base 1 "product_rest" (sp4 (gam K) (fun _ => kF (gam K)) m_product_rest) := by
  obtain ⟨fd, F⟩ := C.d.def_ 6 rfl
  have S : FnScope ["prime", "divisor", "one", "other", "size", "sums", "k", "digit", "j", "part", "at"] ["prime", "divisor", "one", "other"] (defScope (top 18)) := ⟨rfl, rfl, rfl, by decide +kernel, rfl, by decide +kernel, by decide +kernel⟩
  have nd := S.nd
  refine calF (ps := ["prime", "divisor", "one", "other"]) F (body4 F S rfl (by decide) fun x_prime x_divisor x_one x_other cdv A outer s H E W0 hr => ?_) (gl_product_rest C) (fun _ _ _ _ _ _ us hl => match us, hl with | [_, _, _, _], _ => rfl)
  show RX _ _ _ _ _ [(fz x_prime), (fz x_divisor), (fz x_one), (fz x_other), .un, .un, .un, .un, .un, .un, .un] (m_product_rest x_prime x_divisor x_one x_other)
  unfold m_product_rest
  exact (r_cons (s_set 4 (x_op op_sub os_sub (x_len (fr_len C) (x_var 1).lx) x_int) nd) fun b1 => (r_cons (s_setD 5 o_dnil nd) fun b2 => (r_cons (s_for (s0 := b2) (ρL := fun s3 => [(fz x_prime), (fz x_divisor), (fz x_one), (fz x_other), (fz b1), (.owD s3), .un, .un, .un, .un, .un]) (iw_enum (fr_enumerate C) (x_var 2)) (pg2 6 7 nd) (tg2 6 7) (fun s3 x4 => (b_cons (s_for (s0 := s3) (ρL := fun s5 => [(fz x_prime), (fz x_divisor), (fz x_one), (fz x_other), (fz b1), (.owD s5), (fz x4.1), (fz x4.2), .un, .un, .un]) (iw_enum (fr_enumerate C) (x_var 3)) (pg2 8 9 nd) (tg2 8 9) (fun s5 x6 => (b_cons (s_dput 5 hr (x_op op_add os_add (x_get (u1 hr) (x_ownD 5) (x_op op_add os_add (x_var 6) (x_var 8)) x_int ⟨rfl, rfl, rfl, rfl⟩) (x_op op_mul os_mul (x_var 7) (x_var 9))) (x_op op_add os_add (x_var 6) (x_var 8))) fun b7 => b_nil)) PassesOwn.never) fun b8 => b_nil)) PassesOwn.never) fun b9 => (r_cons (s_for (s0 := b9) (ρL := fun s10 => [(fz x_prime), (fz x_divisor), (fz x_one), (fz x_other), (fz b1), (.owD s10), .un, .un, .un, .un, .un]) (iw_down (fr_range C) (x_op op_sub os_sub (x_op op_mul os_mul x_int (x_var 4)) x_int) (x_op op_sub os_sub (x_var 4) x_int)) (pg1 10 nd) (tg1 10) (fun s10 x11 => (b_cons (s_set 7 (x_op op_mod os_mod (x_dget (u1 hr) (x_ownD 5) (x_var 10)) (x_var 0)) nd) fun b12 => (b_cons (s_for (s0 := s10) (ρL := fun s13 => [(fz x_prime), (fz x_divisor), (fz x_one), (fz x_other), (fz b1), (.owD s13), .un, (fz b12), .un, .un, (fz x11)]) (iw_range1 (fr_range C) (x_var 4)) (pg1 6 nd) (tg1 6) (fun s13 x14 => (b_cons (s_dput 5 hr (x_op op_sub os_sub (x_dget (u1 hr) (x_ownD 5) (x_op op_add os_add (x_op op_sub os_sub (x_var 10) (x_var 4)) (x_var 6))) (x_op op_mul os_mul (x_var 7) (x_ix (x_var 1).lx (x_var 6)))) (x_op op_add os_add (x_op op_sub os_sub (x_var 10) (x_var 4)) (x_var 6))) fun b15 => b_nil)) PassesOwn.never) fun b16 => b_nil))) PassesOwn.never) fun b17 => (r_ret (o_lc (own := [("k", 6)]) rfl nd (blkOk_by (N := ["prime", "divisor", "one", "other", "size", "sums", "k", "digit", "j", "part", "at"]) (sc := defScope (top 18)) (by decide +kernel)) (iw_range1 (fr_range C) (x_var 4)).c (fun _ _ _ _ _ => pg1 6 nd) (tg1 6) (fun _ _ _ _ _ x18 => ts_nil) (fun _ _ _ _ _ x18 => (x_op op_mod os_mod (x_dget (u1 hr) (x_ownD 5) (x_var 6)) (x_var 0)))).ex)))))

theorem c_shift_rest  (C : Ctx K mg) : CalF P w K mg base 2 "shift_rest" (sp3 (gam K) (fun _ => kF (gam K)) m_shift_rest) := by
  obtain ⟨fd, F⟩ := C.d.def_ 7 rfl
  have S : FnScope ["prime", "divisor", "back", "size", "scale", "part", "k"] ["prime", "divisor", "back"] (defScope (top 19)) := ⟨rfl, rfl, rfl, by decide +kernel, rfl, by decide +kernel, by decide +kernel⟩
  have nd := S.nd
  refine calF (ps := ["prime", "divisor", "back"]) F (body3 F S rfl (by decide) fun x_prime x_divisor x_back cdv A outer s H E W0 hr => ?_) (gl_shift_rest C) (fun _ _ _ _ _ _ us hl => match us, hl with | [_, _, _], _ => rfl)
  show RX _ _ _ _ _ [(fz x_prime), (fz x_divisor), (fz x_back), .un, .un, .un, .un] (m_shift_rest x_prime x_divisor x_back)
  unfold m_shift_rest
  exact (r_cons (s_set 3 (x_op op_sub os_sub (x_len (fr_len C) (x_var 1).lx) x_int) nd) fun b1 => (r_ifr (t_val (x_var 2)) (r_cons (s_set 4 (x_op op_sub os_sub x_int (x_call2 (c_inverse C) hr (x_var 0).p (x_ix (x_var 1).lx x_int).p)) nd) fun b2 => (r_ret (o_lc (own := [("part", 5)]) rfl nd (blkOk_by (N := ["prime", "divisor", "back", "size", "scale", "part", "k"]) (sc := defScope (top 19)) (by decide +kernel)) (iw_list (o_cut (x_var 1).lx (p_some x_int) p_none).ex).c (fun _ _ _ _ _ => pg1 5 nd) (tg1 5) (fun _ _ _ _ _ x3 => ts_nil) (fun _ _ _ _ _ x3 => (x_op op_mod os_mod (x_op op_mul os_mul (x_var 4) (x_var 5)) (x_var 0)))).ex)) (r_ifr (t_cmp op_eq os_eqI (x_var 3) x_int) (r_ret (o_lst (a_cons (x_op op_mod os_mod (x_op op_sub os_sub x_int (x_ix (x_var 1).lx x_int)) (x_var 0)) a_nil)).ex) (r_ret (o_lc (own := [("k", 6)]) rfl nd (blkOk_by (N := ["prime", "divisor", "back", "size", "scale", "part", "k"]) (sc := defScope (top 19)) (by decide +kernel)) (iw_range1 (fr_range C) (x_var 3)).c (fun _ _ _ _ _ => pg1 6 nd) (tg1 6) (fun _ _ _ _ _ x4 => ts_nil) (fun _ _ _ _ _ x4 => (x_intB (fr_int C) (x_cmp op_eq os_eqI (x_var 6) x_int)))).ex))))

theorem c_moved_rest  (C : Ctx K mg) : CalF P w K mg base 1 "moved_rest" (sp3 (gam K) (fun _ => kF (gam K)) m_moved_rest) := by
  obtain ⟨fd, F⟩ := C.d.def_ 8 rfl
  have S : FnScope ["prime", "divisor", "rest", "moved", "k"] ["prime", "divisor", "rest"] (defScope (top 20)) := ⟨rfl, rfl, rfl, by decide +kernel, rfl, by decide +kernel, by decide +kernel⟩
  have nd := S.nd
  refine calF (ps := ["prime", "divisor", "rest"]) F (body3 F S rfl (by decide) fun x_prime x_divisor x_rest cdv A outer s H E W0 hr => ?_) (gl_moved_rest C) (fun _ _ _ _ _ _ us hl => match us, hl with | [_, _, _], _ => rfl)
  show RX _ _ _ _ _ [(fz x_prime), (fz x_divisor), (fz x_rest), .un, .un] (m_moved_rest x_prime x_divisor x_rest)
  unfold m_moved_rest
  exact (r_cons (s_set 3 (o_cat (o_lst (a_cons x_int a_nil)).lx (x_var 2).lx).ex nd) fun b1 => (r_ret (o_lc (own := [("k", 4)]) rfl nd (blkOk_by (N := ["prime", "divisor", "rest", "moved", "k"]) (sc := defScope (top 20)) (by decide +kernel)) (iw_range1 (fr_range C) (x_len (fr_len C) (x_var 2).lx)).c (fun _ _ _ _ _ => pg1 4 nd) (tg1 4) (fun _ _ _ _ _ x2 => ts_nil) (fun _ _ _ _ _ x2 => (x_op op_mod os_mod (x_op op_sub os_sub (x_ix (x_var 3).lx (x_var 4)) (x_op op_mul os_mul (x_ix (x_var 3).lx (x_neg x_int)) (x_ix (x_var 1).lx (x_var 4)))) (x_var 0)))).ex))

theorem c_far_rest  (C : Ctx K mg) : CalF P w K mg base 3 "far_rest" (sp3 (gam K) (fun _ => kF (gam K)) m_far_rest) := by
  obtain ⟨fd, F⟩ := C.d.def_ 9 rfl
  have S : FnScope ["prime", "divisor", "places", "size", "found", "k", "step", "left"] ["prime", "divisor", "places"] (defScope (top 21)) := ⟨rfl, rfl, rfl, by decide +kernel, rfl, by decide +kernel, by decide +kernel⟩
  have nd := S.nd
  refine calF (ps := ["prime", "divisor", "places"]) F (body3 F S rfl (by decide) fun x_prime x_divisor x_places cdv A outer s H E W0 hr => ?_) (gl_far_rest C) (fun _ _ _ _ _ _ us hl => match us, hl with | [_, _, _], _ => rfl)
  show RX _ _ _ _ _ [(fz x_prime), (fz x_divisor), (fz x_places), .un, .un, .un, .un, .un] (m_far_rest x_prime x_divisor x_places)
  unfold m_far_rest
  exact (r_cons (s_set 3 (x_op op_sub os_sub (x_len (fr_len C) (x_var 1).lx) x_int) nd) fun b1 => (r_ifr (t_cmp op_eq os_eqI (x_var 3) x_int) (r_ret o_nil.ex) (r_cons (s_lc 4 (own := [("k", 5)]) rfl nd (blkOk_by (N := ["prime", "divisor", "places", "size", "found", "k", "step", "left"]) (sc := defScope (top 21)) (by decide +kernel)) (iw_range1 (fr_range C) (x_var 3)).c (fun _ _ _ _ _ => pg1 5 nd) (tg1 5) (fun _ _ _ _ _ x2 => ts_nil) (fun _ _ _ _ _ x2 => (x_intB (fr_int C) (x_cmp op_eq os_eqI (x_var 5) x_int))) rfl) fun b3 => (r_freeze 4 (r_cons (s_par 6 7 (x_call3 (c_shift_rest C) hr (x_var 0).p (x_var 1).p (x_cmp op_lt os_lt (x_var 2) x_int).p) (x_abs (fr_abs C) (x_var 2)) nd) fun b4 => (r_cons (s_while (n := 64) (s0 := (b3, b4.1, b4.2)) (ρL := fun s5 => [(fz x_prime), (fz x_divisor), (fz x_places), (fz b1), (fz s5.1), .un, (fz s5.2.1), (fz s5.2.2)]) (fun s5 => (t_cmp op_gt os_gt (x_var 7) x_int)) (fun s5 => (b_cons (s_if (ρ' := fun s7 => [(fz x_prime), (fz x_divisor), (fz x_places), (fz b1), (fz s7), .un, (fz s5.2.1), (fz s5.2.2)]) (t_cmp op_eq os_eqI (x_op op_mod os_mod (x_var 7) x_int) x_int) (b_cons (s_set 4 (x_call4 (c_product_rest C) hr (x_var 0).p (x_var 1).p (x_var 4).p (x_var 6).p) nd) fun b6 => b_nil) b_nil) fun b8 => (b_cons (s_set 6 (x_call4 (c_product_rest C) hr (x_var 0).p (x_var 1).p (x_var 6).p (x_var 6).p) nd) fun b9 => (b_cons (s_set 7 (x_op op_fdiv os_div (x_var 7) x_int) nd) fun b10 => b_nil)))) PassesOwn.never) fun b11 => (r_ret (x_var 4))))))))

theorem c_is_term  (C : Ctx K mg) : CalF P w K mg base 2 "is_term" (sp1 (gam K) (fun _ => kF (gam K)) m_is_term) := by
  obtain ⟨fd, F⟩ := C.d.def_ 10 rfl
  have S : FnScope ["thing"] ["thing"] (defScope (top 27)) := ⟨rfl, rfl, rfl, by decide +kernel, rfl, by decide +kernel, by decide +kernel⟩
  have nd := S.nd
  refine calF (ps := ["thing"]) F (body1 F S rfl (by decide) fun x_thing cdv A outer s H E W0 hr => ?_) (gl_is_term C) (fun _ _ _ _ _ _ us hl => match us, hl with | [_], _ => rfl)
  show RX _ _ _ _ _ [(fz x_thing)] (m_is_term x_thing)
  unfold m_is_term
  exact (r_ret (x_and4 (x_call1 (c_is_list C) hr (x_var 0).p) (x_cmp op_eq os_eqI (x_lenP (fr_len C) (x_var 0)) x_int) (x_call1 (c_is_integer C) hr (x_fst (x_var 0)).p) (x_call1 (c_is_integer C) hr (x_snd (x_var 0)).p)))

theorem k_Filter (C : Ctx K mg) : MakF P w K mg base 3 "Filter" (He.ga K "Filter") (si2 (gam K) (Rec.c (R := Flt) (gam K)) m_Filter_init) := by
  obtain ⟨fd, F⟩ := C.d.def_ 11 rfl
  have S : FnScope ["self", "prime", "terms", "sums", "index", "term", "offsets", "offset"] ["self", "prime", "terms"] (defScope (met 29 0)) := ⟨rfl, rfl, rfl, by decide +kernel, rfl, by decide +kernel, by decide +kernel⟩
  have nd := S.nd
  refine makFD (ps := ["self", "prime", "terms"]) 3 F (bodyI2 F S rfl (by decide) fun x_prime x_terms cdv A outer s H E W0 PP hr => ?_) (mk_Filter C) (gl_Filter C) (by simp [He5.DefA.dvs]) rfl (fun _ _ _ _ _ _ _ us its hl hi => match us, hl, its, hi with | [_, _, _], _, [_], _ => ⟨_, rfl, rfl⟩)
  show BX _ _ _ _ [.slf PP ((gam K).F) [] [], (fz x_prime), (fz x_terms), .un, .un, .un, .un, .un] (m_Filter_init x_prime x_terms) _
  unfold m_Filter_init
  exact (b_cons (s_if (ρ' := fun _ => [.slf PP ((gam K).F) [] [], (fz x_prime), (fz x_terms), .un, .un, .un, .un, .un]) (t_not (t_val (x_call1 (c_is_prime C) hr (x_var 1).p))) b_never (b_nil (b := ()))) fun b1 => (b_cons (s_if (ρ' := fun _ => [.slf PP ((gam K).F) [] [], (fz x_prime), (fz x_terms), .un, .un, .un, .un, .un]) (t_not (t_val (x_call1 (c_is_list C) hr (x_var 2).p))) b_never (b_nil (b := ()))) fun b2 => (b_cons (s_setD 3 o_dnil nd) fun b3 => (b_cons (s_for (s0 := b3) (ρL := fun s4 => [.slf PP ((gam K).F) [] [], (fz x_prime), (fz x_terms), (.owD s4), .un, .un, .un, .un]) (iw_enum (fr_enumerate C) (x_var 2)) (pg2 4 5 nd) (tg2 4 5) (fun s4 x5 => (b_cons (s_if (ρ' := fun _ => [.slf PP ((gam K).F) [] [], (fz x_prime), (fz x_terms), (.owD s4), (fz x5.1), (fz x5.2), .un, .un]) (t_not (t_val (x_call1 (c_is_term C) hr (x_var 5).p))) b_never (b_nil (b := ()))) fun b6 => (b_cons (s_dput 3 hr (x_op op_mod os_mod (x_op op_add os_add (x_get (u1 hr) (x_ownD 3) (x_fst (x_var 5)) x_int ⟨rfl, rfl, rfl, rfl⟩) (x_snd (x_var 5))) (x_var 1)) (x_fst (x_var 5))) fun b7 => b_nil))) PassesOwn.never) fun b8 => (b_freezeD 3 (b_cons (s_set 6 (o_sorted (fr_sorted C) (o_lock (xs := (Dct.mk b8).kvs) 3 fun _ => (o_lc (own := [("offset", 7)]) rfl nd (blkOk_by (N := ["self", "prime", "terms", "sums", "index", "term", "offsets", "offset"]) (sc := defScope (met 29 0)) (by decide +kernel)) (iw_keys 3) (fun _ _ _ _ _ => pg1 7 nd) (tg1 7) (fun _ _ _ _ _ x10 => ts_nil) (fun _ _ _ _ _ x10 => (x_intI (fr_int C) (x_var 7))))).lx).ex nd) fun b11 => (b_cons (s_fld 0 (cl_Filter C) (na_Filter_prime C) (x_var 1)) fun b12 => (b_cons (s_fld 0 (cl_Filter C) (na_Filter_kept C) (o_lc (own := [("offset", 7)]) rfl nd (blkOk_by (N := ["self", "prime", "terms", "sums", "index", "term", "offsets", "offset"]) (sc := defScope (met 29 0)) (by decide +kernel)) (iw_list (x_var 6)).c (fun _ _ _ _ _ => pg1 7 nd) (tg1 7) (fun _ _ _ _ _ x13 => (ts_one (t_cmp op_gt os_gt (x_dget (u1 hr) (x_var 3).dx (x_var 7)) x_int))) (fun _ _ _ _ _ x13 => (x_pair (x_var 7) (x_dget (u1 hr) (x_var 3).dx (x_var 7))))).ex) fun b14 => (b_cons (s_fld 0 (cl_Filter C) (na_Filter_held C) (o_dictP (fr_dict C) (x_slf 0 1 (cl_Filter C) (na_Filter_kept C)).lx).ex) fun b15 => b_nil)))))))))

theorem c_Filter_getitem (C : Ctx K mg) : MetF P w K mg base 1 (He.ga K "Filter") "__getitem__" (sp2 (gam K) (fun _ => kF (gam K)) m_Filter_getitem) := by
  obtain ⟨fd, F⟩ := C.d.def_ 12 rfl
  have S : FnScope ["self", "offset"] ["self", "offset"] (defScope (met 29 2)) := ⟨rfl, rfl, rfl, by decide +kernel, rfl, by decide +kernel, by decide +kernel⟩
  have nd := S.nd
  refine metF (ps := ["self", "offset"]) F (body2 F S rfl (by decide) fun x_self x_offset cdv A outer s H E W0 hr => ?_) (cl_Filter C) (me_Filter_getitem C) (fun _ _ _ _ _ _ us hl => match us, hl with | [_, _], _ => rfl)
  show RX _ _ _ _ _ [(fz x_self), (fz x_offset)] (m_Filter_getitem x_self x_offset)
  unfold m_Filter_getitem
  exact (r_ret (x_get (u1 hr) (x_fld (fun r : Flt => r.held) 2 (cl_Filter C) (na_Filter_held C) (x_var 0)).dx (x_var 1) x_int ⟨rfl, rfl, rfl, rfl⟩))

theorem c_Filter_bool (C : Ctx K mg) : MetF P w K mg base 1 (He.ga K "Filter") "__bool__" (sp1 (gam K) (fun _ => kF (gam K)) m_Filter_bool) := by
  obtain ⟨fd, F⟩ := C.d.def_ 13 rfl
  have S : FnScope ["self"] ["self"] (defScope (met 29 4)) := ⟨rfl, rfl, rfl, by decide +kernel, rfl, by decide +kernel, by decide +kernel⟩
  have nd := S.nd
  refine metF (ps := ["self"]) F (body1 F S rfl (by decide) fun x_self cdv A outer s H E W0 hr => ?_) (cl_Filter C) (me_Filter_bool C) (fun _ _ _ _ _ _ us hl => match us, hl with | [_], _ => rfl)
  show RX _ _ _ _ _ [(fz x_self)] (m_Filter_bool x_self)
  unfold m_Filter_bool
  exact (r_ret (x_boolL (fr_bool C) (x_fld (fun r : Flt => r.kept) 1 (cl_Filter C) (na_Filter_kept C) (x_var 0)).lx))

theorem c_Filter_eq (C : Ctx K mg) : MetF P w K mg base 1 (He.ga K "Filter") "__eq__" (sp2 (gam K) (fun _ => kF (gam K)) m_Filter_eq) := by
  obtain ⟨fd, F⟩ := C.d.def_ 14 rfl
  have S : FnScope ["self", "other"] ["self", "other"] (defScope (met 29 5)) := ⟨rfl, rfl, rfl, by decide +kernel, rfl, by decide +kernel, by decide +kernel⟩
  have nd := S.nd
  refine metF (ps := ["self", "other"]) F (body2 F S rfl (by decide) fun x_self x_other cdv A outer s H E W0 hr => ?_) (cl_Filter C) (me_Filter_eq C) (fun _ _ _ _ _ _ us hl => match us, hl with | [_, _], _ => rfl)
  show RX _ _ _ _ _ [(fz x_self), (fz x_other)] (m_Filter_eq x_self x_other)
  unfold m_Filter_eq
  exact (r_ret (x_and3 (x_isiC (fr_isinstance C) (gl_Filter C) (isi_rec (ic_Filter C) kit_self) (x_var 1)) (x_cmp op_eq os_eqI (x_fld (fun r : Flt => r.prime) 0 (cl_Filter C) (na_Filter_prime C) (x_var 0)) (x_fld (fun r : Flt => r.prime) 0 (cl_Filter C) (na_Filter_prime C) (x_var 1))) (x_eqL hr (x_fld (fun r : Flt => r.kept) 1 (cl_Filter C) (na_Filter_kept C) (x_var 0)).lx (x_fld (fun r : Flt => r.kept) 1 (cl_Filter C) (na_Filter_kept C) (x_var 1)).lx)))

theorem c_Filter_terms (C : Ctx K mg) : MetF P w K mg base 1 (He.ga K "Filter") "terms" (sp1 (gam K) (fun _ => kF (gam K)) m_Filter_terms) := by
  obtain ⟨fd, F⟩ := C.d.def_ 15 rfl
  have S : FnScope ["self"] ["self"] (defScope (met 29 7)) := ⟨rfl, rfl, rfl, by decide +kernel, rfl, by decide +kernel, by decide +kernel⟩
  have nd := S.nd
  refine metF (ps := ["self"]) F (body1 F S rfl (by decide) fun x_self cdv A outer s H E W0 hr => ?_) (cl_Filter C) (me_Filter_terms C) (fun _ _ _ _ _ _ us hl => match us, hl with | [_], _ => rfl)
  show RX _ _ _ _ _ [(fz x_self)] (m_Filter_terms x_self)
  unfold m_Filter_terms
  exact (r_ret (o_list (fr_list C) (x_fld (fun r : Flt => r.kept) 1 (cl_Filter C) (na_Filter_kept C) (x_var 0)).lx).ex)

theorem c_Filter_low (C : Ctx K mg) : MetF P w K mg base 1 (He.ga K "Filter") "low" (sp1 (gam K) (fun _ => kF (gam K)) m_Filter_low) := by
  obtain ⟨fd, F⟩ := C.d.def_ 16 rfl
  have S : FnScope ["self"] ["self"] (defScope (met 29 8)) := ⟨rfl, rfl, rfl, by decide +kernel, rfl, by decide +kernel, by decide +kernel⟩
  have nd := S.nd
  refine metF (ps := ["self"]) F (body1 F S rfl (by decide) fun x_self cdv A outer s H E W0 hr => ?_) (cl_Filter C) (me_Filter_low C) (fun _ _ _ _ _ _ us hl => match us, hl with | [_], _ => rfl)
  show RX _ _ _ _ _ [(fz x_self)] (m_Filter_low x_self)
  unfold m_Filter_low
  exact (r_ret (x_if (t_truthL (x_fld (fun r : Flt => r.kept) 1 (cl_Filter C) (na_Filter_kept C) (x_var 0)).lx) (x_fst (x_ix (x_fld (fun r : Flt => r.kept) 1 (cl_Filter C) (na_Filter_kept C) (x_var 0)).lx x_int)).opt x_non))

theorem c_Filter_high (C : Ctx K mg) : MetF P w K mg base 1 (He.ga K "Filter") "high" (sp1 (gam K) (fun _ => kF (gam K)) m_Filter_high) := by
  obtain ⟨fd, F⟩ := C.d.def_ 17 rfl
  have S : FnScope ["self"] ["self"] (defScope (met 29 9)) := ⟨rfl, rfl, rfl, by decide +kernel, rfl, by decide +kernel, by decide +kernel⟩
  have nd := S.nd
  refine metF (ps := ["self"]) F (body1 F S rfl (by decide) fun x_self cdv A outer s H E W0 hr => ?_) (cl_Filter C) (me_Filter_high C) (fun _ _ _ _ _ _ us hl => match us, hl with | [_], _ => rfl)
  show RX _ _ _ _ _ [(fz x_self)] (m_Filter_high x_self)
  unfold m_Filter_high
  exact (r_ret (x_if (t_truthL (x_fld (fun r : Flt => r.kept) 1 (cl_Filter C) (na_Filter_kept C) (x_var 0)).lx) (x_fst (x_ix (x_fld (fun r : Flt => r.kept) 1 (cl_Filter C) (na_Filter_kept C) (x_var 0)).lx (x_neg x_int))).opt x_non))

theorem c_Filter_span (C : Ctx K mg) : MetF P w K mg base 1 (He.ga K "Filter") "span" (sp1 (gam K) (fun _ => kF (gam K)) m_Filter_span) := by
  obtain ⟨fd, F⟩ := C.d.def_ 18 rfl
  have S : FnScope ["self"] ["self"] (defScope (met 29 10)) := ⟨rfl, rfl, rfl, by decide +kernel, rfl, by decide +kernel, by decide +kernel⟩
  have nd := S.nd
  refine metF (ps := ["self"]) F (body1 F S rfl (by decide) fun x_self cdv A outer s H E W0 hr => ?_) (cl_Filter C) (me_Filter_span C) (fun _ _ _ _ _ _ us hl => match us, hl with | [_], _ => rfl)
  show RX _ _ _ _ _ [(fz x_self)] (m_Filter_span x_self)
  unfold m_Filter_span
  exact (r_ret (x_if (t_truthL (x_fld (fun r : Flt => r.kept) 1 (cl_Filter C) (na_Filter_kept C) (x_var 0)).lx) (x_op op_sub os_sub (x_fst (x_ix (x_fld (fun r : Flt => r.kept) 1 (cl_Filter C) (na_Filter_kept C) (x_var 0)).lx (x_neg x_int))) (x_fst (x_ix (x_fld (fun r : Flt => r.kept) 1 (cl_Filter C) (na_Filter_kept C) (x_var 0)).lx x_int))).opt x_non))

theorem c_Filter_normal (C : Ctx K mg) : MetF P w K mg base 5 (He.ga K "Filter") "normal" (sp1 (gam K) (fun _ => kF (gam K)) m_Filter_normal) := by
  obtain ⟨fd, F⟩ := C.d.def_ 19 rfl
  have S : FnScope ["self", "low", "scale", "offset", "digit"] ["self"] (defScope (met 29 11)) := ⟨rfl, rfl, rfl, by decide +kernel, rfl, by decide +kernel, by decide +kernel⟩
  have nd := S.nd
  refine metF (ps := ["self"]) F (body1 F S rfl (by decide) fun x_self cdv A outer s H E W0 hr => ?_) (cl_Filter C) (me_Filter_normal C) (fun _ _ _ _ _ _ us hl => match us, hl with | [_], _ => rfl)
  show RX _ _ _ _ _ [(fz x_self), .un, .un, .un, .un] (m_Filter_normal x_self)
  unfold m_Filter_normal
  exact (r_ifr (t_not (t_truthL (x_fld (fun r : Flt => r.kept) 1 (cl_Filter C) (na_Filter_kept C) (x_var 0)).lx)) (r_ret (x_var 0)) (r_cons (s_unp (x_pair (x_fst (x_ix (x_fld (fun r : Flt => r.kept) 1 (cl_Filter C) (na_Filter_kept C) (x_var 0)).lx x_int)) (x_call2 (c_inverse C) hr (x_fld (fun r : Flt => r.prime) 0 (cl_Filter C) (na_Filter_prime C) (x_var 0)).p (x_snd (x_ix (x_fld (fun r : Flt => r.kept) 1 (cl_Filter C) (na_Filter_kept C) (x_var 0)).lx (x_neg x_int))).p)) (pg2 1 2 nd) (tg2 1 2)) fun b1 => (r_ret (x_make2 (k_Filter C) hr (x_fld (fun r : Flt => r.prime) 0 (cl_Filter C) (na_Filter_prime C) (x_var 0)) (o_lc (own := [("digit", 4), ("offset", 3)]) rfl nd (blkOk_by (N := ["self", "low", "scale", "offset", "digit"]) (sc := defScope (met 29 11)) (by decide +kernel)) (iw_list (x_fld (fun r : Flt => r.kept) 1 (cl_Filter C) (na_Filter_kept C) (x_var 0))).c (fun _ _ _ _ _ => pg2 3 4 nd) (tg2 3 4) (fun _ _ _ _ _ x2 => ts_nil) (fun _ _ _ _ _ x2 => (x_pair (x_op op_sub os_sub (x_var 3) (x_var 1)) (x_op op_mul os_mul (x_var 2) (x_var 4))))).ex))))

theorem c_check_primes  (C : Ctx K mg) : CalF P w K mg base 1 "check_primes" (sp2 (gam K) (fun _ => kF (gam K)) m_check_primes) := by
  obtain ⟨fd, F⟩ := C.d.def_ 20 rfl
  have S : FnScope ["one", "other"] ["one", "other"] (defScope (top 22)) := ⟨rfl, rfl, rfl, by decide +kernel, rfl, by decide +kernel, by decide +kernel⟩
  have nd := S.nd
  refine calF (ps := ["one", "other"]) F (bodyU2 F S rfl (by decide) fun x_one x_other cdv A outer s H E W0 hr => ?_) (gl_check_primes C) (fun _ _ _ _ _ _ us hl => match us, hl with | [_, _], _ => rfl)
  show BX _ _ _ _ [(fz x_one), (fz x_other)] (m_check_primes x_one x_other) _
  unfold m_check_primes
  exact (b_cons (s_if (ρ' := fun _ => [(fz x_one), (fz x_other)]) (t_cmp op_ne os_neI (x_fld (fun r : Flt => r.prime) 0 (cl_Filter C) (na_Filter_prime C) (x_var 0)) (x_fld (fun r : Flt => r.prime) 0 (cl_Filter C) (na_Filter_prime C) (x_var 1))) b_never (b_nil (b := ()))) fun b1 => b_nil)

theorem c_divisor_of  (C : Ctx K mg) : CalF P w K mg base 6 "divisor_of" (sp1 (gam K) (fun _ => kF (gam K)) m_divisor_of) := by
  obtain ⟨fd, F⟩ := C.d.def_ 21 rfl
  have S : FnScope ["f", "g", "k"] ["f"] (defScope (top 28)) := ⟨rfl, rfl, rfl, by decide +kernel, rfl, by decide +kernel, by decide +kernel⟩
  have nd := S.nd
  refine calF (ps := ["f"]) F (body1 F S rfl (by decide) fun x_f cdv A outer s H E W0 hr => ?_) (gl_divisor_of C) (fun _ _ _ _ _ _ us hl => match us, hl with | [_], _ => rfl)
  show RX _ _ _ _ _ [(fz x_f), .un, .un] (m_divisor_of x_f)
  unfold m_divisor_of
  exact (r_cons (s_set 1 (x_meth1 (c_Filter_normal C) hr (x_var 0).p) nd) fun b1 => (r_ret (o_lc (own := [("k", 2)]) rfl nd (blkOk_by (N := ["f", "g", "k"]) (sc := defScope (top 28)) (by decide +kernel)) (iw_range1 (fr_range C) (x_op op_add os_add (x_meth1 (c_Filter_span C) hr (x_var 1).p).unopt x_int)).c (fun _ _ _ _ _ => pg1 2 nd) (tg1 2) (fun _ _ _ _ _ x2 => ts_nil) (fun _ _ _ _ _ x2 => (x_ixOwn (c_Filter_getitem C) hr (x_var 1) (x_var 2)))).ex))

theorem c_Filter_mod (C : Ctx K mg) : MetF P w K mg base 7 (He.ga K "Filter") "__mod__" (sp2 (gam K) (fun _ => kF (gam K)) m_Filter_mod) := by
  obtain ⟨fd, F⟩ := C.d.def_ 22 rfl
  have S : FnScope ["self", "other", "divisor", "near", "offset", "digit", "found", "rest", "k", "part"] ["self", "other"] (defScope (met 29 18)) := ⟨rfl, rfl, rfl, by decide +kernel, rfl, by decide +kernel, by decide +kernel⟩
  have nd := S.nd
  refine metF (ps := ["self", "other"]) F (body2 F S rfl (by decide) fun x_self x_other cdv A outer s H E W0 hr => ?_) (cl_Filter C) (me_Filter_mod C) (fun _ _ _ _ _ _ us hl => match us, hl with | [_, _], _ => rfl)
  show RX _ _ _ _ _ [(fz x_self), (fz x_other), .un, .un, .un, .un, .un, .un, .un, .un] (m_Filter_mod x_self x_other)
  unfold m_Filter_mod
  exact (r_ifr (t_not (t_val (x_isiC (fr_isinstance C) (gl_Filter C) (isi_rec (ic_Filter C) kit_self) (x_var 1)))) r_never (r_ifr (t_not (t_own (c_Filter_bool C) hr (x_var 1))) r_never (r_cons (s_expr (x_call2 (c_check_primes C) hr (x_var 0).p (x_var 1).p)) fun b1 => (r_cons (s_set 2 (x_call1 (c_divisor_of C) hr (x_var 1).p) nd) fun b2 => (r_cons (s_lc 3 (own := [("digit", 5), ("offset", 4)]) rfl nd (blkOk_by (N := ["self", "other", "divisor", "near", "offset", "digit", "found", "rest", "k", "part"]) (sc := defScope (met 29 18)) (by decide +kernel)) (iw_list (x_fld (fun r : Flt => r.kept) 1 (cl_Filter C) (na_Filter_kept C) (x_var 0))).c (fun _ _ _ _ _ => pg2 4 5 nd) (tg2 4 5) (fun _ _ _ _ _ x3 => (ts_one (t_cmp op_le os_le (x_abs (fr_abs C) (x_var 4)) (x_gint (gi_NEAR C))))) (fun _ _ _ _ _ x3 => (x_pair (x_var 4) (x_var 5))) rfl) fun b4 => (r_freeze 3 (r_cons (s_set 6 (o_listEnum (fr_list C) (fr_enumerate C) (x_snd (x_call3 (c_divided C) hr (x_fld (fun r : Flt => r.prime) 0 (cl_Filter C) (na_Filter_prime C) (x_var 0)).p (x_var 3).p (x_var 2).p)).lx).ex nd) fun b5 => (r_cons (s_for (s0 := b5) (ρL := fun s6 => [(fz x_self), (fz x_other), (fz b2), (fz b4), .un, .un, (fz s6), .un, .un, .un]) (iw_list (x_fld (fun r : Flt => r.kept) 1 (cl_Filter C) (na_Filter_kept C) (x_var 0))) (pg2 4 5 nd) (tg2 4 5) (fun s6 x7 => (b_cons (s_if (ρ' := fun s12 => [(fz x_self), (fz x_other), (fz b2), (fz b4), (fz x7.1), (fz x7.2), (fz s12), .un, .un, .un]) (t_cmp op_gt os_gt (x_abs (fr_abs C) (x_var 4)) (x_gint (gi_NEAR C))) (b_cons (s_set 7 (x_call3 (c_far_rest C) hr (x_fld (fun r : Flt => r.prime) 0 (cl_Filter C) (na_Filter_prime C) (x_var 0)).p (x_var 2).p (x_var 4).p) nd) fun b8 => (b_cons (s_set 6 (o_cat (x_var 6).lx (o_lc (own := [("part", 9), ("k", 8)]) rfl nd (blkOk_by (N := ["self", "other", "divisor", "near", "offset", "digit", "found", "rest", "k", "part"]) (sc := defScope (met 29 18)) (by decide +kernel)) (iw_enum (fr_enumerate C) (x_var 7)).c (fun _ _ _ _ _ => pg2 8 9 nd) (tg2 8 9) (fun _ _ _ _ _ x10 => ts_nil) (fun _ _ _ _ _ x10 => (x_pair (x_var 8) (x_op op_mul os_mul (x_var 5) (x_var 9))))).lx).ex nd) fun b11 => b_nil)) b_nil) fun b13 => b_nil)) PassesOwn.never) fun b14 => (r_ret (x_make2 (k_Filter C) hr (x_fld (fun r : Flt => r.prime) 0 (cl_Filter C) (na_Filter_prime C) (x_var 0)) (x_var 6)))))))))))

theorem c_Filter_floordiv (C : Ctx K mg) : MetF P w K mg base 7 (He.ga K "Filter") "__floordiv__" (sp2 (gam K) (fun _ => kF (gam K)) m_Filter_floordiv) := by
  obtain ⟨fd, F⟩ := C.d.def_ 23 rfl
  have S : FnScope ["self", "other", "quotient", "low", "scale", "offset", "digit"] ["self", "other"] (defScope (met 29 19)) := ⟨rfl, rfl, rfl, by decide +kernel, rfl, by decide +kernel, by decide +kernel⟩
  have nd := S.nd
  refine metF (ps := ["self", "other"]) F (body2 F S rfl (by decide) fun x_self x_other cdv A outer s H E W0 hr => ?_) (cl_Filter C) (me_Filter_floordiv C) (fun _ _ _ _ _ _ us hl => match us, hl with | [_, _], _ => rfl)
  show RX _ _ _ _ _ [(fz x_self), (fz x_other), .un, .un, .un, .un, .un] (m_Filter_floordiv x_self x_other)
  unfold m_Filter_floordiv
  exact (r_ifr (t_not (t_val (x_isiC (fr_isinstance C) (gl_Filter C) (isi_rec (ic_Filter C) kit_self) (x_var 1)))) r_never (r_ifr (t_not (t_own (c_Filter_bool C) hr (x_var 1))) r_never (r_cons (s_expr (x_call2 (c_check_primes C) hr (x_var 0).p (x_var 1).p)) fun b1 => (r_cons (s_set 2 (x_fst (x_call3 (c_divided C) hr (x_fld (fun r : Flt => r.prime) 0 (cl_Filter C) (na_Filter_prime C) (x_var 0)).p (x_fld (fun r : Flt => r.kept) 1 (cl_Filter C) (na_Filter_kept C) (x_var 0)).p (x_call1 (c_divisor_of C) hr (x_var 1).p).p)) nd) fun b2 => (r_cons (s_unp (x_pair (x_meth1 (c_Filter_low C) hr (x_var 1).p) (x_call2 (c_inverse C) hr (x_fld (fun r : Flt => r.prime) 0 (cl_Filter C) (na_Filter_prime C) (x_var 0)).p (x_ixOwn (c_Filter_getitem C) hr (x_var 1) (x_meth1 (c_Filter_high C) hr (x_var 1).p).unopt).p)) (pg2 3 4 nd) (tg2 3 4)) fun b3 => (r_ret (x_make2 (k_Filter C) hr (x_fld (fun r : Flt => r.prime) 0 (cl_Filter C) (na_Filter_prime C) (x_var 0)) (o_lock (xs := b2.kvs) 2 fun _ => (o_lc (own := [("digit", 6), ("offset", 5)]) rfl nd (blkOk_by (N := ["self", "other", "quotient", "low", "scale", "offset", "digit"]) (sc := defScope (met 29 19)) (by decide +kernel)) (iw_items 2) (fun _ _ _ _ _ => pg2 5 6 nd) (tg2 5 6) (fun _ _ _ _ _ x4 => ts_nil) (fun _ _ _ _ _ x4 => (x_pair (x_op op_sub os_sub (x_var 5) (x_var 3).unopt) (x_op op_mul os_mul (x_var 4) (x_var 6)))))).ex)))))))

theorem c_gcd  (C : Ctx K mg) : CalF P w K mg base 8 "gcd" (sp2 (gam K) (fun _ => kF (gam K)) m_gcd) := by
  obtain ⟨fd, F⟩ := C.d.def_ 24 rfl
  have S : FnScope ["f", "g", "one", "other"] ["f", "g"] (defScope (top 23)) := ⟨rfl, rfl, rfl, by decide +kernel, rfl, by decide +kernel, by decide +kernel⟩
  have nd := S.nd
  refine calF (ps := ["f", "g"]) F (body2 F S rfl (by decide) fun x_f x_g cdv A outer s H E W0 hr => ?_) (gl_gcd C) (fun _ _ _ _ _ _ us hl => match us, hl with | [_, _], _ => rfl)
  show RX _ _ _ _ _ [(fz x_f), (fz x_g), .un, .un] (m_gcd x_f x_g)
  unfold m_gcd
  exact (r_cons (s_expr (x_call2 (c_check_primes C) hr (x_var 0).p (x_var 1).p)) fun b1 => (r_cons (s_par 2 3 (x_meth1 (c_Filter_normal C) hr (x_var 0).p) (x_meth1 (c_Filter_normal C) hr (x_var 1).p) nd) fun b2 => (r_cons (s_while (n := 64) (s0 := (b2.1, b2.2)) (ρL := fun s3 => [(fz x_f), (fz x_g), (fz s3.1), (fz s3.2)]) (fun s3 => (t_own (c_Filter_bool C) hr (x_var 3))) (fun s3 => (b_cons (s_par 2 3 (x_var 3) (x_meth1 (c_Filter_normal C) hr (x_own2 (c_Filter_mod C) (sf_Filter C) hr (x_var 2) (x_var 3)).p) nd) fun b4 => b_nil)) PassesOwn.never) fun b5 => (r_ret (x_var 2)))))

theorem c_least_rule  (C : Ctx K mg) : CalF P w K mg base 9 "least_rule" (sp2 (gam K) (fun _ => kF (gam K)) m_least_rule) := by
  obtain ⟨fd, F⟩ := C.d.def_ 25 rfl
  have S : FnScope ["rule", "digits", "terms", "at", "total", "k"] ["rule", "digits"] (defScope (top 31)) := ⟨rfl, rfl, rfl, by decide +kernel, rfl, by decide +kernel, by decide +kernel⟩
  have nd := S.nd
  refine calF (ps := ["rule", "digits"]) F (body2 F S rfl (by decide) fun x_rule x_digits cdv A outer s H E W0 hr => ?_) (gl_least_rule C) (fun _ _ _ _ _ _ us hl => match us, hl with | [_, _], _ => rfl)
  show RX _ _ _ _ _ [(fz x_rule), (fz x_digits), .un, .un, .un, .un] (m_least_rule x_rule x_digits)
  unfold m_least_rule
  exact (r_cons (s_setO 2 o_nil nd) fun b1 => (r_cons (s_for (s0 := b1) (ρL := fun s2 => [(fz x_rule), (fz x_digits), (.owL s2), .un, .un, .un]) (iw_range1 (fr_range C) (x_meth1 (c_Filter_span C) hr (x_var 0).p).unopt) (pg1 3 nd) (tg1 3) (fun s2 x3 => (b_cons (s_set 4 x_int nd) fun b4 => (b_cons (s_for (s0 := b4) (ρL := fun s5 => [(fz x_rule), (fz x_digits), (.owL s2), (fz x3), (fz s5), .un]) (iw_range2 (fr_range C) (x_op op_add os_add (x_var 3) x_int) (x_op op_add os_add (x_meth1 (c_Filter_span C) hr (x_var 0).p).unopt x_int)) (pg1 5 nd) (tg1 5) (fun s5 x6 => (b_cons (s_set 4 (x_op op_add os_add (x_var 4) (x_op op_mul os_mul (x_ixOwn (c_Filter_getitem C) hr (x_var 0) (x_var 5)) (x_ix (x_var 1).lx (x_op op_sub os_sub (x_op op_sub os_sub (x_var 5) (x_var 3)) x_int)))) nd) fun b7 => b_nil)) PassesOwn.never) fun b8 => (b_cons (s_append 2 (x_pair (x_var 3) (x_var 4))) fun b9 => b_nil)))) PassesOwn.never) fun b10 => (r_freeze 2 (r_ret (x_own2 (c_Filter_floordiv C) (sf_Filter C) hr (x_var 0) (x_call2 (c_gcd C) hr (x_var 0).p (x_make2 (k_Filter C) hr (x_fld (fun r : Flt => r.prime) 0 (cl_Filter C) (na_Filter_prime C) (x_var 0)) (x_var 2)).p))))))

theorem k_Sequence (C : Ctx K mg) : MakF P w K mg base 10 "Sequence" (He.ga K "Sequence") (si2 (gam K) (Rec.c (R := Sqn) (gam K)) m_Sequence_init) := by
  obtain ⟨fd, F⟩ := C.d.def_ 26 rfl
  have S : FnScope ["self", "rule", "digits"] ["self", "rule", "digits"] (defScope (met 32 0)) := ⟨rfl, rfl, rfl, by decide +kernel, rfl, by decide +kernel, by decide +kernel⟩
  have nd := S.nd
  refine makF (ps := ["self", "rule", "digits"]) F (bodyI2 F S rfl (by decide) fun x_rule x_digits cdv A outer s H E W0 PP hr => ?_) (mk_Sequence C) (gl_Sequence C) (fun _ _ _ _ _ _ us hl => match us, hl with | [_, _, _], _ => rfl)
  show BX _ _ _ _ [.slf PP ((gam K).S) [] [], (fz x_rule), (fz x_digits)] (m_Sequence_init x_rule x_digits) _
  unfold m_Sequence_init
  exact (b_cons (s_if (ρ' := fun _ => [.slf PP ((gam K).S) [] [], (fz x_rule), (fz x_digits)]) (t_or (t_not (t_val (x_isiC (fr_isinstance C) (gl_Filter C) (isi_rec (ic_Filter C) kit_self) (x_var 1)))) (t_not (t_own (c_Filter_bool C) hr (x_var 1)))) b_never (b_nil (b := ()))) fun b1 => (b_cons (s_if (ρ' := fun _ => [.slf PP ((gam K).S) [] [], (fz x_rule), (fz x_digits)]) (t_or (t_not (t_val (x_call2 (c_are_digits C) hr (x_fld (fun r : Flt => r.prime) 0 (cl_Filter C) (na_Filter_prime C) (x_var 1)).p ((x_var 2).lt).p))) (t_cmp op_ne os_neI (x_len (fr_len C) (x_var 2).lx) (x_meth1 (c_Filter_span C) hr (x_var 1).p).unopt)) b_never (b_nil (b := ()))) fun b2 => (b_cons (s_fld 0 (cl_Sequence C) (na_Sequence_prime C) (x_fld (fun r : Flt => r.prime) 0 (cl_Filter C) (na_Filter_prime C) (x_var 1))) fun b3 => (b_cons (s_fld 0 (cl_Sequence C) (na_Sequence_ruler C) (x_call2 (c_least_rule C) hr (x_meth1 (c_Filter_normal C) hr (x_var 1).p).p (x_var 2).p)) fun b4 => (b_cons (s_fld 0 (cl_Sequence C) (na_Sequence_front C) (o_cut (o_list (fr_list C) (x_var 2).lx).lx p_none (p_some (x_meth1 (c_Filter_span C) hr (x_slf 0 1 (cl_Sequence C) (na_Sequence_ruler C)).p).unopt)).ex) fun b5 => (b_cons (s_fld 0 (cl_Sequence C) (na_Sequence_divisor C) (x_call1 (c_divisor_of C) hr (x_slf 0 1 (cl_Sequence C) (na_Sequence_ruler C)).p)) fun b6 => b_nil))))))

theorem c_Sequence_led (C : Ctx K mg) : MetF P w K mg base 1 (He.ga K "Sequence") "led" (sp2 (gam K) (fun _ => kF (gam K)) m_Sequence_led) := by
  obtain ⟨fd, F⟩ := C.d.def_ 27 rfl
  have S : FnScope ["self", "rest", "part", "digit"] ["self", "rest"] (defScope (met 32 3)) := ⟨rfl, rfl, rfl, by decide +kernel, rfl, by decide +kernel, by decide +kernel⟩
  have nd := S.nd
  refine metF (ps := ["self", "rest"]) F (body2 F S rfl (by decide) fun x_self x_rest cdv A outer s H E W0 hr => ?_) (cl_Sequence C) (me_Sequence_led C) (fun _ _ _ _ _ _ us hl => match us, hl with | [_, _], _ => rfl)
  show RX _ _ _ _ _ [(fz x_self), (fz x_rest), .un, .un] (m_Sequence_led x_self x_rest)
  unfold m_Sequence_led
  exact (r_ret (x_op op_mod os_mod (x_sum (fr_sum C) (o_lc (own := [("digit", 3), ("part", 2)]) rfl nd (blkOk_by (N := ["self", "rest", "part", "digit"]) (sc := defScope (met 32 3)) (by decide +kernel)) (iw_zip (fr_zip C) (x_var 1) (x_fld (fun r : Sqn => r.front) 2 (cl_Sequence C) (na_Sequence_front C) (x_var 0))).c (fun _ _ _ _ _ => pg2 2 3 nd) (tg2 2 3) (fun _ _ _ _ _ x2 => ts_nil) (fun _ _ _ _ _ x2 => (x_op op_mul os_mul (x_var 2) (x_var 3)))).lx) (x_fld (fun r : Sqn => r.prime) 0 (cl_Sequence C) (na_Sequence_prime C) (x_var 0))))

theorem c_Sequence_rule (C : Ctx K mg) : MetF P w K mg base 1 (He.ga K "Sequence") "rule" (sp1 (gam K) (fun _ => kF (gam K)) m_Sequence_rule) := by
  obtain ⟨fd, F⟩ := C.d.def_ 28 rfl
  have S : FnScope ["self"] ["self"] (defScope (met 32 8)) := ⟨rfl, rfl, rfl, by decide +kernel, rfl, by decide +kernel, by decide +kernel⟩
  have nd := S.nd
  refine metF (ps := ["self"]) F (body1 F S rfl (by decide) fun x_self cdv A outer s H E W0 hr => ?_) (cl_Sequence C) (me_Sequence_rule C) (fun _ _ _ _ _ _ us hl => match us, hl with | [_], _ => rfl)
  show RX _ _ _ _ _ [(fz x_self)] (m_Sequence_rule x_self)
  unfold m_Sequence_rule
  exact (r_ret (x_fld (fun r : Sqn => r.ruler) 1 (cl_Sequence C) (na_Sequence_ruler C) (x_var 0)))

theorem c_Sequence_eq (C : Ctx K mg) : MetF P w K mg base 2 (He.ga K "Sequence") "__eq__" (sp2 (gam K) (fun _ => kF (gam K)) m_Sequence_eq) := by
  obtain ⟨fd, F⟩ := C.d.def_ 29 rfl
  have S : FnScope ["self", "other"] ["self", "other"] (defScope (met 32 7)) := ⟨rfl, rfl, rfl, by decide +kernel, rfl, by decide +kernel, by decide +kernel⟩
  have nd := S.nd
  refine metF (ps := ["self", "other"]) F (body2 F S rfl (by decide) fun x_self x_other cdv A outer s H E W0 hr => ?_) (cl_Sequence C) (me_Sequence_eq C) (fun _ _ _ _ _ _ us hl => match us, hl with | [_, _], _ => rfl)
  show RX _ _ _ _ _ [(fz x_self), (fz x_other)] (m_Sequence_eq x_self x_other)
  unfold m_Sequence_eq
  exact (r_ret (x_and3 (x_isiC (fr_isinstance C) (gl_Sequence C) (isi_rec (ic_Sequence C) kit_self) (x_var 1)) (x_ownEq (c_Filter_eq C) hr (x_fld (fun r : Sqn => r.ruler) 1 (cl_Sequence C) (na_Sequence_ruler C) (x_var 0)) (x_fld (fun r : Sqn => r.ruler) 1 (cl_Sequence C) (na_Sequence_ruler C) (x_var 1))) (x_eqL hr (x_fld (fun r : Sqn => r.front) 2 (cl_Sequence C) (na_Sequence_front C) (x_var 0)).lx (x_fld (fun r : Sqn => r.front) 2 (cl_Sequence C) (na_Sequence_front C) (x_var 1)).lx)))

theorem c_Sequence_digits (C : Ctx K mg) : MetF P w K mg base 4 (He.ga K "Sequence") "digits" (sp3 (gam K) (fun W => kO (gam K) W) m_Sequence_digits) := by
  obtain ⟨fd, F⟩ := C.d.def_ 30 rfl
  have S : FnScope ["self", "start", "count", "found", "size", "rest", "last", "part", "digit"] ["self", "start", "count"] (defScope (met 32 9)) := ⟨rfl, rfl, rfl, by decide +kernel, rfl, by decide +kernel, by decide +kernel⟩
  have nd := S.nd
  refine metF (ps := ["self", "start", "count"]) F (body3 F S rfl (by decide) fun x_self x_start x_count cdv A outer s H E W0 hr => ?_) (cl_Sequence C) (me_Sequence_digits C) (fun _ _ _ _ _ _ us hl => match us, hl with | [_, _, _], _ => rfl)
  show RX _ _ _ _ _ [(fz x_self), (fz x_start), (fz x_count), .un, .un, .un, .un, .un, .un] (m_Sequence_digits x_self x_start x_count)
  unfold m_Sequence_digits
  exact (r_cons (s_setO 3 o_nil nd) fun b1 => (r_cons (s_par 4 5 (x_len (fr_len C) (x_fld (fun r : Sqn => r.front) 2 (cl_Sequence C) (na_Sequence_front C) (x_var 0)).lx) (x_call3 (c_far_rest C) hr (x_fld (fun r : Sqn => r.prime) 0 (cl_Sequence C) (na_Sequence_prime C) (x_var 0)).p (x_fld (fun r : Sqn => r.divisor) 3 (cl_Sequence C) (na_Sequence_divisor C) (x_var 0)).p (x_var 1).p) nd) fun b2 => (r_cons (s_while (n := 64) (s0 := (b2.2, b1)) (ρL := fun s3 => [(fz x_self), (fz x_start), (fz x_count), (.owL s3.2), (fz b2.1), (fz s3.1), .un, .un, .un]) (fun s3 => (t_cmp op_lt os_lt (x_len (fr_len C) (x_own 3)) (x_var 2))) (fun s3 => (b_cons (s_if (ρ' := fun s10 => [(fz x_self), (fz x_start), (fz x_count), (.owL s10.1), (fz b2.1), (fz s10.2), .un, .un, .un]) (t_cmp op_lt os_lt (x_len (fr_len C) (x_own 3)) (x_var 4)) (b_cons (s_append 3 (x_meth2 (c_Sequence_led C) hr (x_var 0).p (x_var 5).p)) fun b4 => (b_cons (s_set 5 (x_call3 (c_moved_rest C) hr (x_fld (fun r : Sqn => r.prime) 0 (cl_Sequence C) (na_Sequence_prime C) (x_var 0)).p (x_fld (fun r : Sqn => r.divisor) 3 (cl_Sequence C) (na_Sequence_divisor C) (x_var 0)).p (x_var 5).p) nd) fun b5 => b_nil)) (b_cons (s_set 6 (o_cut (x_own 3) (p_some (x_op op_sub os_sub (x_len (fr_len C) (x_own 3)) (x_var 4))) p_none).ex nd) fun b6 => (b_cons (s_append 3 (x_op op_mod os_mod (x_op op_sub os_sub x_int (x_sum (fr_sum C) (o_lc (own := [("digit", 8), ("part", 7)]) rfl nd (blkOk_by (N := ["self", "start", "count", "found", "size", "rest", "last", "part", "digit"]) (sc := defScope (met 32 9)) (by decide +kernel)) (iw_zip (fr_zip C) (x_fld (fun r : Sqn => r.divisor) 3 (cl_Sequence C) (na_Sequence_divisor C) (x_var 0)) (x_var 6)).c (fun _ _ _ _ _ => pg2 7 8 nd) (tg2 7 8) (fun _ _ _ _ _ x8 => ts_nil) (fun _ _ _ _ _ x8 => (x_op op_mul os_mul (x_var 7) (x_var 8)))).lx)) (x_fld (fun r : Sqn => r.prime) 0 (cl_Sequence C) (na_Sequence_prime C) (x_var 0)))) fun b9 => b_nil))) fun b11 => b_nil)) PassesOwn.never) fun b12 => (r_retV 3))))

theorem c_less  (C : Ctx K mg) : CalF P w K mg base 1 "less" (sp4 (gam K) (fun _ => kF (gam K)) m_less) := by
  obtain ⟨fd, F⟩ := C.d.def_ 31 rfl
  have S : FnScope ["prime", "one", "other", "digit", "found", "key", "rest"] ["prime", "one", "other", "digit"] (defScope (top 34)) := ⟨rfl, rfl, rfl, by decide +kernel, rfl, by decide +kernel, by decide +kernel⟩
  have nd := S.nd
  refine calF (ps := ["prime", "one", "other", "digit"]) F (body4 F S rfl (by decide) fun x_prime x_one x_other x_digit cdv A outer s H E W0 hr => ?_) (gl_less C) (fun _ _ _ _ _ _ us hl => match us, hl with | [_, _, _, _], _ => rfl)
  show RX _ _ _ _ _ [(fz x_prime), (fz x_one), (fz x_other), (fz x_digit), .un, .un, .un] (m_less x_prime x_one x_other x_digit)
  unfold m_less
  exact (r_cons (s_setD 4 o_dnil nd) fun b1 => (r_cons (s_for (s0 := b1) (ρL := fun s4 => [(fz x_prime), (fz x_one), (fz x_other), (fz x_digit), (.owD s4), .un, .un]) (iw_list (o_lst (a_starD (x_var 1).dx (a_star (o_lock (xs := x_other.kvs) 2 fun _ => (o_lc (own := [("key", 5)]) rfl nd (blkOk_by (N := ["prime", "one", "other", "digit", "found", "key", "rest"]) (sc := defScope (top 34)) (by decide +kernel)) (iw_keys 2) (fun _ _ _ _ _ => pg1 5 nd) (tg1 5) (fun _ _ _ _ _ x3 => (ts_one (t_dnin (u1 hr) (x_var 5) (x_var 1).dx))) (fun _ _ _ _ _ x3 => (x_var 5)))).lx a_nil))).ex) (pg1 5 nd) (tg1 5) (fun s4 x5 => (b_cons (s_set 6 (x_op op_mod os_mod (x_op op_sub os_sub (x_get (u1 hr) (x_var 1).dx (x_var 5) x_int ⟨rfl, rfl, rfl, rfl⟩) (x_op op_mul os_mul (x_var 3) (x_get (u1 hr) (x_var 2).dx (x_var 5) x_int ⟨rfl, rfl, rfl, rfl⟩))) (x_var 0)) nd) fun b6 => (b_cons (s_if (ρ' := fun s8 => [(fz x_prime), (fz x_one), (fz x_other), (fz x_digit), (.owD s8), (fz x5), (fz b6)]) (t_cmp op_gt os_gt (x_var 6) x_int) (b_cons (s_dput 4 hr (x_var 6) (x_var 5)) fun b7 => b_nil) b_nil) fun b9 => b_nil))) PassesOwn.never) fun b10 => (r_freezeD 4 (r_ret (x_var 4)))))

theorem c_cleared  (C : Ctx K mg) : CalF P w K mg base 2 "cleared" (sp4 (gam K) (fun _ => kF (gam K)) m_cleared) := by
  obtain ⟨fd, F⟩ := C.d.def_ 32 rfl
  have S : FnScope ["prime", "vector", "parts", "done", "key", "known", "made", "digit", "one", "other"] ["prime", "vector", "parts", "done"] (defScope (top 35)) := ⟨rfl, rfl, rfl, by decide +kernel, rfl, by decide +kernel, by decide +kernel⟩
  have nd := S.nd
  refine calF (ps := ["prime", "vector", "parts", "done"]) F (body4 F S rfl (by decide) fun x_prime x_vector x_parts x_done cdv A outer s H E W0 hr => ?_) (gl_cleared C) (fun _ _ _ _ _ _ us hl => match us, hl with | [_, _, _, _], _ => rfl)
  show RX _ _ _ _ _ [(fz x_prime), (fz x_vector), (fz x_parts), (.rd x_done.xs), .un, .un, .un, .un, .un, .un] (m_cleared x_prime x_vector x_parts x_done)
  unfold m_cleared
  exact (r_cons (s_for (s0 := (x_vector, x_parts)) (ρL := fun s1 => [(fz x_prime), (fz s1.1), (fz s1.2), (.rd x_done.xs), .un, .un, .un, .un, .un, .un]) (iw_rd 3) (pg3 4 5 6 nd) (tg3 4 5 6) (fun s1 x2 => (b_cons (s_set 7 (x_get (u1 hr) (x_var 1).dx (x_var 4) x_int ⟨rfl, rfl, rfl, rfl⟩) nd) fun b3 => (b_cons (s_if (ρ' := fun s7 => [(fz x_prime), (fz s7.1), (fz s7.2), (.rd x_done.xs), (fz x2.a), (fz x2.b), (fz x2.c), (fz b3), .un, .un]) (t_cmp op_gt os_gt (x_var 7) x_int) (b_cons (s_set 1 (x_call4 (c_less C) hr (x_var 0).p (x_var 1).p (x_var 5).p (x_var 7).p) nd) fun b4 => (b_cons (s_lc 2 (own := [("other", 9), ("one", 8)]) rfl nd (blkOk_by (N := ["prime", "vector", "parts", "done", "key", "known", "made", "digit", "one", "other"]) (sc := defScope (top 35)) (by decide +kernel)) (iw_zip (fr_zip C) (x_var 2) (x_var 6)).c (fun _ _ _ _ _ => pg2 8 9 nd) (tg2 8 9) (fun _ _ _ _ _ x5 => ts_nil) (fun _ _ _ _ _ x5 => (x_op op_mod os_mod (x_op op_sub os_sub (x_var 8) (x_op op_mul os_mul (x_var 7) (x_var 9))) (x_var 0))) rfl) fun b6 => (b_freeze 2 b_nil))) b_nil) fun b8 => b_nil))) PassesOwn.never) fun b9 => (r_ret (x_pair (x_var 1) (x_var 2))))

theorem c_spanned  (C : Ctx K mg) : CalF P w K mg base 3 "spanned" (sp2 (gam K) (fun _ => kF (gam K)) m_spanned) := by
  obtain ⟨fd, F⟩ := C.d.def_ 33 rfl
  have S : FnScope ["prime", "vectors", "done", "left", "places", "at", "vector", "rest", "parts", "k", "key", "one", "scale", "known", "digit", "part"] ["prime", "vectors"] (defScope (top 36)) := ⟨rfl, rfl, rfl, by decide +kernel, rfl, by decide +kernel, by decide +kernel⟩
  have nd := S.nd
  refine calF (ps := ["prime", "vectors"]) F (body2 F S rfl (by decide) fun x_prime x_vectors cdv A outer s H E W0 hr => ?_) (gl_spanned C) (fun _ _ _ _ _ _ us hl => match us, hl with | [_, _], _ => rfl)
  show RX _ _ _ _ _ [(fz x_prime), (fz x_vectors), .un, .un, .un, .un, .un, .un, .un, .un, .un, .un, .un, .un, .un, .un] (m_spanned x_prime x_vectors)
  unfold m_spanned
  exact (r_cons (s_setO 2 o_nil nd) fun b1 => (r_cons (s_setO 3 o_nil nd) fun b2 => (r_cons (s_setO 4 o_nil nd) fun b3 => (r_cons (s_for (s0 := (b2, b1, b3)) (ρL := fun s4 => [(fz x_prime), (fz x_vectors), (.owL s4.2.1), (.owL s4.1), (.owL s4.2.2), .un, .un, .un, .un, .un, .un, .un, .un, .un, .un, .un]) (iw_enum (fr_enumerate C) (x_var 1)) (pg2 5 6 nd) (tg2 5 6) (fun s4 x5 => (b_cons (s_unp (x_call4 (c_cleared C) hr (x_var 0).p (x_var 6).p ((o_lc (own := [("k", 9)]) rfl nd (blkOk_by (N := ["prime", "vectors", "done", "left", "places", "at", "vector", "rest", "parts", "k", "key", "one", "scale", "known", "digit", "part"]) (sc := defScope (top 36)) (by decide +kernel)) (iw_range1 (fr_range C) (x_len (fr_len C) (x_var 1).lx)).c (fun _ _ _ _ _ => pg1 9 nd) (tg1 9) (fun _ _ _ _ _ x6 => ts_nil) (fun _ _ _ _ _ x6 => (x_intB (fr_int C) (x_cmp op_eq os_eqI (x_var 9) (x_var 5))))).ex).p (x_own 2).p) (pg2 7 8 nd) (tg2 7 8)) fun b7 => (b_cons (s_if (ρ' := fun s20 => [(fz x_prime), (fz x_vectors), (.owL s20.2.1), (.owL s20.1), (.owL s20.2.2), (fz x5.1), (fz x5.2), (fz b7.1), (fz b7.2), .un, .un, .un, .un, .un, .un, .un]) (t_dnil hr (x_var 7).dx) (b_cons (s_append 3 (x_var 8)) fun b8 => b_nil) (b_cons (s_set 10 (x_ix (o_lock (xs := b7.1.kvs) 7 fun _ => (o_lc (own := [("one", 11)]) rfl nd (blkOk_by (N := ["prime", "vectors", "done", "left", "places", "at", "vector", "rest", "parts", "k", "key", "one", "scale", "known", "digit", "part"]) (sc := defScope (top 36)) (by decide +kernel)) (iw_keys 7) (fun _ _ _ _ _ => pg1 11 nd) (tg1 11) (fun _ _ _ _ _ x12 => ts_nil) (fun _ _ _ _ _ x12 => (x_var 11)))).lx x_int) nd) fun b13 => (b_cons (s_set 12 (x_call2 (c_inverse C) hr (x_var 0).p (x_dget (u1 hr) (x_var 7).dx (x_var 10)).p) nd) fun b14 => (b_cons (s_dcL (zs := b7.1.kvs) 13 7 (own := [("digit", 14), ("one", 11)]) rfl nd (blkOk_by (N := ["prime", "vectors", "done", "left", "places", "at", "vector", "rest", "parts", "k", "key", "one", "scale", "known", "digit", "part"]) (sc := defScope (top 36)) (by decide +kernel)) (fun _ _ _ _ _ => pg2 11 14 nd) (fun _ => (iw_items 7)) (tg2 11 14) (fun _ _ _ _ _ _ x15 => ts_nil) (fun _ _ _ _ _ _ x15 => (x_var 11)) (fun _ _ _ _ _ _ x15 => (x_op op_mod os_mod (x_op op_mul os_mul (x_var 14) (x_var 12)) (x_var 0))) rfl) fun b16 => (b_freezeD 13 (b_cons (s_append 2 (x_trip (x_var 10) (x_var 13) (o_lc (own := [("part", 15)]) rfl nd (blkOk_by (N := ["prime", "vectors", "done", "left", "places", "at", "vector", "rest", "parts", "k", "key", "one", "scale", "known", "digit", "part"]) (sc := defScope (top 36)) (by decide +kernel)) (iw_list (x_var 8)).c (fun _ _ _ _ _ => pg1 15 nd) (tg1 15) (fun _ _ _ _ _ x17 => ts_nil) (fun _ _ _ _ _ x17 => (x_op op_mod os_mod (x_op op_mul os_mul (x_var 15) (x_var 12)) (x_var 0)))).ex)) fun b18 => (b_cons (s_append 4 (x_var 5)) fun b19 => b_nil))))))) fun b21 => b_nil))) PassesOwn.never) fun b22 => (r_freeze 2 (r_freeze 3 (r_freeze 4 (r_ret (x_trip (x_var 2) (x_var 3) (x_var 4))))))))))

theorem c_fits  (C : Ctx K mg) : CalF P w K mg base 3 "fits" (sp2 (gam K) (fun _ => kF (gam K)) m_fits) := by
  obtain ⟨fd, F⟩ := C.d.def_ 34 rfl
  have S : FnScope ["rule", "digits", "low", "last", "start", "offset", "digit"] ["rule", "digits"] (defScope (top 38)) := ⟨rfl, rfl, rfl, by decide +kernel, rfl, by decide +kernel, by decide +kernel⟩
  have nd := S.nd
  refine calF (ps := ["rule", "digits"]) F (body2 F S rfl (by decide) fun x_rule x_digits cdv A outer s H E W0 hr => ?_) (gl_fits C) (fun _ _ _ _ _ _ us hl => match us, hl with | [_, _], _ => rfl)
  show RX _ _ _ _ _ [(fz x_rule), (fz x_digits), .un, .un, .un, .un, .un] (m_fits x_rule x_digits)
  unfold m_fits
  exact (r_ifr (t_or (t_not (t_val (x_isiC (fr_isinstance C) (gl_Filter C) (isi_rec (ic_Filter C) kit_self) (x_var 0)))) (t_not (t_own (c_Filter_bool C) hr (x_var 0)))) r_never (r_ifr (t_not (t_val (x_call2 (c_are_digits C) hr (x_fld (fun r : Flt => r.prime) 0 (cl_Filter C) (na_Filter_prime C) (x_var 0)).p (x_var 1).p))) r_never (r_cons (s_unp (x_pair (x_meth1 (c_Filter_low C) hr (x_var 0).p) (x_op op_sub os_sub (x_lenLT (fr_len C) (x_var 1)) (x_meth1 (c_Filter_span C) hr (x_var 0).p).unopt)) (pg2 2 3 nd) (tg2 2 3)) fun b1 => (r_forR (s0 := ()) (ρL := fun s2 => [(fz x_rule), (fz x_digits), (fz b1.1), (fz b1.2), .un, .un, .un]) (iw_range1 (fr_range C) (x_max2 (fr_max C) x_int (x_var 3))) (pg1 4 nd) (tg1 4) (fun s2 x3 => (g_ifr (t_cmp op_gt os_gt (x_op op_mod os_mod (x_sum (fr_sum C) (o_lc (own := [("digit", 6), ("offset", 5)]) rfl nd (blkOk_by (N := ["rule", "digits", "low", "last", "start", "offset", "digit"]) (sc := defScope (top 38)) (by decide +kernel)) (iw_list (x_meth1 (c_Filter_terms C) hr (x_var 0).p)).c (fun _ _ _ _ _ => pg2 5 6 nd) (tg2 5 6) (fun _ _ _ _ _ x8 => ts_nil) (fun _ _ _ _ _ x8 => (x_op op_mul os_mul (x_var 6) (x_ixLT (x_var 1) (x_op op_sub os_sub (x_op op_add os_add (x_var 4) (x_var 5)) (x_var 2).unopt))))).lx) (x_fld (fun r : Flt => r.prime) 0 (cl_Filter C) (na_Filter_prime C) (x_var 0))) x_int) (r_ret x_bl) g_nil)) (fun s4 => (r_ret x_bl)) PassesOwn.never))))

theorem c_rules_that_fit  (C : Ctx K mg) : CalF P w K mg base 5 "rules_that_fit" (sp3 (gam K) (fun _ => kF (gam K)) m_rules_that_fit) := by
  obtain ⟨fd, F⟩ := C.d.def_ 35 rfl
  have S : FnScope ["prime", "digits", "span", "count", "columns", "k", "at", "done", "left", "places", "whole", "parts", "scale", "row", "part", "free", "begun", "one", "other", "is_only", "digit"] ["prime", "digits", "span"] (defScope (top 39)) := ⟨rfl, rfl, rfl, by decide +kernel, rfl, by decide +kernel, by decide +kernel⟩
  have nd := S.nd
  refine calF (ps := ["prime", "digits", "span"]) F (body3 F S rfl (by decide) fun x_prime x_digits x_span cdv A outer s H E W0 hr => ?_) (gl_rules_that_fit C) (fun _ _ _ _ _ _ us hl => match us, hl with | [_, _, _], _ => rfl)
  show RX _ _ _ _ _ [(fz x_prime), (fz x_digits), (fz x_span), .un, .un, .un, .un, .un, .un, .un, .un, .un, .un, .un, .un, .un, .un, .un, .un, .un, .un] (m_rules_that_fit x_prime x_digits x_span)
  unfold m_rules_that_fit
  exact (r_ifr (t_cmp op_eq os_eqI (x_var 2) x_int) (r_ret (x_pair (x_if (t_not (t_val (x_anyLT (fr_any C) (x_var 1)))) (x_make2 (k_Filter C) hr (x_var 0) (o_lst (a_cons (x_pair x_int x_int) a_nil)).ex).opt x_non) x_bl)) (r_cons (s_set 3 (x_max2 (fr_max C) x_int (x_op op_sub os_sub (x_lenLT (fr_len C) (x_var 1)) (x_var 2))) nd) fun b1 => (r_cons (s_setO 4 o_nil nd) fun b2 => (r_cons (s_for (s0 := b2) (ρL := fun s3 => [(fz x_prime), (fz x_digits), (fz x_span), (fz b1), (.owL s3), .un, .un, .un, .un, .un, .un, .un, .un, .un, .un, .un, .un, .un, .un, .un, .un]) (iw_range1 (fr_range C) (x_op op_add os_add (x_var 2) x_int)) (pg1 5 nd) (tg1 5) (fun s3 x4 => (b_cons (s_append 4 (od_dc (own := [("at", 6)]) rfl nd (blkOk_by (N := ["prime", "digits", "span", "count", "columns", "k", "at", "done", "left", "places", "whole", "parts", "scale", "row", "part", "free", "begun", "one", "other", "is_only", "digit"]) (sc := defScope (top 39)) (by decide +kernel)) (fun _ _ _ _ _ => pg1 6 nd) (iw_range1 (fr_range C) (x_var 3)).c (tg1 6) (fun _ _ _ _ _ x5 => (ts_one (t_cmp op_gt os_gt (x_ixLT (x_var 1) (x_op op_add os_add (x_var 6) (x_var 5))) x_int))) (fun _ _ _ _ _ x5 => (x_var 6)) (fun _ _ _ _ _ x5 => (x_ixLT (x_var 1) (x_op op_add os_add (x_var 6) (x_var 5))))).ex) fun b6 => b_nil)) PassesOwn.never) fun b7 => (r_freeze 4 (r_cons (s_unp (x_call2 (c_spanned C) hr (x_var 0).p (x_var 4).p) (pg3 7 8 9 nd) (tg3 7 8 9)) fun b8 => (r_cons (s_lc 10 (own := [("parts", 11)]) rfl nd (blkOk_by (N := ["prime", "digits", "span", "count", "columns", "k", "at", "done", "left", "places", "whole", "parts", "scale", "row", "part", "free", "begun", "one", "other", "is_only", "digit"]) (sc := defScope (top 39)) (by decide +kernel)) (iw_list (x_var 8)).c (fun _ _ _ _ _ => pg1 11 nd) (tg1 11) (fun _ _ _ _ _ x9 => (ts_one (t_cmp op_gt os_gt (x_ix (x_var 11).lx (x_var 2)) x_int))) (fun _ _ _ _ _ x9 => (x_var 11)) rfl) fun b10 => (r_freeze 10 (r_ifr (t_eqL hr (x_var 10).lx o_nil.lx) (r_ret (x_pair x_non x_bl)) (r_cons (s_set 12 (x_call2 (c_inverse C) hr (x_var 0).p (x_ix (x_ix (x_var 10).lx x_int).lx (x_var 2)).p) nd) fun b11 => (r_cons (s_lc 13 (own := [("part", 14)]) rfl nd (blkOk_by (N := ["prime", "digits", "span", "count", "columns", "k", "at", "done", "left", "places", "whole", "parts", "scale", "row", "part", "free", "begun", "one", "other", "is_only", "digit"]) (sc := defScope (top 39)) (by decide +kernel)) (iw_list (x_ix (x_var 10).lx x_int)).c (fun _ _ _ _ _ => pg1 14 nd) (tg1 14) (fun _ _ _ _ _ x12 => ts_nil) (fun _ _ _ _ _ x12 => (x_op op_mod os_mod (x_op op_mul os_mul (x_var 12) (x_var 14)) (x_var 0))) rfl) fun b13 => (r_freeze 13 (r_cons (s_lc 15 (own := [("parts", 11)]) rfl nd (blkOk_by (N := ["prime", "digits", "span", "count", "columns", "k", "at", "done", "left", "places", "whole", "parts", "scale", "row", "part", "free", "begun", "one", "other", "is_only", "digit"]) (sc := defScope (top 39)) (by decide +kernel)) (iw_list (x_var 8)).c (fun _ _ _ _ _ => pg1 11 nd) (tg1 11) (fun _ _ _ _ _ x14 => (ts_one (t_cmp op_eq os_eqI (x_ix (x_var 11).lx (x_var 2)) x_int))) (fun _ _ _ _ _ x14 => (x_var 11)) rfl) fun b15 => (r_freeze 15 (r_cons (s_lc 16 (own := [("parts", 11)]) rfl nd (blkOk_by (N := ["prime", "digits", "span", "count", "columns", "k", "at", "done", "left", "places", "whole", "parts", "scale", "row", "part", "free", "begun", "one", "other", "is_only", "digit"]) (sc := defScope (top 39)) (by decide +kernel)) (iw_list (x_var 15)).c (fun _ _ _ _ _ => pg1 11 nd) (tg1 11) (fun _ _ _ _ _ x16 => (ts_one (t_cmp op_gt os_gt (x_ix (x_var 11).lx x_int) x_int))) (fun _ _ _ _ _ x16 => (x_var 11)) rfl) fun b17 => (r_freeze 16 (r_ifr (t_and (t_cmp op_eq os_eqI (x_ix (x_var 13).lx x_int) x_int) (t_eqL hr (x_var 16).lx o_nil.lx)) (r_ret (x_pair x_non x_bl)) (r_cons (s_if (ρ' := fun s20 => [(fz x_prime), (fz x_digits), (fz x_span), (fz b1), (fz b7), .un, .un, (fz b8.a), (fz b8.b), (fz b8.c), (fz b10), .un, (fz b11), (fz s20), .un, (fz b15), (fz b17), .un, .un, .un, .un]) (t_cmp op_eq os_eqI (x_ix (x_var 13).lx x_int) x_int) (b_cons (s_lc 13 (own := [("other", 18), ("one", 17)]) rfl nd (blkOk_by (N := ["prime", "digits", "span", "count", "columns", "k", "at", "done", "left", "places", "whole", "parts", "scale", "row", "part", "free", "begun", "one", "other", "is_only", "digit"]) (sc := defScope (top 39)) (by decide +kernel)) (iw_zip (fr_zip C) (x_var 13) (x_ix (x_var 16).lx x_int)).c (fun _ _ _ _ _ => pg2 17 18 nd) (tg2 17 18) (fun _ _ _ _ _ x18 => ts_nil) (fun _ _ _ _ _ x18 => (x_op op_mod os_mod (x_op op_add os_add (x_var 17) (x_var 18)) (x_var 0))) rfl) fun b19 => (b_freeze 13 b_nil)) b_nil) fun b21 => (r_cons (s_set 19 (x_or (x_eqL hr (x_var 15).lx o_nil.lx) (x_and3 (x_cmp op_eq os_eqI (x_var 0) x_int) (x_cmp op_eq os_eqI (x_len (fr_len C) (x_var 15).lx) x_int) (x_neL hr (x_var 16).lx o_nil.lx))) nd) fun b22 => (r_ret (x_pair (x_make2 (k_Filter C) hr (x_var 0) (o_lc (own := [("digit", 20), ("k", 5)]) rfl nd (blkOk_by (N := ["prime", "digits", "span", "count", "columns", "k", "at", "done", "left", "places", "whole", "parts", "scale", "row", "part", "free", "begun", "one", "other", "is_only", "digit"]) (sc := defScope (top 39)) (by decide +kernel)) (iw_enum (fr_enumerate C) (x_var 13)).c (fun _ _ _ _ _ => pg2 5 20 nd) (tg2 5 20) (fun _ _ _ _ _ x23 => ts_nil) (fun _ _ _ _ _ x23 => (x_pair (x_var 5) (x_var 20)))).ex).opt (x_var 19))))))))))))))))))))))

theorem c_guessed  (C : Ctx K mg) : CalF P w K mg base 12 "guessed" (sp2 (gam K) (fun _ => kF (gam K)) m_guessed) := by
  obtain ⟨fd, F⟩ := C.d.def_ 36 rfl
  have S : FnScope ["prime", "digits", "span", "found", "is_only"] ["prime", "digits"] (defScope (top 40)) := ⟨rfl, rfl, rfl, by decide +kernel, rfl, by decide +kernel, by decide +kernel⟩
  have nd := S.nd
  refine calF (ps := ["prime", "digits"]) F (body2 F S rfl (by decide) fun x_prime x_digits cdv A outer s H E W0 hr => ?_) (gl_guessed C) (fun _ _ _ _ _ _ us hl => match us, hl with | [_, _], _ => rfl)
  show RX _ _ _ _ _ [(fz x_prime), (fz x_digits), .un, .un, .un] (m_guessed x_prime x_digits)
  unfold m_guessed
  exact (r_ifr (t_not (t_val (x_call1 (c_is_prime C) hr (x_var 0).p))) r_never (r_ifr (t_not (t_val (x_call2 (c_are_digits C) hr (x_var 0).p (x_var 1).p))) r_never (r_cons (s_unp (x_pair x_int x_non) (pg2 2 3 nd) (tg2 2 3)) fun b1 => (r_cons (s_whileP (n := 64) (ρL := fun s4 => [(fz x_prime), (fz x_digits), (fz s4.2.2), (fz s4.1), (fz s4.2.1)]) (t_cmp op_isN os_isN (x_var 3) x_unit) (b_cons (s_unp (x_call3 (c_rules_that_fit C) hr (x_var 0).p (x_var 1).p (x_var 2).p) (pg2 3 4 nd) (tg2 3 4)) fun b2 => (b_cons (s_aug 2 ip_add x_int nd) fun b3 => b_nil)) (fun s4 => (t_cmp op_isN os_isN (x_var 3) x_unit)) (fun s4 => (b_cons (s_unp (x_call3 (c_rules_that_fit C) hr (x_var 0).p (x_var 1).p (x_var 2).p) (pg2 3 4 nd) (tg2 3 4)) fun b5 => (b_cons (s_aug 2 ip_add x_int nd) fun b6 => b_nil))) PassesOwn.never) fun b7 => (r_ret (x_pair (x_make2 (k_Sequence C) hr (x_var 3).unopt (o_cut (o_listLT (fr_list C) (x_var 1)).lx p_none (p_some (x_meth1 (c_Filter_span C) hr (x_var 3).unopt.p).unopt)).ex) (x_var 4)))))))

theorem c_Sequence_zero (C : Ctx K mg) : CmF P w K mg base 12 "Sequence" (He.ga K "Sequence") "zero" (sc1 (gam K) (He.ga K "Sequence") (fun _ => kF (gam K)) m_Sequence_zero) := by
  obtain ⟨fd, F⟩ := C.d.def_ 37 rfl
  have S : FnScope ["cls", "prime"] ["cls", "prime"] (defScope (met 32 1)) := ⟨rfl, rfl, rfl, by decide +kernel, rfl, by decide +kernel, by decide +kernel⟩
  have nd := S.nd
  refine cmF (ps := ["cls", "prime"]) F (bodyC1 F S rfl (by decide) fun x_prime cdv A outer s H E W0 hr => ?_) (cr_Sequence C) (cm_Sequence_zero C) (gl_Sequence C) (fun _ _ _ _ _ _ us hl => match us, hl with | [_, _], _ => rfl)
  show RX _ _ _ _ _ [fz (Ptr.mk (Rec.c (R := Sqn) (gam K))), fz x_prime] (m_Sequence_zero x_prime)
  unfold m_Sequence_zero
  exact r_ret (x_makeL2 0 (k_Sequence C) hr (x_make2 (k_Filter C) hr (x_var 1) (o_lst (a_cons (x_pair x_int x_int) a_nil)).ex) o_nil.ex)
end
end W82
end
section
set_option Elab.async false
set_option linter.all false
set_option maxRecDepth 100000
set_option maxHeartbeats 4000000
namespace W82
open PySem PySem.Spec PyProof.Rows L2 SR
section
variable {P : Program} {w : World} {K : PySem.W.Frag} {mg : Str → Option Value} {base : Heap}

theorem c__law_all_rows (C : Ctx K mg) : ∀ k, CalF P w K mg base (k + 1) "_law_all_rows" (sp2 (gam K) (fun _ => kF (gam K)) (m__law_all_rows k)) := by
  obtain ⟨fd, F⟩ := C.d.def_ 38 rfl
  have S : FnScope ["p", "many", "found", "row", "digit"] ["p", "many"] (defScope (top 45)) := ⟨rfl, rfl, rfl, by decide +kernel, rfl, by decide +kernel, by decide +kernel⟩
  have nd := S.nd
  intro k
  induction k with
  | zero => exact calF (ps := ["p", "many"]) F (body2 F S rfl (by decide) fun x_p x_many cdv A outer s H E W0 hr => ⟨fun _ h => by simp [m__law_all_rows] at h⟩) (gl__law_all_rows C) (fun _ _ _ _ _ _ us hl => match us, hl with | [_, _], _ => rfl)
  | succ k ih =>
    refine calF (ps := ["p", "many"]) F (body2 F S rfl (by decide) fun x_p x_many cdv A outer s H E W0 hr => ?_) (gl__law_all_rows C) (fun _ _ _ _ _ _ us hl => match us, hl with | [_, _], _ => rfl)
    show RX _ _ _ _ _ [(fz x_p), (fz x_many), .un, .un, .un] (m__law_all_rows (k + 1) x_p x_many)
    rw [m__law_all_rows]
    exact (r_ifr (t_cmp op_eq os_eqI (x_var 1) x_int) (r_ret (o_lst (a_cons o_nil.ex a_nil)).ex) (r_cons (s_setO 2 o_nil nd) fun b1 => (r_cons (s_for (s0 := b1) (ρL := fun s2 => [(fz x_p), (fz x_many), (.owL s2), .un, .un]) (iw_list (x_call2 ih hr (x_var 0).p (x_op op_sub os_sub (x_var 1) x_int).p (hk := Nat.le_refl _))) (pg1 3 nd) (tg1 3) (fun s2 x3 => (b_cons (s_extend 2 (o_lc (own := [("digit", 4)]) rfl nd (blkOk_by (N := ["p", "many", "found", "row", "digit"]) (sc := defScope (top 45)) (by decide +kernel)) (iw_range1 (fr_range C) (x_var 0)).c (fun _ _ _ _ _ => pg1 4 nd) (tg1 4) (fun _ _ _ _ _ x4 => ts_nil) (fun _ _ _ _ _ x4 => (o_cat (x_var 3).lx (o_lst (a_cons (x_var 4) a_nil)).lx).ex)).lx) fun b5 => b_nil)) PassesOwn.never) fun b6 => (r_freeze 2 (r_ret (x_var 2))))))

theorem c__law_fits  (C : Ctx K mg) : CalF P w K mg base 1 "_law_fits" (sp3 (gam K) (fun _ => kF (gam K)) m__law_fits) := by
  obtain ⟨fd, F⟩ := C.d.def_ 39 rfl
  have S : FnScope ["p", "row", "digits", "start", "k", "part"] ["p", "row", "digits"] (defScope (top 46)) := ⟨rfl, rfl, rfl, by decide +kernel, rfl, by decide +kernel, by decide +kernel⟩
  have nd := S.nd
  refine calF (ps := ["p", "row", "digits"]) F (body3 F S rfl (by decide) fun x_p x_row x_digits cdv A outer s H E W0 hr => ?_) (gl__law_fits C) (fun _ _ _ _ _ _ us hl => match us, hl with | [_, _, _], _ => rfl)
  show RX _ _ _ _ _ [(fz x_p), (fz x_row), (fz x_digits), .un, .un, .un] (m__law_fits x_p x_row x_digits)
  unfold m__law_fits
  exact (r_forR (s0 := ()) (ρL := fun s1 => [(fz x_p), (fz x_row), (fz x_digits), .un, .un, .un]) (iw_range1 (fr_range C) (x_op op_add os_add (x_op op_sub os_sub (x_len (fr_len C) (x_var 2).lx) (x_len (fr_len C) (x_var 1).lx)) x_int)) (pg1 3 nd) (tg1 3) (fun s1 x2 => (g_ifr (t_cmp op_ne os_neI (x_op op_mod os_mod (x_sum (fr_sum C) (o_lc (own := [("part", 5), ("k", 4)]) rfl nd (blkOk_by (N := ["p", "row", "digits", "start", "k", "part"]) (sc := defScope (top 46)) (by decide +kernel)) (iw_enum (fr_enumerate C) (x_var 1)).c (fun _ _ _ _ _ => pg2 4 5 nd) (tg2 4 5) (fun _ _ _ _ _ x7 => ts_nil) (fun _ _ _ _ _ x7 => (x_op op_mul os_mul (x_var 5) (x_ix (x_var 2).lx (x_op op_add os_add (x_var 3) (x_var 4)))))).lx) (x_var 0)) x_int) (r_ret x_bl) g_nil)) (fun s3 => (r_ret x_bl)) PassesOwn.never)

theorem c__law_rules  (C : Ctx K mg) : CalF P w K mg base 10 "_law_rules" (sp3 (gam K) (fun _ => kF (gam K)) m__law_rules) := by
  obtain ⟨fd, F⟩ := C.d.def_ 40 rfl
  have S : FnScope ["p", "digits", "span", "found", "first", "row"] ["p", "digits", "span"] (defScope (top 47)) := ⟨rfl, rfl, rfl, by decide +kernel, rfl, by decide +kernel, by decide +kernel⟩
  have nd := S.nd
  refine calF (ps := ["p", "digits", "span"]) F (body3 F S rfl (by decide) fun x_p x_digits x_span cdv A outer s H E W0 hr => ?_) (gl__law_rules C) (fun _ _ _ _ _ _ us hl => match us, hl with | [_, _, _], _ => rfl)
  show RX _ _ _ _ _ [(fz x_p), (fz x_digits), (fz x_span), .un, .un, .un] (m__law_rules x_p x_digits x_span)
  unfold m__law_rules
  exact (r_ifr (t_cmp op_eq os_eqI (x_var 2) x_int) (r_ret (x_if (t_not (t_val (x_anyI (fr_any C) (x_var 1).lx))) (o_lst (a_cons (o_lst (a_cons x_int a_nil)).ex a_nil)).ex o_nil.ex)) (r_cons (s_setO 3 o_nil nd) fun b1 => (r_cons (s_for (s0 := b1) (ρL := fun s2 => [(fz x_p), (fz x_digits), (fz x_span), (.owL s2), .un, .un]) (iw_range2 (fr_range C) x_int (x_var 0)) (pg1 4 nd) (tg1 4) (fun s2 x3 => (b_cons (s_extend 3 (o_lc (own := [("row", 5)]) rfl nd (blkOk_by (N := ["p", "digits", "span", "found", "first", "row"]) (sc := defScope (top 47)) (by decide +kernel)) (iw_list (x_call2 (c__law_all_rows C 8) hr (x_var 0).p (x_op op_sub os_sub (x_var 2) x_int).p)).c (fun _ _ _ _ _ => pg1 5 nd) (tg1 5) (fun _ _ _ _ _ x4 => ts_nil) (fun _ _ _ _ _ x4 => (o_cat (o_cat (o_lst (a_cons (x_var 4) a_nil)).lx (x_var 5).lx).lx (o_lst (a_cons x_int a_nil)).lx).ex)).lx) fun b5 => b_nil)) PassesOwn.never) fun b6 => (r_freeze 3 (r_ret (o_lc (own := [("row", 5)]) rfl nd (blkOk_by (N := ["p", "digits", "span", "found", "first", "row"]) (sc := defScope (top 47)) (by decide +kernel)) (iw_list (x_var 3)).c (fun _ _ _ _ _ => pg1 5 nd) (tg1 5) (fun _ _ _ _ _ x7 => (ts_one (t_val (x_call3 (c__law_fits C) hr (x_var 0).p (x_var 5).p (x_var 1).p)))) (fun _ _ _ _ _ x7 => (x_var 5))).ex)))))

theorem c__law_shortest  (C : Ctx K mg) : CalF P w K mg base 11 "_law_shortest" (sp2 (gam K) (fun _ => kF (gam K)) m__law_shortest) := by
  obtain ⟨fd, F⟩ := C.d.def_ 41 rfl
  have S : FnScope ["p", "digits", "span", "found"] ["p", "digits"] (defScope (top 48)) := ⟨rfl, rfl, rfl, by decide +kernel, rfl, by decide +kernel, by decide +kernel⟩
  have nd := S.nd
  refine calF (ps := ["p", "digits"]) F (body2 F S rfl (by decide) fun x_p x_digits cdv A outer s H E W0 hr => ?_) (gl__law_shortest C) (fun _ _ _ _ _ _ us hl => match us, hl with | [_, _], _ => rfl)
  show RX _ _ _ _ _ [(fz x_p), (fz x_digits), .un, .un] (m__law_shortest x_p x_digits)
  unfold m__law_shortest
  exact (r_forR (s0 := ()) (ρL := fun s1 => [(fz x_p), (fz x_digits), .un, .un]) (iw_range1 (fr_range C) (x_op op_add os_add (x_len (fr_len C) (x_var 1).lx) x_int)) (pg1 2 nd) (tg1 2) (fun s1 x2 => (g_cons (s_set 3 (x_call3 (c__law_rules C) hr (x_var 0).p (x_var 1).p (x_var 2).p) nd) fun b4 => (g_ifr (t_neL hr (x_var 3).lx o_nil.lx) (r_ret (x_var 3)) g_nil))) (fun s3 => (r_ret o_nil.ex)) PassesOwn.never)
end
end W82
end
section
set_option Elab.async false
set_option linter.all false
set_option maxRecDepth 100000
set_option maxHeartbeats 4000000
namespace W82
open PySem PySem.Spec PyProof.Rows L2 SR
section
variable {P : Program} {w : World} {K : PySem.W.Frag} {mg : Str → Option Value} {base : Heap}

theorem pow18 : powI 10 18 = some 1000000000000000000 := by decide +kernel
theorem c__law_box (C : Ctx K mg) : CalF P w K mg base 1 "_law_box" (sbox K) := by
  obtain ⟨fd, F⟩ := C.d.def_ 42 rfl
  have S : FnScope ["script", "cell"] ["script"] (defScope (top 42)) := ⟨rfl, rfl, rfl, by decide +kernel, rfl, by decide +kernel, by decide +kernel⟩
  have nd := S.nd
  refine calF (ps := ["script"]) F (bodyBox (Γ := gam K) (T1 := fun x => decide (1000000000000000000 ≤ x)) (T2 := fun x => decide (x < 1000000000000000000)) F S rfl (by decide) (fun x h => by have := of_decide_eq_true h; omega) fun a xs cdv A outer s H E W0 hx hS hr => ?_) (gl__law_box C) (fun _ _ _ _ _ _ us hl => match us, hl with | [_], _ => rfl)
  constructor
  · rw [← lcM_ok (T := fun x => decide ((1000000000000000000 : Int) ≤ x)) (t := fun x => SR.M2 geI (some x) (SR.M2 powI (some (10 : Int)) (some (18 : Int)))) (f := fun x => some x) (fun x => by simp only [SR.M2, Option.bind_some, pow18]; rfl) (fun _ => rfl) hx]
    exact (o_lc (own := [("cell", 1)]) rfl nd (blkOk_by (N := ["script", "cell"]) (sc := defScope (top 42)) (by decide +kernel)) (iw_scr 0 hS).c (fun _ _ _ _ _ => pg1 1 nd) (tg1 1) (fun _ _ _ _ _ x => (ts_one (t_cmp op_ge os_ge (x_var 1) (x_op op_pow os_pow x_int x_int)))) (fun _ _ _ _ _ x => (x_var 1)))
  · rw [← lcM_ok (T := fun x => decide (x < (1000000000000000000 : Int))) (t := fun x => SR.M2 ltI (some x) (SR.M2 powI (some (10 : Int)) (some (18 : Int)))) (f := fun x => some x) (fun x => by simp only [SR.M2, Option.bind_some, pow18]; rfl) (fun _ => rfl) hx]
    exact (o_lc (own := [("cell", 1)]) rfl nd (blkOk_by (N := ["script", "cell"]) (sc := defScope (top 42)) (by decide +kernel)) (iw_scr 0 hS).c (fun _ _ _ _ _ => pg1 1 nd) (tg1 1) (fun _ _ _ _ _ x => (ts_one (t_cmp op_lt os_lt (x_var 1) (x_op op_pow os_pow x_int x_int)))) (fun _ _ _ _ _ x => (x_var 1)))

theorem c__law_take (C : Ctx K mg) : CalF P w K mg base 1 "_law_take" (sn1 (gam K) (fun _ => kF (gam K)) draw) := by
  obtain ⟨fd, F⟩ := C.d.def_ 43 rfl
  have S : FnScope ["box", "size", "digit", "cell", "whole", "mixed"] ["box", "size"] (defScope (top 43)) := ⟨rfl, rfl, rfl, by decide +kernel, rfl, by decide +kernel, by decide +kernel⟩
  have nd := S.nd
  refine calF (ps := ["box", "size"]) F (bodyN1 F S rfl (by decide) fun x_size cdv A outer s H E W0 B hr => NRX.to ?_ (take_ok x_size)) (gl__law_take C) (fun _ _ _ _ _ _ us hl => match us, hl with | [_, _], _ => rfl)
  show NRX _ _ _ _ _ _ [(fz (Ptr.mk B.b)), (fz x_size), .un, .un, .un, .un] (m__law_take x_size)
  unfold m__law_take
  exact (nr_cons (ns3 0 (n_op op_add os_add (nb3 0) x_int.n)) fun _ => (nr_cons (nspop 0 (fr_len C)) fun _ => (nr_ifr (nt_cmp op_gt os_gt (nb1 0) x_int.n)
    (nr_cons (n_set 2 (n_op op_mod os_mod (n_intI (fr_int C) (nb1 0)) (x_var 1).n) nd) fun b => (nr_cons (ns1 0 (n_op op_fdiv os_div (nb1 0) (x_var 1).n)) fun _ => (nr_ret (x_var 2).n)))
    (nr_cons (n_set 3 (nbcell 0 hr (fr_len C) (fr_int C)) nd) fun cell => (nr_cons (n_set 4 (n_op op_add os_add (n_op op_mod os_mod (n_intI (fr_int C) (x_var 3).n) x_int.n) (n_op op_mul os_mul (n_op op_mul os_mul x_int.n (nb3 0)) (nb3 0))) nd) fun whole =>
      (nr_cons (n_set 5 (n_op op_mod os_mod (n_op op_pow os_pow (n_intI (fr_int C) (n_op op_add os_add (n_op op_add os_add (x_var 4).n (n_op op_mul os_mul x_int.n (nb3 0))) x_int.n)) x_int.n) x_int.n) nd) fun mixed =>
        (nr_ret (n_op op_mod os_mod (n_op op_fdiv os_div (n_op op_mod os_mod (n_intI (fr_int C) (n_op op_add os_add (n_op op_mul os_mul (x_var 5).n x_int.n) (n_op op_mul os_mul x_int.n (nb3 0)))) x_int.n) x_int.n) (x_var 1).n))))))))


theorem c__law_pick (C : Ctx K mg) : CalF P w K mg base 2 "_law_pick" (sn1 (gam K) (fun _ => kF (gam K)) m__law_pick) := by
  obtain ⟨fd, F⟩ := C.d.def_ 44 rfl
  have S : FnScope ["box", "things"] ["box", "things"] (defScope (top 44)) := ⟨rfl, rfl, rfl, by decide +kernel, rfl, by decide +kernel, by decide +kernel⟩
  have nd := S.nd
  refine calF (ps := ["box", "things"]) F (bodyN1 F S rfl (by decide) fun x_things cdv A outer s H E W0 B hr => ?_) (gl__law_pick C) (fun _ _ _ _ _ _ us hl => match us, hl with | [_, _], _ => rfl)
  show NRX _ _ _ _ _ _ [(fz (Ptr.mk B.b)), (fz x_things)] (m__law_pick x_things)
  unfold m__law_pick
  exact (nr_ret (n_ix (x_var 1).n (n_box1 (c__law_take C) hr (x_var 0) (x_len (fr_len C) (x_var 1).lx).n)))

theorem c__law_some_digits (C : Ctx K mg) : CalF P w K mg base 12 "_law_some_digits" (sn1 (gam K) (fun _ => kF (gam K)) m__law_some_digits) := by
  obtain ⟨fd, F⟩ := C.d.def_ 45 rfl
  have S : FnScope ["s", "p", "many", "way", "k", "span", "rule", "found", "at"] ["s", "p"] (defScope (top 49)) := ⟨rfl, rfl, rfl, by decide +kernel, rfl, by decide +kernel, by decide +kernel⟩
  have nd := S.nd
  refine calF (ps := ["s", "p"]) F (bodyN1 F S rfl (by decide) fun x_p cdv A outer s H E W0 B hr => ?_) (gl__law_some_digits C) (fun _ _ _ _ _ _ us hl => match us, hl with | [_, _], _ => rfl)
  show NRX _ _ _ _ _ _ [(fz (Ptr.mk B.b)), (fz x_p), .un, .un, .un, .un, .un, .un, .un] (m__law_some_digits x_p)
  unfold m__law_some_digits
  exact (nr_cons (n_par 2 3 (n_box1 (c__law_take C) hr (x_var 0) (x_if (t_cmp op_eq os_eqI (x_var 1) x_int) x_int x_int).n) (n_box1 (c__law_take C) hr (x_var 0) x_int.n) nd) fun b1 => (nr_ifr (t_cmp op_eq os_eqI (x_var 3) x_int).n (nr_ret (no_lc (own := [("k", 4)]) rfl nd (blkOk_by (N := ["s", "p", "many", "way", "k", "span", "rule", "found", "at"]) (sc := defScope (top 49)) (by decide +kernel)) (iw_range1 (fr_range C) (x_var 2)) (fun _ _ _ _ _ => pg1 4 nd) (tg1 4) (fun _ _ _ _ _ x2 => (n_box1 (c__law_take C) hr (x_var 0) (x_var 1).n))).x) (nr_cons (n_set 5 (n_op op_add os_add x_int.n (n_box1 (c__law_take C) hr (x_var 0) x_int.n)) nd) fun b3 => (nr_cons (n_set 6 (no_cat (no_cat (no_lst (na_cons (n_pair (x1 := _) x_int.n (n_op op_add os_add x_int.n (n_box1 (c__law_take C) hr (x_var 0) (x_op op_sub os_sub (x_var 1) x_int).n))) na_nil)).x (no_lc (own := [("k", 4)]) rfl nd (blkOk_by (N := ["s", "p", "many", "way", "k", "span", "rule", "found", "at"]) (sc := defScope (top 49)) (by decide +kernel)) (iw_range2 (fr_range C) x_int (x_var 5)) (fun _ _ _ _ _ => pg1 4 nd) (tg1 4) (fun _ _ _ _ _ x5 => (n_pair (x1 := _) (x_var 4).n (n_box1 (c__law_take C) hr (x_var 0) (x_var 1).n)))).x).x (o_lst (a_cons (x_pair (x_var 5) x_int) a_nil)).ex.n).x nd) fun b6 => (nr_cons (n_setO 7 (no_meth3 (c_Sequence_digits C) hr (n_make2 (k_Sequence C) hr (x_make2 (k_Filter C) hr (x_var 1) (x_var 6)).n (no_lc (own := [("k", 4)]) rfl nd (blkOk_by (N := ["s", "p", "many", "way", "k", "span", "rule", "found", "at"]) (sc := defScope (top 49)) (by decide +kernel)) (iw_range1 (fr_range C) (x_var 5)) (fun _ _ _ _ _ => pg1 4 nd) (tg1 4) (fun _ _ _ _ _ x7 => (n_box1 (c__law_take C) hr (x_var 0) (x_var 1).n))).x) x_int.n (x_var 2).n) nd) fun b8 => (nr_cons (n_if (ρ' := fun s11 => [(fz (Ptr.mk B.b)), (fz x_p), (fz b1.1), (fz b1.2), .un, (fz b3), (fz b6), (.owL s11), .un]) (t_and (t_cmp op_eq os_eqI (x_var 3) x_int) (t_cmp op_gt os_gt (x_var 2) x_int)).n (nb_cons (n_set 8 (n_box1 (c__law_take C) hr (x_var 0) (x_var 2).n) nd) fun b9 => (nb_cons (SX.n fun _ => (s_lset 7 (x_op op_mod os_mod (x_intI (fr_int C) (x_op op_add os_add (x_ix (x_own 7) (x_var 8)) x_int)) (x_var 1)) (x_var 8))) fun b10 => nb_nil)) nb_nil) fun b12 => (nr_freeze 7 (nr_ret (x_var 7).n))))))))

theorem ok_law (C : Ctx K mg) (hm : m_law 0 fun r _ => r = true) : ∃ fd, FunD K "law" "law" (defArgs (top 50)) (defBody (top 50)) (defScope (top 50)) [] [] (He.ga K "law") fd ∧ FnOk P w K mg base CX0 13 (He.ga K "law") fd ["script"] (SR.spLaw K) := by
  obtain ⟨fd, F⟩ := C.d.def_ 46 rfl
  have S : FnScope ["script", "s", "turn", "p", "digits", "move", "row", "f", "k", "part", "some", "due", "told", "x"] ["script"] (defScope (top 50)) := ⟨rfl, rfl, rfl, by decide +kernel, rfl, by decide +kernel, by decide +kernel⟩
  have nd := S.nd
  refine ⟨fd, F, bodyLaw (Γ := gam K) F S rfl (by decide) (c__law_box C) (by decide) (by decide) hm (fun _ _ _ _ _ _ => ⟨pv 0, rfl, pg_name nd rfl (Or.inl rfl)⟩) fun cdv A outer s H E W0 B hr => ?_⟩
  show NRX _ _ _ _ _ _ [.un, (fz (Ptr.mk B.b)), .un, .un, .un, .un, .un, .un, .un, .un, .un, .un, .un, .un] m_law
  unfold m_law
  exact (nr_forR (s0 := ()) (ρL := fun s1 => [.un, (fz (Ptr.mk B.b)), .un, .un, .un, .un, .un, .un, .un, .un, .un, .un, .un, .un]) (iw_range1 (fr_range C) x_int).n (pg1 2 nd) (tg1 2) (fun s1 x2 => (ng_cons (n_set 3 (n_ix (o_lst (a_cons x_int (a_cons x_int a_nil))).ex.n (n_box1 (c__law_take C) hr (x_var 1) x_int.n)) nd) fun b4 => (ng_cons (n_unp (n_pair (x1 := _) (n_box1 (c__law_some_digits C) hr (x_var 1) (x_var 3).n) (n_op op_sub os_sub (n_box1 (c__law_take C) hr (x_var 1) x_int.n) x_int.n)) (pg2 4 5 nd) (tg2 4 5)) fun b5 => (ng_forR (s0 := ()) (ρL := fun s6 => [.un, (fz (Ptr.mk B.b)), (fz x2), (fz b4), (fz b5.1), (fz b5.2), .un, .un, .un, .un, .un, .un, .un, .un]) (niw_list (n_call2 (c__law_all_rows C 8) hr (x_var 3).n (n_op op_add os_add x_int.n (n_box1 (c__law_take C) hr (x_var 1) x_int.n)))) (pg1 6 nd) (tg1 6) (fun s6 x7 => (ng_if (t_val (x_anyI (fr_any C) (x_var 6).lx)).n (ng_cons (SX.n fun _ => (s_set 7 (x_make2 (k_Filter C) hr (x_var 3) (o_lc (own := [("part", 9), ("k", 8)]) rfl nd (blkOk_by (N := ["script", "s", "turn", "p", "digits", "move", "row", "f", "k", "part", "some", "due", "told", "x"]) (sc := defScope (top 50)) (by decide +kernel)) (iw_enum (fr_enumerate C) (x_var 6)).c (fun _ _ _ _ _ => pg2 8 9 nd) (tg2 8 9) (fun _ _ _ _ _ x10 => ts_nil) (fun _ _ _ _ _ x10 => (x_pair (x_op op_add os_add (x_var 8) (x_var 5)) (x_var 9)))).ex) nd)) fun b11 => (ng_cons (SX.n fun _ => (s_lc 10 (own := [("part", 9)]) rfl nd (blkOk_by (N := ["script", "s", "turn", "p", "digits", "move", "row", "f", "k", "part", "some", "due", "told", "x"]) (sc := defScope (top 50)) (by decide +kernel)) (iw_list (x_var 6)).c (fun _ _ _ _ _ => pg1 9 nd) (tg1 9) (fun _ _ _ _ _ x12 => ts_nil) (fun _ _ _ _ _ x12 => (x_var 9)) rfl)) fun b13 => (ng_freeze 10 (ng_cons (SX.n fun _ => (s_while (n := 8) (s0 := b13) (ρL := fun s14 => [.un, (fz (Ptr.mk B.b)), (fz x2), (fz b4), (fz b5.1), (fz b5.2), (fz x7), (fz b11), .un, .un, (fz s14), .un, .un, .un]) (fun s14 => (t_cmp op_eq os_eqI (x_ix (x_var 10).lx x_int) x_int)) (fun s14 => (b_cons (s_set 10 (o_cut (x_var 10).lx (p_some x_int) p_none).ex nd) fun b15 => b_nil)) PassesOwn.never)) fun b16 => (ng_cons (SX.n fun _ => (s_while (n := 8) (s0 := b16) (ρL := fun s17 => [.un, (fz (Ptr.mk B.b)), (fz x2), (fz b4), (fz b5.1), (fz b5.2), (fz x7), (fz b11), .un, .un, (fz s17), .un, .un, .un]) (fun s17 => (t_cmp op_eq os_eqI (x_ix (x_var 10).lx (x_neg x_int)) x_int)) (fun s17 => (b_cons (s_set 10 (o_cut (x_var 10).lx p_none (p_some (x_neg x_int))).ex nd) fun b18 => b_nil)) PassesOwn.never)) fun b19 => (ng_ifr (nt_cmp op_ne os_neB (n_call2 (c_fits C) hr (x_var 7).n (n_box1 (c__law_pick C) hr (x_var 1) (o_lst (a_cons (x_var 4).lt (a_cons (x_tupleL (fr_tuple C) (x_var 4).lx).ltT a_nil))).ex.n)) (x_call3 (c__law_fits C) hr (x_var 3).p (x_var 10).p (x_var 4).p).n) (nr_ret x_bl.n) ng_nil)))))) ng_nil)) (fun s8 => (ng_cons (n_par 11 12 (x_call2 (c__law_shortest C) hr (x_var 3).p (x_var 4).p).n (n_call2 (c_guessed C) hr (x_var 3).n (n_box1 (c__law_pick C) hr (x_var 1) (o_lst (a_cons (x_var 4).lt (a_cons (x_tupleL (fr_tuple C) (x_var 4).lx).ltT a_nil))).ex.n)) nd) fun b20 => (ng_ifr (t_or3 (t_not (t_val (x_isi (fr_isinstance C) (fr_tuple C) (isi_tup kit_self) (x_var 12)))) (t_cmp op_ne os_neI (x_lenP (fr_len C) (x_var 12)) x_int) (t_cmp op_ne os_neB (x_snd (x_var 12)) (x_cmp op_eq os_eqI (x_len (fr_len C) (x_var 11).lx) x_int))).n (nr_ret x_bl.n) (ng_cons (SX.n fun _ => (s_set 13 (x_fst (x_var 12)) nd)) fun b21 => (ng_ifr (t_or3 (t_neL hr (o_meth3 (c_Sequence_digits C) hr (x_var 13).p (x_int).p (x_len (fr_len C) (x_var 4).lx).p).lx (x_var 4).lx) (t_cmp op_ne os_neI (x_meth1 (c_Filter_span C) hr (x_meth1 (c_Sequence_rule C) hr (x_var 13).p).p).unopt (x_op op_sub os_sub (x_len (fr_len C) (x_ix (x_var 11).lx x_int).lx) x_int)) (t_nePB (c_Sequence_eq C) hr (x_call2 (c_guessed C) hr (x_var 3).p ((x_var 4).lt).p) (x_var 12))).n (nr_ret x_bl.n) (ng_ifr (t_and (t_cmp op_ge os_ge (x_len (fr_len C) (x_var 4).lx) (x_op op_mul os_mul x_int (x_meth1 (c_Filter_span C) hr (x_meth1 (c_Sequence_rule C) hr (x_var 13).p).p).unopt)) (t_not (t_val (x_snd (x_var 12))))).n (nr_ret x_bl.n) ng_nil)))))) PassesOwn.never)))) (fun s3 => (nr_ret (x_eqPB (c_Sequence_eq C) hr (x_call2 (c_guessed C) hr (x_int).p (o_nil.ex.lt).p) (x_pair (x_cm1 (c_Sequence_zero C) hr x_int) x_bl)).n)) PassesOwn.never)
end
end W82
end
section
set_option Elab.async false
set_option linter.all false
set_option maxRecDepth 100000
set_option maxHeartbeats 0
namespace W82
open PySem PySem.Spec PyProof.Rows L2 SR
def namesA : List PySem.Str := ["_wall", "PRIMES", "is_integer", "is_list", "is_prime", "are_digits", "inverse", "SeenError", "BadPrime", "BadTerm", "UnlikePrimes", "ZeroFilter", "BadRule", "BadDigits", "divided", "product_rest", "shift_rest", "moved_rest", "far_rest", "check_primes", "gcd", "lcm", "NEAR", "is_term", "divisor_of", "Filter", "least_rule", "Sequence", "less", "cleared", "spanned"]
def namesB : List PySem.Str := ["fits", "rules_that_fit", "guessed", "_law_box", "_law_take", "_law_pick", "_law_all_rows", "_law_fits", "_law_rules", "_law_shortest", "_law_some_digits"]
def names : List PySem.Str := namesA ++ namesB
abbrev R : PySem.W.OpenRow := PySem.W.OpenLaw.row PySem.Challenge.rw_seenrows_k82_whole_digits_guessed
abbrev hk : PySem.W.Hook := SR.hookT 5 fa fn ex
def ob (s : PySem.W.SharedT) : Bool × He.AlD := SR.obsT 5 fa fn ex (HandSHeadRun.getT s)
theorem ob_eq (s : PySem.W.SharedT) : ob s = hk.obs s.abs := SR.obsT_eq (HandSHeadRun.getT_eq s)
theorem run (w : World) : HandSHeadRun.RunEq R (PySem.W.view R.prog [50]) hk ob 20000 names w := by
  intro os
  kernel_rfl
theorem fd_eq {K : PySem.W.Frag} {x q : Str} {a : Arguments} {b : List Stmt} {s : Scope} {d : List V} {k : List (Str × V)} {f : Addr} {fd fd2 : FuncData} (F2 : FunD K x q a b s d k f fd2) (F : FunD K x q a b s d k f fd) : fd2 = fd := by
  obtain ⟨_, _, _, _, _, _, _, _, _, _, _, l1, _⟩ := F2.ex
  obtain ⟨_, _, _, _, _, _, _, _, _, _, _, l2, _⟩ := F.ex
  rw [l1] at l2
  cases l2
  rfl
theorem facts (hm : m_law 0 fun r _ => r = true) {P : Program} {w : World} {K : PySem.W.Frag} {h : Heap} {mg : Str → Option Value} {f : Addr} (X : K.In h) (G : h.Ns mainGlobals mg) (hfa : mg ("law" : Str) = some (.ref f)) (c : He5.SaysA fa fn K) (x : ex K = true) :
    ∃ fd : FuncData, (∀ (s : Shared) (v : Value), BindsTo s fd ⟨[v], []⟩ [("script", v)]) ∧ ∀ base : Heap, K.In base → base.Ns mainGlobals mg → FnOk P w K mg base CX0 13 f fd ["script"] (SR.spLaw K) := by
  have C : Ctx K mg := ⟨c, x, h, X, G⟩
  have e := hfa.symm.trans (gl_law C)
  cases e
  have key : ∀ base : Heap, _ := fun base => ok_law (P := P) (w := w) (base := base) C hm
  obtain ⟨fd, F⟩ := C.d.def_ 46 rfl
  have b := FunD.bindsA (ps := ["script"]) F fun _ _ _ _ _ _ us hl => match us, hl with | [_], _ => rfl
  refine ⟨fd, fun s v => b s [v] rfl, fun base _ _ => ?_⟩
  obtain ⟨fd2, F2, ok⟩ := key base
  have : fd2 = fd := fd_eq F2 F
  exact this ▸ ok
end W82
open PySem PySem.W PySem.Calls PyProof.Rows
theorem W82.holds (hm : W82.m_law 0 fun r _ => r = true) : PySem.Challenge.rw_seenrows_k82_whole_digits_guessed.Holds := by
  w_on; o_law
  refine HandSHeadRun.head_any (r := OpenLaw.row PySem.Challenge.rw_seenrows_k82_whole_digits_guessed) (q := view (OpenLaw.row PySem.Challenge.rw_seenrows_k82_whole_digits_guessed).prog [50]) (H := W82.hk) (ob := W82.ob) (M := 20000) (loose := W82.names) (d := HandSHeadRun.topDef (OpenLaw.row PySem.Challenge.rw_seenrows_k82_whole_digits_guessed).prog 50) (kwd := []) W82.ob_eq
    (by kernel_rfl) (fun s => by kernel_rfl) W82.run (by kernel_rfl) (by kernel_rfl) (by kernel_rfl) (by rfl) (by first | assumption | decide +kernel) (by decide +kernel) ⟨rfl, rfl, rfl, rfl, rfl, by decide +kernel⟩ ?hw ?hc
  case hw => w_witness2
  case hc =>
    refine L2.walk_ofE (l := PySem.Challenge.rw_seenrows_k82_whole_digits_guessed) (n := 63) (k := 13) (x := "script") (CX := L2.CX0) rfl (by decide) (by kernel_rfl) ⟨rfl, by decide, by decide⟩ ?F (fun _ _ _ _ z => z)
    intro w mg fa h Y G hmg0
    obtain ⟨K, KX, c, x⟩ := Y
    have hmg : mg ("law" : PySem.Str) = some (.ref fa) := by
      have e : (HandSHeadRun.topDef (OpenLaw.row PySem.Challenge.rw_seenrows_k82_whole_digits_guessed).prog 50).name = ("law" : PySem.Str) := by kernel_rfl
      rw [← e]
      exact hmg0
    obtain ⟨fd, hb, hF⟩ := W82.facts hm (P := (PySem.Challenge.rw_seenrows_k82_whole_digits_guessed).prog) (w := w) KX G hmg c x
    exact ⟨K, fd, SR.spLaw K, KX, hb, fun H a ns hl _ hS => ⟨a, ns, rfl, hl, hS, fun _ => rfl⟩, hF⟩
end
set_option Elab.async false
set_option linter.all false
theorem FS.ok3 : W82.OkP 3 := FS.okP (.inr rfl) FS.row3 FS.fit3 FS.seq30 FS.seq31 FS.seq32 FS.g3
theorem PySem.Challenge.cw_seenrows_k82_whole_digits_guessed_holds : PySem.Challenge.rw_seenrows_k82_whole_digits_guessed.Holds :=
  W82.holds (W82.law_run FS.ok2 FS.ok3)
