import PyProof.Rows.All
import Wide.All
import OpenK.AllK
import Wide.FinOn
import HandS.ForMost
import HandS.ForExc
import HandS.MakeKwOnly
import HandS.Star
import HandS.Property
import HandS.Style
import HandS.Walk
import HandS.Steps
import HandS.Wide
import HandS.TupAny
import HandS.IsInst
import HandS.TupMul
import HandS.Defaults
import KE.GoesMore
import KE.GoesEnum
import HandS.Strs
import HandS.CallLocal
import KE.KxStill
import PyProof.StrLawsRepr
import HandS.SlotsOwn
import PySem.Challenge.RW_onebyone_k08_whole_rows_one_by_one
set_option Elab.async false
set_option linter.all false
set_option maxRecDepth 100000
set_option maxHeartbeats 4000000
namespace G
open PySem L2

/-- the heap moves on: all but ms stands; nothing is forgotten -/
structure Keep (ms : List Addr) (H H' : Hp) : Prop where
  on : ∀ a o, a ∉ ms → H a = some o → H' a = some o
  tr : ∀ a o, H a = some o → ∃ o', H' a = some o'
theorem Keep.refl {ms : List Addr} {H : Hp} : Keep ms H H := ⟨fun _ _ _ h => h, fun _ o h => ⟨o, h⟩⟩
theorem Keep.free {ms : List Addr} {H H' : Hp} (k : Keep ms H H') {a : Addr} (h : H' a = none) : H a = none := by
  cases e : H a with
  | none => rfl
  | some o => obtain ⟨o', e'⟩ := k.tr a o e; rw [h] at e'; cases e'
theorem Keep.trans {ms ms1 : List Addr} {H H1 H2 : Hp} (a : Keep ms H H1) (b : Keep ms1 H1 H2) (n : ∀ x ∈ ms1, x ∈ ms ∨ H x = none) : Keep ms H H2 :=
  ⟨fun x o hx e => b.on x o (fun z => (n x z).elim hx fun z => by rw [z] at e; cases e) (a.on x o hx e), fun x o e => by obtain ⟨o', e'⟩ := a.tr x o e; exact b.tr x o' e'⟩
theorem Keep.new {ms : List Addr} {H : Hp} {p : Addr} {o : HO} (h : H p = none) : Keep ms H (upd H p o) :=
  ⟨fun x u _ e => by rw [upd_ne (ne_of_none e h)]; exact e, fun x u e => ⟨u, by rw [upd_ne (ne_of_none e h)]; exact e⟩⟩
theorem Keep.mut {ms : List Addr} {H : Hp} {p : Addr} {o : HO} (h : p ∈ ms) : Keep ms H (upd H p o) :=
  ⟨fun x u hx e => by rw [upd_ne (show x ≠ p from fun z => hx (by rw [z]; exact h))]; exact e, fun x u e => by
    by_cases z : x = p
    · exact ⟨o, by rw [z, upd_same]⟩
    · exact ⟨u, by rw [upd_ne z]; exact e⟩⟩
theorem Keep.mono {ms ms' : List Addr} {H H' : Hp} (k : Keep ms H H') (h : ∀ a ∈ ms, a ∈ ms') : Keep ms' H H' := ⟨fun a o ha e => k.on a o (fun z => ha (h a z)) e, k.tr⟩
theorem Keep.same {ms : List Addr} {H H' : Hp} (h : Same H H') : Keep ms H H' := ⟨fun a o _ e => h a o e, fun a o e => ⟨o, h a o e⟩⟩

/-- what is true of a value, apart from ms, as long as the heap moves on -/
structure Fact where
  r : PySem.W.Frag → List Addr → Hp → V → Prop
  step : ∀ {K : PySem.W.Frag} {ms ms' : List Addr} {H H' : Hp} {v : V}, r K ms H v → Keep ms H H' → (∀ a ∈ ms', a ∈ ms ∨ H a = none) → r K ms' H' v

/-- facts of values, one by one -/
inductive Reps (K : PySem.W.Frag) (ms : List Addr) (H : Hp) : List Fact → List V → Prop
  | nil : Reps K ms H [] []
  | cons {F : Fact} {v : V} {Fs : List Fact} {vs : List V} : F.r K ms H v → Reps K ms H Fs vs → Reps K ms H (F :: Fs) (v :: vs)
section
variable {K : PySem.W.Frag} {ms ms' : List Addr} {H H' : Hp}
theorem Reps.step {Fs : List Fact} {vs : List V} (h : Reps K ms H Fs vs) (k : Keep ms H H') (n : ∀ a ∈ ms', a ∈ ms ∨ H a = none) : Reps K ms' H' Fs vs := by
  induction h with
  | nil => exact .nil
  | cons r _ ih => exact .cons (Fact.step _ r k n) ih
theorem Reps.length {Fs : List Fact} {vs : List V} (h : Reps K ms H Fs vs) : Fs.length = vs.length := by
  induction h with
  | nil => rfl
  | cons _ _ ih => simp [ih]
theorem Reps.get {Fs : List Fact} {vs : List V} (h : Reps K ms H Fs vs) : ∀ {i : Nat} {F : Fact}, Fs[i]? = some F → ∃ v, vs[i]? = some v ∧ F.r K ms H v := by
  induction h with
  | nil => intro i F e; simp at e
  | cons r _ ih =>
    intro i F e
    cases i with
    | zero => simp at e; subst e; exact ⟨_, rfl, r⟩
    | succ i => exact ih (by simpa using e)
theorem Reps.of {Fs : List Fact} : ∀ {vs : List V}, Fs.length = vs.length → (∀ (i : Nat) (F : Fact) (v : V), Fs[i]? = some F → vs[i]? = some v → F.r K ms H v) → Reps K ms H Fs vs := by
  induction Fs with
  | nil =>
    intro vs hl _
    cases vs with
    | nil => exact .nil
    | cons v vs => simp at hl
  | cons F Fs ih =>
    intro vs hl h
    cases vs with
    | nil => simp at hl
    | cons v vs => exact .cons (h 0 F v rfl rfl) (ih (by simpa using hl) fun i F' v' e1 e2 => h (i + 1) F' v' (by simpa using e1) (by simpa using e2))
theorem Reps.append {Fs Gs : List Fact} {vs ws : List V} (h : Reps K ms H Fs vs) (g : Reps K ms H Gs ws) : Reps K ms H (Fs ++ Gs) (vs ++ ws) := by
  induction h with
  | nil => exact g
  | cons r _ ih => exact .cons r ih
theorem Reps.set {Fs : List Fact} {vs : List V} (h : Reps K ms H Fs vs) {F : Fact} {v : V} (r : F.r K ms H v) : ∀ i, Reps K ms H (Fs.set i F) (vs.set i v) := by
  induction h with
  | nil => intro i; exact .nil
  | cons q t ih =>
    intro i
    cases i with
    | zero => exact .cons r t
    | succ i => exact .cons q (ih i)
theorem Reps.take {Fs : List Fact} {vs : List V} (h : Reps K ms H Fs vs) : ∀ n, Reps K ms H (Fs.take n) (vs.take n) := by
  induction h with
  | nil => intro n; cases n <;> exact .nil
  | cons q t ih =>
    intro n
    cases n with
    | zero => exact .nil
    | succ n => exact .cons q (ih n)
theorem Reps.drop {Fs : List Fact} {vs : List V} (h : Reps K ms H Fs vs) : ∀ n, Reps K ms H (Fs.drop n) (vs.drop n) := by
  induction h with
  | nil => intro n; cases n <;> exact .nil
  | cons q t ih =>
    intro n
    cases n with
    | zero => exact .cons q t
    | succ n => exact ih n
end

def fV (v : V) : Fact := ⟨fun _ _ _ u => u = v, fun h _ _ => h⟩
def fInt (i : Int) : Fact := fV (.int i)
def fStr (s : Str) : Fact := fV (.str s)
def fBl (b : Bool) : Fact := fV (.bl b)
def fNon : Fact := fV .non
def fRef (a : Addr) : Fact := fV (.ref a)
/-- some one of these -/
def fEx {α : Type} (F : α → Fact) : Fact := ⟨fun K ms H v => ∃ x, (F x).r K ms H v, fun ⟨x, h⟩ k n => ⟨x, (F x).step h k n⟩⟩
/-- a tuple, a list (that does not change) of these -/
def TupAt (K : PySem.W.Frag) (ms : List Addr) (H : Hp) (a : Addr) (vs : List V) : Prop :=
  (a ∉ ms ∧ Rd H a (.tup vs)) ∨ ∃ (o : Obj) (its : Array Value) (n : Nat), K.lookup a = some o ∧ o.cls = .type "tuple" ∧ o.data = .seq its n ∧ its.size ≤ sizeLine ∧ Vals vs its.toList
def LstAt (K : PySem.W.Frag) (ms : List Addr) (H : Hp) (a : Addr) (vs : List V) : Prop := a ∉ ms ∧ H a = some (.lst vs)
section
variable {K : PySem.W.Frag} {ms ms' : List Addr} {H H' : Hp} {a : Addr} {vs : List V}
theorem TupAt.sq (h : TupAt K ms H a vs) : SqT K H a vs := h.elim (fun h => .inl h.2) .inr
theorem LstAt.sq (h : LstAt K ms H a vs) : SqL K H a vs := SqL.of h.2
theorem rd_step {u : HO} (h : a ∉ ms ∧ Rd H a u) (k : Keep ms H H') (n : ∀ a ∈ ms', a ∈ ms ∨ H a = none) : a ∉ ms' ∧ Rd H' a u := by
  obtain ⟨h1, h2⟩ := h
  have tr : H a ≠ none := by rcases h2 with e | ⟨o, e⟩ <;> (intro z; rw [z] at e; cases e)
  refine ⟨fun z => (n a z).elim h1 tr, ?_⟩
  rcases h2 with e | ⟨o, e⟩
  · exact .inl (k.on a _ h1 e)
  · exact .inr ⟨o, k.on a _ h1 e⟩
theorem TupAt.step (h : TupAt K ms H a vs) (k : Keep ms H H') (n : ∀ a ∈ ms', a ∈ ms ∨ H a = none) : TupAt K ms' H' a vs := h.elim (fun h => .inl (rd_step h k n)) .inr
theorem LstAt.step (h : LstAt K ms H a vs) (k : Keep ms H H') (n : ∀ a ∈ ms', a ∈ ms ∨ H a = none) : LstAt K ms' H' a vs :=
  ⟨fun z => (n a z).elim h.1 (fun q => by rw [h.2] at q; cases q), k.on a _ h.1 h.2⟩
end
def fT (Fs : List Fact) : Fact := ⟨fun K ms H v => ∃ a vs, v = .ref a ∧ TupAt K ms H a vs ∧ Reps K ms H Fs vs, fun ⟨a, vs, e, t, r⟩ k n => ⟨a, vs, e, t.step k n, r.step k n⟩⟩
def fL (Fs : List Fact) : Fact := ⟨fun K ms H v => ∃ a vs, v = .ref a ∧ LstAt K ms H a vs ∧ Reps K ms H Fs vs, fun ⟨a, vs, e, t, r⟩ k n => ⟨a, vs, e, t.step k n, r.step k n⟩⟩
/-- the script: a list that is read -/
def fScr (ns : List Int) : Fact := ⟨fun K ms H v => ∃ a, v = .ref a ∧ ((a ∉ ms ∧ Rd H a (.lst (ns.map V.int))) ∨ ∃ (o : Obj) (its : Array Value) (n : Nat), K.lookup a = some o ∧ o.cls = .type "list" ∧ o.dict = none ∧ o.data = .seq its n ∧ its.size ≤ sizeLine ∧ Vals (ns.map V.int) its.toList),
  fun ⟨a, e, h⟩ k n => ⟨a, e, h.elim (fun h => .inl (rd_step h k n)) .inr⟩⟩
/-- an instance that does not change -/
def fI (C : Addr) (ns : List Str) (Fs : List Fact) : Fact :=
  ⟨fun K ms H v => ∃ a dx vs, v = .ref a ∧ a ∉ ms ∧ H a = some (.ins C dx (ns.zip vs)) ∧ Reps K ms H Fs vs, fun ⟨a, dx, vs, e, t, h, r⟩ k n =>
    ⟨a, dx, vs, e, fun z => (n a z).elim t (fun q => by rw [h] at q; cases q), k.on a _ t h, r.step k n⟩⟩
/-- a dict that does not change -/
def fDk (ks : List Key) (Fs : List Fact) : Fact :=
  ⟨fun K ms H v => ∃ a vs, v = .ref a ∧ a ∉ ms ∧ H a = some (.dK (ks.zip vs)) ∧ Reps K ms H Fs vs, fun ⟨a, vs, e, t, h, r⟩ k n =>
    ⟨a, vs, e, fun z => (n a z).elim t (fun q => by rw [h] at q; cases q), k.on a _ t h, r.step k n⟩⟩

inductive Own where
  | lst (a : Addr) (Fs : List Fact)
  | ins (C dx a : Addr) (ns : List Str) (Fs : List Fact)
  | dk (a : Addr) (ks : List Key) (Fs : List Fact)
def Own.addr : Own → Addr
  | .lst a _ => a
  | .ins _ _ a _ _ => a
  | .dk a _ _ => a
def Own.ok (K : PySem.W.Frag) (ms : List Addr) (H : Hp) : Own → Prop
  | .lst a Fs => ∃ vs, H a = some (.lst vs) ∧ Reps K ms H Fs vs
  | .ins C dx a ns Fs => ∃ vs, H a = some (.ins C dx (ns.zip vs)) ∧ Reps K ms H Fs vs
  | .dk a ks Fs => ∃ vs, H a = some (.dK (ks.zip vs)) ∧ Reps K ms H Fs vs
theorem Own.ok_tr {K : PySem.W.Frag} {ms : List Addr} {H : Hp} {o : Own} (h : o.ok K ms H) : ∃ u, H o.addr = some u := by
  cases o with
  | lst a Fs => obtain ⟨vs, e, _⟩ := h; exact ⟨_, e⟩
  | ins C dx a ns Fs => obtain ⟨vs, e, _⟩ := h; exact ⟨_, e⟩
  | dk a ks Fs => obtain ⟨vs, e, _⟩ := h; exact ⟨_, e⟩
/-- an owned thing that stands -/
theorem Own.ok_step {K : PySem.W.Frag} {ms ms' : List Addr} {H H' : Hp} {o : Own} (h : o.ok K ms H) (he : H' o.addr = H o.addr) (k : Keep ms H H') (n : ∀ a ∈ ms', a ∈ ms ∨ H a = none) : o.ok K ms' H' := by
  cases o with
  | lst a Fs => obtain ⟨vs, e, r⟩ := h; exact ⟨vs, he.trans e, r.step k n⟩
  | ins C dx a ns Fs => obtain ⟨vs, e, r⟩ := h; exact ⟨vs, he.trans e, r.step k n⟩
  | dk a ks Fs => obtain ⟨vs, e, r⟩ := h; exact ⟨vs, he.trans e, r.step k n⟩
def ms (os : List Own) : List Addr := os.map Own.addr

abbrev GEnv := List (Option Fact)
structure Ok (K : PySem.W.Frag) (Γ : GEnv) (os : List Own) (σ : L2.St) (H : Hp) : Prop where
  len : σ.length = Γ.length
  sl : ∀ (i : Nat) (F : Fact), Γ[i]? = some (some F) → ∃ v, σ[i]? = some (some v) ∧ F.r K (ms os) H v
  ow : ∀ o ∈ os, o.ok K (ms os) H
  nd : (ms os).Nodup
structure Step (K : PySem.W.Frag) (os os' : List Own) (H H' : Hp) : Prop where
  keep : Keep (ms os) H H'
  new : ∀ a ∈ ms os', a ∈ ms os ∨ H a = none
  ow : ∀ o ∈ os', o.ok K (ms os') H'
  nd : (ms os').Nodup
section
variable {K : PySem.W.Frag} {Γ : GEnv} {os os1 os2 : List Own} {σ : L2.St} {H H1 H2 : Hp}
theorem Ok.refl (ok : Ok K Γ os σ H) : Step K os os H H := ⟨Keep.refl, fun _ h => .inl h, ok.ow, ok.nd⟩
theorem Step.refl' (ow : ∀ o ∈ os, o.ok K (ms os) H) (nd : (ms os).Nodup) : Step K os os H H := ⟨Keep.refl, fun _ h => .inl h, ow, nd⟩
theorem Step.trans (a : Step K os os1 H H1) (b : Step K os1 os2 H1 H2) : Step K os os2 H H2 :=
  ⟨a.keep.trans b.keep a.new, fun x hx => (b.new x hx).elim (a.new x) fun z => .inr (a.keep.free z), b.ow, b.nd⟩
theorem Ok.step (ok : Ok K Γ os σ H) (s : Step K os os1 H H1) : Ok K Γ os1 σ H1 :=
  ⟨ok.len, fun i F e => by obtain ⟨v, h1, h2⟩ := ok.sl i F e; exact ⟨v, h1, F.step h2 s.keep s.new⟩, s.ow, s.nd⟩
theorem Fact.go {F : Fact} {v : V} (h : F.r K (ms os) H v) (s : Step K os os1 H H1) : F.r K (ms os1) H1 v := F.step h s.keep s.new
theorem Reps.go {Fs : List Fact} {vs : List V} (h : Reps K (ms os) H Fs vs) (s : Step K os os1 H H1) : Reps K (ms os1) H1 Fs vs := h.step s.keep s.new
/-- a new object is laid, nothing owned -/
theorem Step.laid {p : Addr} {o : HO} (ow : ∀ o ∈ os, o.ok K (ms os) H) (nd : (ms os).Nodup) (h : H p = none) : Step K os os H (upd H p o) :=
  ⟨Keep.new h, fun _ h => .inl h, fun o ho => Own.ok_step (ow o ho) (by
    obtain ⟨u, e⟩ := Own.ok_tr (ow o ho)
    rw [upd_ne (ne_of_none e h)]) (Keep.new h) (fun _ z => .inl z), nd⟩
theorem owned_ne (ow : ∀ o ∈ os, o.ok K (ms os) H) {p : Addr} (h : H p = none) : p ∉ ms os := fun z => by
  obtain ⟨o, ho, rfl⟩ := List.mem_map.mp z
  obtain ⟨u, e⟩ := Own.ok_tr (ow o ho)
  rw [h] at e; cases e
end

section
variable (X : Cx)
def uE (e : Expr) : TE := fun σ H Q => ∀ (pins : List (Addr × Obj)) (s : Shared), Inv X pins σ H s → wpAny (model X.prog X.w) X.A (eval e X.env) (EP X pins σ Q) X.xe s
def uT (e : Expr) : TT := fun σ H Q => ∀ (pins : List (Addr × Obj)) (s : Shared), Inv X pins σ H s → wpAny (model X.prog X.w) X.A (isTrue e X.env (eval e X.env)) (TP X pins σ Q) X.xe s
def uW (e : Expr) : TT := fun σ H Q => ∀ (whole : Sem Value) (pins : List (Addr × Obj)) (s : Shared), Inv X pins σ H s → wpAny (model X.prog X.w) X.A (isTrue e X.env whole) (TP X pins σ Q) X.xe s
def uA (es : List Expr) : TA := fun σ H Q => ∀ (pos : Pos) (pins : List (Addr × Obj)) (s : Shared), Inv X pins σ H s → wpAny (model X.prog X.w) X.A (spliced (backTo pos (starEach es X.env))) (AP X pins σ Q) X.xe s
def uS (st : Stmt) : TS := fun D σ H => ∀ (pins : List (Addr × Obj)) (s : Shared), Inv X pins σ H s → wpAny (model X.prog X.w) X.A (exec st X.env) (SP X pins D) X.xe s
def uSs (st : List Stmt) : TS := fun D σ H => ∀ (pins : List (Addr × Obj)) (s : Shared), Inv X pins σ H s → wpAny (model X.prog X.w) X.A (execs st X.env) (SP X pins D) X.xe s
end
section
variable {X : Cx} {e : Expr} {es : List Expr} {st : Stmt} {sts : List Stmt}
theorem pe_u : PE X e (uE X e) := ⟨fun pins s _ _ _ I h => h pins s I⟩
theorem pt_u : PT X e (uT X e) := ⟨fun pins s _ _ _ I h => h pins s I⟩
theorem pw_u : PW X e (uW X e) := ⟨fun w pins s _ _ _ I h => h w pins s I⟩
theorem pa_u : PA X es (uA X es) := ⟨fun p pins s _ _ _ I h => h p pins s I⟩
theorem ps_u : PS X st (uS X st) := ⟨fun pins s _ _ _ I h => h pins s I⟩
theorem pss_u : PSs X sts (uSs X sts) := ⟨fun pins s _ _ _ I h => h pins s I⟩
theorem uE.of {t : TE} (p : PE X e t) {σ : L2.St} {H : Hp} {Q : VK} (h : t σ H Q) : uE X e σ H Q := fun pins s I => p.run pins s σ H Q I h
theorem uT.of {t : TT} (p : PT X e t) {σ : L2.St} {H : Hp} {Q : Bool → Hp → Prop} (h : t σ H Q) : uT X e σ H Q := fun pins s I => p.run pins s σ H Q I h
theorem uW.of {t : TT} (p : PW X e t) {σ : L2.St} {H : Hp} {Q : Bool → Hp → Prop} (h : t σ H Q) : uW X e σ H Q := fun w pins s I => p.run w pins s σ H Q I h
theorem uA.of {t : TA} (p : PA X es t) {σ : L2.St} {H : Hp} {Q : List V → Hp → Prop} (h : t σ H Q) : uA X es σ H Q := fun w pins s I => p.run w pins s σ H Q I h
theorem uS.of {t : TS} (p : PS X st t) {σ : L2.St} {H : Hp} {D : Ends} (h : t D σ H) : uS X st D σ H := fun pins s I => p.run pins s σ H D I h
theorem uSs.of {t : TS} (p : PSs X sts t) {σ : L2.St} {H : Hp} {D : Ends} (h : t D σ H) : uSs X sts D σ H := fun pins s I => p.run pins s σ H D I h
end

abbrev PK1 := Fact → List Own → Prop
abbrev PKA := List Fact → List Own → Prop
abbrev PKB := Bool → List Own → Prop
/-- how a value, handed on -/
def Give (K : PySem.W.Frag) (os : List Own) (H : Hp) (Post : PK1) (Q : VK) : Prop := ∀ v H' F os', Post F os' → Step K os os' H H' → F.r K (ms os') H' v → Q v H'
def GiveA (K : PySem.W.Frag) (os : List Own) (H : Hp) (Post : PKA) (Q : List V → Hp → Prop) : Prop := ∀ vs H' Fs os', Post Fs os' → Step K os os' H H' → Reps K (ms os') H' Fs vs → Q vs H'
def GiveB (K : PySem.W.Frag) (os : List Own) (H : Hp) (Post : PKB) (Q : Bool → Hp → Prop) : Prop := ∀ b H' os', Post b os' → Step K os os' H H' → Q b H'
section
variable (X : Cx) (Γ : GEnv) (os : List Own)
def E (e : Expr) (Post : PK1) : Prop := ∀ σ H Q, Ok X.K Γ os σ H → Give X.K os H Post Q → uE X e σ H Q
def A (es : List Expr) (Post : PKA) : Prop := ∀ σ H Q, Ok X.K Γ os σ H → GiveA X.K os H Post Q → uA X es σ H Q
def T (e : Expr) (Post : PKB) : Prop := ∀ σ H Q, Ok X.K Γ os σ H → GiveB X.K os H Post Q → uT X e σ H Q
def TW (e : Expr) (Post : PKB) : Prop := ∀ σ H Q, Ok X.K Γ os σ H → GiveB X.K os H Post Q → uW X e σ H Q
end
section
variable {K : PySem.W.Frag} {os os1 : List Own} {H H1 : Hp}
theorem Give.step {Post : PK1} {Q : VK} (g : Give K os H Post Q) (s : Step K os os1 H H1) : Give K os1 H1 Post Q := fun v H' F os' p s' r => g v H' F os' p (s.trans s') r
theorem GiveA.step {Post : PKA} {Q : List V → Hp → Prop} (g : GiveA K os H Post Q) (s : Step K os os1 H H1) : GiveA K os1 H1 Post Q := fun v H' F os' p s' r => g v H' F os' p (s.trans s') r
theorem GiveB.step {Post : PKB} {Q : Bool → Hp → Prop} (g : GiveB K os H Post Q) (s : Step K os os1 H H1) : GiveB K os1 H1 Post Q := fun v H' os' p s' => g v H' os' p (s.trans s')
end
section
variable (K : PySem.W.Frag) (os : List Own)
def Op1 (r : V → Hp → VK → Prop) (F : Fact) (Post : PK1) : Prop := ∀ x H Q, (∀ o ∈ os, o.ok K (ms os) H) → (ms os).Nodup → F.r K (ms os) H x → Give K os H Post Q → r x H Q
def Op2 (r : R2) (F F' : Fact) (Post : PK1) : Prop := ∀ x y H Q, (∀ o ∈ os, o.ok K (ms os) H) → (ms os).Nodup → F.r K (ms os) H x → F'.r K (ms os) H y → Give K os H Post Q → r x y H Q
def OpA (r : List V → Hp → VK → Prop) (Fs : List Fact) (Post : PK1) : Prop := ∀ xs H Q, (∀ o ∈ os, o.ok K (ms os) H) → (ms os).Nodup → Reps K (ms os) H Fs xs → Give K os H Post Q → r xs H Q
end

section
variable {X : Cx} {Γ : GEnv} {os : List Own} {e : Expr} {es : List Expr} {Post Post' : PK1}
theorem E.mono (h : E X Γ os e Post) (m : ∀ F os', Post F os' → Post' F os') : E X Γ os e Post' := fun σ H Q ok g => h σ H Q ok fun v H' F os' p => g v H' F os' (m F os' p)
theorem A.mono {P P' : PKA} (h : A X Γ os es P) (m : ∀ F os', P F os' → P' F os') : A X Γ os es P' := fun σ H Q ok g => h σ H Q ok fun v H' F os' p => g v H' F os' (m F os' p)
theorem T.mono {P P' : PKB} (h : T X Γ os e P) (m : ∀ F os', P F os' → P' F os') : T X Γ os e P' := fun σ H Q ok g => h σ H Q ok fun v H' os' p => g v H' os' (m v os' p)
theorem Give.now {K : PySem.W.Frag} {H : Hp} {Q : VK} {F : Fact} {v : V} (g : Give K os H Post Q) (p : Post F os) (ow : ∀ o ∈ os, o.ok K (ms os) H) (nd : (ms os).Nodup) (r : F.r K (ms os) H v) : Q v H :=
  g v H F os p (Step.refl' ow nd) r
/-- a new immutable object -/
theorem Give.laid {K : PySem.W.Frag} {H : Hp} {Q : VK} {F : Fact} {p : Addr} {o : HO} (g : Give K os H Post Q) (hp : Post F os) (ow : ∀ o ∈ os, o.ok K (ms os) H) (nd : (ms os).Nodup) (hn : H p = none)
    (r : p ∉ ms os → Step K os os H (upd H p o) → F.r K (ms os) (upd H p o) (.ref p)) : Q (.ref p) (upd H p o) :=
  g _ _ F os hp (Step.laid ow nd hn) (r (owned_ne ow hn) (Step.laid ow nd hn))

theorem e_var (i : Nat) {x : Str} {pos : Pos} {F : Fact} (hN : X.N[i]? = some x) (hv : Vis X.env.scope x) (hF : Γ[i]? = some (some F)) (hp : Post F os)
    (hd : (x == ("__debug__" : Str)) = false := by decide) (hcd : (x == ("__classdict__" : Str)) = false := by decide) : E X Γ os (.Name x pos) Post := fun σ H Q ok g => by
  obtain ⟨v, e1, r⟩ := ok.sl i F hF
  exact uE.of (pe_var hN hv hd hcd) ⟨v, e1, g.now hp ok.ow ok.nd r⟩
theorem e_c {v : V} (p : PE X e (tC v)) (hp : Post (fV v) os) : E X Γ os e Post := fun σ H Q ok g => uE.of p (g.now hp ok.ow ok.nd rfl)
theorem e_int {i j pos} (hp : Post (fInt i) os) : E X Γ os (.Constant (.int i) j pos) Post := e_c pe_int hp
theorem e_str {i j pos} (hp : Post (fStr i) os) : E X Γ os (.Constant (.str i) j pos) Post := e_c pe_str hp
theorem e_bl {i j pos} (hp : Post (fBl i) os) : E X Γ os (.Constant (.bool i) j pos) Post := e_c pe_bl hp
theorem e_non {j pos} (hp : Post fNon os) : E X Γ os (.Constant .none j pos) Post := e_c pe_non hp
/-- a module's constant -/
theorem e_glob {x : Str} {v : V} {u : Value} {pos : Pos} (hg : Gl X x) (hm : X.mg x = some u) (r : RelV v u) (hp : Post (fV v) os) (hd : (x == ("__debug__" : Str)) = false := by decide) : E X Γ os (.Name x pos) Post := e_c (pe_glob hg hm r hd) hp

theorem a_nil {P : PKA} (hp : P [] os) : A X Γ os [] P := fun σ H Q ok g => uA.of pa_nil (g [] H [] os hp ok.refl .nil)
theorem a_cons {P : PKA} (h : E X Γ os e fun F os1 => A X Γ os1 es fun Fs os2 => P (F :: Fs) os2) (hs : starEach (e :: es) X.env = (false, eval e X.env) :: starEach es X.env := by rfl) : A X Γ os (e :: es) P := fun σ H Q ok g =>
  uA.of (pa_cons pe_u pa_u hs) (h σ H _ ok fun v H1 F os1 p s1 r1 => p σ H1 _ (ok.step s1) fun vs H2 Fs os2 p2 s2 r2 => g (v :: vs) H2 (F :: Fs) os2 p2 (s1.trans s2) (.cons (F.go r1 s2) r2))

variable {a b : Expr} {pos : Pos}
theorem e_bin {op : Operator} {r : R2} (ho : OpR X (binaryOp op) r) (h : E X Γ os a fun F os1 => E X Γ os1 b fun F' os2 => Op2 X.K os2 r F F' Post) : E X Γ os (.BinOp a op b pos) Post := fun σ H Q ok g =>
  uE.of (pe_op ho pe_u pe_u) (h σ H _ ok fun v H1 F os1 p s1 r1 => p σ H1 _ (ok.step s1) fun w H2 F' os2 p2 s2 r2 => p2 v w H2 Q s2.ow s2.nd (F.go r1 s2) r2 (g.step (s1.trans s2)))
theorem e_cmp {op : CmpOp} {r : R2} (ho : OpR X (compareOp op) r) (hm : behindInMarks op b = false) (h : E X Γ os a fun F os1 => E X Γ os1 b fun F' os2 => Op2 X.K os2 r F F' Post) : E X Γ os (.Compare a [op] [b] pos) Post := fun σ H Q ok g =>
  uE.of (pe_cmpR ho pe_u pe_u hm) (h σ H _ ok fun v H1 F os1 p s1 r1 => p σ H1 _ (ok.step s1) fun w H2 F' os2 p2 s2 r2 => p2 v w H2 Q s2.ow s2.nd (F.go r1 s2) r2 (g.step (s1.trans s2)))
theorem e_un {op : UnaryOp} {r : V → Hp → VK → Prop} (ho : UnR X (unaryOp op) r) (h : E X Γ os a fun F os1 => Op1 X.K os1 r F Post) : E X Γ os (.UnaryOp op a pos) Post := fun σ H Q ok g =>
  uE.of (pe_un ho pe_u) (h σ H _ ok fun v H1 F os1 p s1 r1 => p v H1 Q s1.ow s1.nd r1 (g.step s1))
theorem e_ix {r : R2} (hr : IxR X r) (hs : PlainIx b) (h : E X Γ os a fun F os1 => E X Γ os1 b fun F' os2 => Op2 X.K os2 r F F' Post) : E X Γ os (.Subscript a b pos) Post := fun σ H Q ok g =>
  uE.of (pe_ix hr pe_u pe_u hs) (h σ H _ ok fun v H1 F os1 p s1 r1 => p σ H1 _ (ok.step s1) fun w H2 F' os2 p2 s2 r2 => p2 v w H2 Q s2.ow s2.nd (F.go r1 s2) r2 (g.step (s1.trans s2)))
end

section
variable {X : Cx} {Γ : GEnv} {os : List Own} {e a b c : Expr} {es : List Expr} {Post : PK1} {P : PKB} {pos : Pos}
theorem t_val (he : ∀ whole, isTrue e X.env whole = (do let v ← whole; standAt e.pos; holding [v] (truthy v))) (h : E X Γ os e fun F os1 => ∃ c, F = fBl c ∧ P c os1) : T X Γ os e P := fun σ H Q ok g =>
  uT.of (pt_val pe_u he) (h σ H _ ok fun v H1 F os1 p s1 r1 => by
    obtain ⟨c, rfl, p⟩ := p
    exact ⟨c, r1, g c H1 os1 p s1⟩)
theorem t_cmp {op : CmpOp} {r : R2} (ho : OpR X (compareOp op) r) (hm : behindInMarks op b = false) (h : E X Γ os a fun F os1 => E X Γ os1 b fun F' os2 => Op2 X.K os2 r F F' fun F os3 => ∃ c, F = fBl c ∧ P c os3) : T X Γ os (.Compare a [op] [b] pos) P := fun σ H Q ok g =>
  uT.of (pt_cmpR ho pe_u pe_u hm) (h σ H _ ok fun v H1 F os1 p s1 r1 => p σ H1 _ (ok.step s1) fun w H2 F' os2 p2 s2 r2 => p2 v w H2 _ s2.ow s2.nd (F.go r1 s2) r2 fun z H3 F3 os3 p3 s3 r3 => by
    obtain ⟨c, rfl, p3⟩ := p3
    exact ⟨c, r3, g c H3 os3 p3 ((s1.trans s2).trans s3)⟩)
theorem t_not (h : T X Γ os a fun c os1 => P (!c) os1) : T X Γ os (.UnaryOp .Not a pos) P := fun σ H Q ok g =>
  uT.of (pt_not pt_u) (h σ H _ ok fun c H1 os1 p s1 => g (!c) H1 os1 p s1)
theorem t_w (h : TW X Γ os e P) : T X Γ os e P := fun σ H Q ok g => uT.of pw_u.pt (h σ H Q ok g)
theorem w_and1 (h : T X Γ os a P) : TW X Γ os (.BoolOp .And [a] pos) P := fun σ H Q ok g => uW.of (pw_and1 pt_u) (h σ H Q ok g)
theorem w_or1 (h : T X Γ os a P) : TW X Γ os (.BoolOp .Or [a] pos) P := fun σ H Q ok g => uW.of (pw_or1 pt_u) (h σ H Q ok g)
theorem w_and {rest : List Expr} (h : T X Γ os a fun c os1 => (c = true → TW X Γ os1 (.BoolOp .And (b :: rest) pos) P) ∧ (c = false → P false os1)) : TW X Γ os (.BoolOp .And (a :: b :: rest) pos) P := fun σ H Q ok g =>
  uW.of (pw_and pt_u pw_u) (h σ H _ ok fun c H1 os1 p s1 => by
    cases c with
    | true => rw [if_pos rfl]; exact p.1 rfl σ H1 Q (ok.step s1) (g.step s1)
    | false => rw [if_neg (by decide)]; exact g false H1 os1 (p.2 rfl) s1)
theorem w_or {rest : List Expr} (h : T X Γ os a fun c os1 => (c = true → P true os1) ∧ (c = false → TW X Γ os1 (.BoolOp .Or (b :: rest) pos) P)) : TW X Γ os (.BoolOp .Or (a :: b :: rest) pos) P := fun σ H Q ok g =>
  uW.of (pw_or pt_u pw_u) (h σ H _ ok fun c H1 os1 p s1 => by
    cases c with
    | true => rw [if_pos rfl]; exact g true H1 os1 (p.1 rfl) s1
    | false => rw [if_neg (by decide)]; exact p.2 rfl σ H1 Q (ok.step s1) (g.step s1))
theorem e_one {op} (h : E X Γ os a Post) : E X Γ os (.BoolOp op [a] pos) Post := fun σ H Q ok g => uE.of (pe_one pe_u) (h σ H Q ok g)
theorem e_and {rest : List Expr} (h : E X Γ os a fun F os1 => ∃ c, F = fBl c ∧ (c = true → E X Γ os1 (.BoolOp .And (b :: rest) pos) Post) ∧ (c = false → Post (fBl false) os1)) : E X Γ os (.BoolOp .And (a :: b :: rest) pos) Post := fun σ H Q ok g =>
  uE.of (pe_and pe_u pe_u) (h σ H _ ok fun v H1 F os1 p s1 r1 => by
    obtain ⟨c, rfl, p1, p2⟩ := p
    refine ⟨c, r1, ?_⟩
    cases c with
    | true => rw [if_pos rfl]; exact p1 rfl σ H1 Q (ok.step s1) (g.step s1)
    | false => rw [if_neg (by decide)]; exact g _ H1 _ os1 (p2 rfl) s1 rfl)
theorem e_or {rest : List Expr} (h : E X Γ os a fun F os1 => ∃ c, F = fBl c ∧ (c = true → Post (fBl true) os1) ∧ (c = false → E X Γ os1 (.BoolOp .Or (b :: rest) pos) Post)) : E X Γ os (.BoolOp .Or (a :: b :: rest) pos) Post := fun σ H Q ok g =>
  uE.of (pe_or pe_u pe_u) (h σ H _ ok fun v H1 F os1 p s1 r1 => by
    obtain ⟨c, rfl, p1, p2⟩ := p
    refine ⟨c, r1, ?_⟩
    cases c with
    | true => rw [if_pos rfl]; exact g _ H1 _ os1 (p1 rfl) s1 rfl
    | false => rw [if_neg (by decide)]; exact p2 rfl σ H1 Q (ok.step s1) (g.step s1))
theorem e_not (h : E X Γ os a fun F os1 => ∃ c, F = fBl c ∧ Post (fBl (!c)) os1) : E X Γ os (.UnaryOp .Not a pos) Post := fun σ H Q ok g =>
  uE.of (pe_not pe_u) (h σ H _ ok fun v H1 F os1 p s1 r1 => by
    obtain ⟨c, rfl, p1⟩ := p
    exact ⟨c, r1, g _ H1 _ os1 p1 s1 rfl⟩)
theorem e_if (h : T X Γ os c fun d os1 => (d = true → E X Γ os1 a Post) ∧ (d = false → E X Γ os1 b Post)) : E X Γ os (.IfExp c a b pos) Post := fun σ H Q ok g =>
  uE.of (pe_ifExp pt_u pe_u pe_u) (h σ H _ ok fun d H1 os1 p s1 => by
    cases d with
    | true => rw [if_pos rfl]; exact p.1 rfl σ H1 Q (ok.step s1) (g.step s1)
    | false => rw [if_neg (by decide)]; exact p.2 rfl σ H1 Q (ok.step s1) (g.step s1))
theorem e_tup {x1} (h : A X Γ os es fun Fs os1 => Fs.length ≤ 1000 ∧ Post (fT Fs) os1) : E X Γ os (.Tuple es x1 pos) Post := fun σ H Q ok g =>
  uE.of (pe_tup pa_u) (h σ H _ ok fun vs H1 Fs os1 p s1 r1 => ⟨by rw [← r1.length]; exact Nat.le_trans p.1 (by decide), fun q hq =>
    (g.step s1).laid p.2 s1.ow s1.nd hq fun hn s2 => ⟨q, vs, rfl, .inl ⟨hn, .inl upd_same⟩, r1.go s2⟩⟩)
theorem e_lst (h : A X Γ os es fun Fs os1 => Fs.length ≤ 1000 ∧ Post (fL Fs) os1) : E X Γ os (.List es pos) Post := fun σ H Q ok g =>
  uE.of (pe_lst pa_u) (h σ H _ ok fun vs H1 Fs os1 p s1 r1 => ⟨by rw [← r1.length]; exact Nat.le_trans p.1 (by decide), fun q hq =>
    (g.step s1).laid p.2 s1.ow s1.nd hq fun hn s2 => ⟨q, vs, rfl, ⟨hn, upd_same⟩, r1.go s2⟩⟩)
/-- a new owned object -/
theorem Give.own {K : PySem.W.Frag} {H : Hp} {Q : VK} {p : Addr} {o : HO} {w : Own} (g : Give K os H Post Q) (hw : w.addr = p) (hp : Post (fRef p) (w :: os)) (ow : ∀ o ∈ os, o.ok K (ms os) H) (nd : (ms os).Nodup) (hn : H p = none)
    (r : Step K os os H (upd H p o) → w.ok K (p :: ms os) (upd H p o)) : Q (.ref p) (upd H p o) := by
  have s := Step.laid (o := o) ow nd hn
  have nw := owned_ne ow hn
  have em : ms (w :: os) = p :: ms os := by show w.addr :: _ = _; rw [hw]; rfl
  refine g _ _ _ _ hp ⟨s.keep, fun a ha => ?_, fun u hu => ?_, ?_⟩ rfl
  · rw [em] at ha
    rcases List.mem_cons.mp ha with z | z
    · rw [z]; exact .inr hn
    · exact .inl z
  · rw [em]
    rcases List.mem_cons.mp hu with z | z
    · rw [z]; exact r s
    · refine Own.ok_step (ow u z) (by obtain ⟨q, e⟩ := Own.ok_tr (ow u z); rw [upd_ne (ne_of_none e hn)]) s.keep fun a ha => ?_
      rcases List.mem_cons.mp ha with z | z
      · rw [z]; exact .inr hn
      · exact .inl z
  · rw [em]; exact List.nodup_cons.mpr ⟨nw, nd⟩
theorem e_lstO (h : A X Γ os es fun Fs os1 => Fs.length ≤ 1000 ∧ ∀ l, Post (fRef l) (.lst l Fs :: os1)) : E X Γ os (.List es pos) Post := fun σ H Q ok g =>
  uE.of (pe_lst pa_u) (h σ H _ ok fun vs H1 Fs os1 p s1 r1 => ⟨by rw [← r1.length]; exact Nat.le_trans p.1 (by decide), fun q hq =>
    (g.step s1).own (w := .lst q Fs) rfl (p.2 q) s1.ow s1.nd hq fun s2 => ⟨vs, upd_same, r1.step s2.keep fun a ha => by
      rcases List.mem_cons.mp ha with z | z
      · rw [z]; exact .inr hq
      · exact .inl z⟩⟩)
end
end G
namespace G
open PySem L2

/-- what is wanted behind a block -/
structure AE where
  rt : PK1
  nx : GEnv → List Own → Prop
  bk : GEnv → List Own → Prop := fun _ _ => False
  ct : GEnv → List Own → Prop := fun _ _ => False
def GiveS (K : PySem.W.Frag) (os : List Own) (H : Hp) (P : GEnv → List Own → Prop) (Q : L2.St → Hp → Prop) : Prop := ∀ σ' H' Γ' os', P Γ' os' → Step K os os' H H' → Ok K Γ' os' σ' H' → Q σ' H'
structure EndsOk (K : PySem.W.Frag) (os : List Own) (H : Hp) (d : AE) (D : Ends) : Prop where
  rt : Give K os H d.rt D.rt
  nx : GiveS K os H d.nx D.nx
  bk : GiveS K os H d.bk D.bk
  ct : GiveS K os H d.ct D.ct
section
variable {K : PySem.W.Frag} {os os1 : List Own} {H H1 : Hp} {d : AE} {D : Ends}
theorem GiveS.step {P : GEnv → List Own → Prop} {Q : L2.St → Hp → Prop} (g : GiveS K os H P Q) (s : Step K os os1 H H1) : GiveS K os1 H1 P Q := fun σ' H' Γ' os' p s' o => g σ' H' Γ' os' p (s.trans s') o
theorem EndsOk.step (g : EndsOk K os H d D) (s : Step K os os1 H H1) : EndsOk K os1 H1 d D := ⟨g.rt.step s, g.nx.step s, g.bk.step s, g.ct.step s⟩
end
section
variable (X : Cx) (d : AE) (Γ : GEnv) (os : List Own)
def S (sts : List Stmt) : Prop := ∀ σ H D, Ok X.K Γ os σ H → EndsOk X.K os H d D → uSs X sts D σ H
def S1 (st : Stmt) : Prop := ∀ σ H D, Ok X.K Γ os σ H → EndsOk X.K os H d D → uS X st D σ H
end
/-- a target -/
def uG (X : Cx) (tg : Expr) : TG := fun v σ H Q => ∀ (pins : List (Addr × Obj)) (s : Shared) (u : Value), Inv X pins σ H s → RelV v u →
  wpAny (model X.prog X.w) X.A (assign tg X.env u) (fun _ s' => ∃ σ' H', Inv X pins σ' H' s' ∧ Q σ' H') X.xe s
def uGs (X : Cx) (ts : List Expr) : TGs := fun vs σ H Q => ∀ (pins : List (Addr × Obj)) (s : Shared) (us : List Value), Inv X pins σ H s → Vals vs us →
  wpAny (model X.prog X.w) X.A (assignInOrder ((assignEach ts X.env).map (·.2)) us) (fun _ s' => ∃ σ' H', Inv X pins σ' H' s' ∧ Q σ' H') X.xe s
theorem pg_u {X : Cx} {tg : Expr} : PG X tg (uG X tg) := ⟨fun pins s _ _ _ u _ I r h => h pins s u I r⟩
theorem pgs_u {X : Cx} {tg : List Expr} : PGs X tg (uGs X tg) := ⟨fun pins s _ _ _ u _ I r h => h pins s u I r⟩
/-- target tg takes F: the slots ix alone change -/
def Tg (X : Cx) (Γ : GEnv) (os : List Own) (ix : List Nat) (tg : Expr) (F : Fact) (P : GEnv → Prop) : Prop := ∀ σ H v Q, Ok X.K Γ os σ H → F.r X.K (ms os) H v →
  (∀ σ' Γ', P Γ' → Ok X.K Γ' os σ' H → (σ'.length = σ.length ∧ ∀ i, i ∉ ix → σ'[i]? = σ[i]?) → Q σ' H) → uG X tg v σ H Q
def Tgs (X : Cx) (Γ : GEnv) (os : List Own) (ix : List Nat) (tgs : List Expr) (Fs : List Fact) (P : GEnv → Prop) : Prop := ∀ σ H vs Q, Ok X.K Γ os σ H → Reps X.K (ms os) H Fs vs →
  (∀ σ' Γ', P Γ' → Ok X.K Γ' os σ' H → (σ'.length = σ.length ∧ ∀ i, i ∉ ix → σ'[i]? = σ[i]?) → Q σ' H) → uGs X tgs vs σ H Q
theorem Ok.set {K : PySem.W.Frag} {Γ : GEnv} {os : List Own} {σ : L2.St} {H : Hp} (ok : Ok K Γ os σ H) {F : Fact} {v : V} (r : F.r K (ms os) H v) (i : Nat) : Ok K (Γ.set i (some F)) os (σ.set i (some v)) H :=
  ⟨by rw [List.length_set, List.length_set]; exact ok.len, fun j G e => by
    by_cases hj : i = j
    · subst hj
      by_cases hl : i < Γ.length
      · rw [List.getElem?_set_self hl] at e
        cases e
        exact ⟨v, by rw [List.getElem?_set_self (by rw [ok.len]; exact hl)], r⟩
      · rw [List.getElem?_eq_none (by simpa using hl)] at e; cases e
    · rw [List.getElem?_set_ne hj] at e
      obtain ⟨w, h1, h2⟩ := ok.sl j G e
      exact ⟨w, by rw [List.getElem?_set_ne hj]; exact h1, h2⟩, ok.ow, ok.nd⟩
section
variable {X : Cx} {d : AE} {Γ : GEnv} {os : List Own} {e c : Expr} {es : List Expr} {rest a b body : List Stmt} {pos : Pos} {ix : List Nat}
theorem g_name (i : Nat) {x : Str} {F : Fact} {P : GEnv → Prop} (hN : X.N.Nodup) (hi : X.N[i]? = some x) (hx : Loc X.env.scope x) (hm : i ∈ ix) (hp : P (Γ.set i (some F)))
    (hf : X.fn x = true ∨ X.env.scope.names.lookup x = some .local := by first | exact .inl rfl | exact .inr rfl | assumption) : Tg X Γ os ix (.Name x pos) F P := fun σ H v Q ok r g pins s u I ru =>
  (pg_name hN hi hx hf).run pins s σ H v u Q I ru (g _ _ hp (ok.set r i) ⟨List.length_set, fun j hj => by rw [List.getElem?_set_ne (fun z => hj (by rw [← z]; exact hm))]⟩)
theorem gs_nil {P : GEnv → Prop} (hp : P Γ) : Tgs X Γ os ix [] [] P := fun σ H vs Q ok r g pins s us I rv => pgs_nil.run pins s σ H vs us Q I rv (by cases r; exact ⟨rfl, g _ _ hp ok ⟨rfl, fun _ _ => rfl⟩⟩)
theorem gs_cons {F : Fact} {Fs : List Fact} {P : GEnv → Prop} (h : Tg X Γ os ix e F fun Γ' => Tgs X Γ' os ix es Fs P)
    (hs : (assignEach (e :: es) X.env).map (·.2) = assign e X.env :: (assignEach es X.env).map (·.2) := by rfl) : Tgs X Γ os ix (e :: es) (F :: Fs) P := fun σ H vs Q ok r g pins s us I rv => by
  cases r with
  | cons r1 r2 =>
    refine (pgs_cons pg_u pgs_u hs).run pins s σ H _ us Q I rv ⟨_, _, rfl, h σ H _ _ ok r1 fun σ' Γ' p ok' k => p σ' H _ _ ok' r2 fun σ2 Γ2 p2 ok2 k2 => g σ2 Γ2 p2 ok2 ⟨k2.1.trans k.1, fun i hi => (k2.2 i hi).trans (k.2 i hi)⟩⟩
theorem g_tup {Fs : List Fact} {k n : Nat} {P : GEnv → Prop} (hc : X.calm = true) (hl : Fs.length = n) (h : Tgs X Γ os ix es Fs P)
    (hn : (assignEach es X.env).length = n := by rfl) (hst : (assignEach es X.env).findIdx? (·.1) = none := by rfl) : Tg X Γ os ix (.Tuple es k pos) (fT Fs) P := fun σ H v Q ok r g pins s u I ru => by
  obtain ⟨p, vs, rfl, ht, rs⟩ := r
  exact (pg_tup hc pgs_u hn hst).run pins s σ H _ u Q I ru ⟨p, vs, rfl, ht.sq, by rw [← rs.length]; exact hl, h σ H vs Q ok rs g⟩

theorem s_nil (h : d.nx Γ os) : S X d Γ os [] := fun σ H D ok g => uSs.of pss_nil (g.nx σ H Γ os h ok.refl ok)
theorem s_cons {st : Stmt} (h : S1 X { d with nx := fun Γ' os' => S X d Γ' os' rest } Γ os st) : S X d Γ os (st :: rest) := fun σ H D ok g =>
  uSs.of (pss_cons ps_u pss_u) (h σ H { D with nx := uSs X rest D } ok ⟨g.rt, fun σ' H' Γ' os' p s o => p σ' H' D o (g.step s), g.bk, g.ct⟩)
theorem s1_expr (h : E X Γ os e fun _ os1 => d.nx Γ os1) (hs : swapsWith e none pos.line X.env = pure false := by rfl) : S1 X d Γ os (.Expr e pos) := fun σ H D ok g =>
  uS.of (ps_expr pe_u hs) (h σ H _ ok fun v H1 F os1 p s1 r1 => g.nx σ H1 Γ os1 p s1 (ok.step s1))
theorem s1_ret (h : E X Γ os e d.rt) : S1 X d Γ os (.Return (some e) pos) := fun σ H D ok g => uS.of (ps_ret pe_u) (h σ H _ ok g.rt)
theorem s1_retN (h : d.rt fNon os) : S1 X d Γ os (.Return none pos) := fun σ H D ok g => uS.of ps_retN (g.rt _ H _ os h ok.refl rfl)
theorem s1_pass (h : d.nx Γ os) : S1 X d Γ os (.Pass pos) := fun σ H D ok g => uS.of ps_pass (g.nx σ H Γ os h ok.refl ok)
theorem s1_break (h : d.bk Γ os) : S1 X d Γ os (.Break pos) := fun σ H D ok g => uS.of ps_break (g.bk σ H Γ os h ok.refl ok)
theorem s1_continue (h : d.ct Γ os) : S1 X d Γ os (.Continue pos) := fun σ H D ok g => uS.of ps_continue (g.ct σ H Γ os h ok.refl ok)
theorem s1_set (i : Nat) {x : Str} {pos' : Pos} (hN : X.N.Nodup) (hi : X.N[i]? = some x) (hx : Loc X.env.scope x) (h : E X Γ os e fun F os1 => d.nx (Γ.set i (some F)) os1) (hs : swapsWith e (some (.Name x pos')) pos.line X.env = pure false := by rfl)
    (hf : X.fn x = true ∨ X.env.scope.names.lookup x = some .local := by first | exact .inl rfl | exact .inr rfl | assumption) : S1 X d Γ os (.Assign [.Name x pos'] e pos) := fun σ H D ok g =>
  uS.of (ps_set hN hi hx pe_u hs hf) (h σ H _ ok fun v H1 F os1 p s1 r1 => g.nx _ H1 _ os1 p s1 ((ok.step s1).set r1 i))
theorem s1_asg (ix : List Nat) {tg : Expr} (h : E X Γ os e fun F os1 => Tg X Γ os1 ix tg F fun Γ' => d.nx Γ' os1) (hs : swapsWithSole [tg] e pos.line X.env = pure false := by rfl) (hw : swappedStores [tg] e X.env = pure none := by rfl)
    (h1 : (assignEach [tg] X.env).map (·.2) = [assign tg X.env] := by rfl) : S1 X d Γ os (.Assign [tg] e pos) := fun σ H D ok g =>
  uS.of (ps_asg pe_u pg_u hs hw h1) (h σ H _ ok fun v H1 F os1 p s1 r1 => p σ H1 v _ (ok.step s1) r1 fun σ' Γ' p' ok' _ => g.nx σ' H1 Γ' os1 p' s1 ok')
theorem s1_if (h : T X Γ os c fun b1 os1 => (b1 = true → S X d Γ os1 a) ∧ (b1 = false → S X d Γ os1 b)) : S1 X d Γ os (.If c a b pos) := fun σ H D ok g =>
  uS.of (ps_if pt_u pss_u pss_u) (h σ H _ ok fun b1 H1 os1 p s1 => by
    cases b1 with
    | true => rw [if_pos rfl]; exact p.1 rfl σ H1 D (ok.step s1) (g.step s1)
    | false => rw [if_neg (by decide)]; exact p.2 rfl σ H1 D (ok.step s1) (g.step s1))
theorem s1_par {i j : Nat} {x y : Str} {a b : Expr} {px py pt : Pos} {kt k2 pt2} (hc : X.calm = true) (hN : X.N.Nodup) (hi : X.N[i]? = some x) (hj : X.N[j]? = some y) (hij : i ≠ j)
    (hx : X.env.scope.names.lookup x = some .local) (hy : X.env.scope.names.lookup y = some .local)
    (hw : swappedStores [.Tuple [.Name x px, .Name y py] kt pt] (.Tuple [a, b] k2 pt2) X.env = pure (some [x, y]))
    (hs : swapsWithSole [.Tuple [.Name x px, .Name y py] kt pt] (.Tuple [a, b] k2 pt2) pos.line X.env = pure false)
    (h : A X Γ os [a, b] fun Fs os1 => ∃ F F', Fs = [F, F'] ∧ d.nx ((Γ.set i (some F)).set j (some F')) os1) : S1 X d Γ os (.Assign [.Tuple [.Name x px, .Name y py] kt pt] (.Tuple [a, b] k2 pt2) pos) := fun σ H D ok g =>
  uS.of (ps_par hc hN hi hj hij hx hy pa_u hw hs) (h σ H _ ok fun vs H1 Fs os1 p s1 r1 => by
    obtain ⟨F, F', rfl, p⟩ := p
    cases r1 with
    | cons r1 r2 =>
      cases r2 with
      | cons r2 r3 =>
        cases r3
        exact ⟨_, _, rfl, g.nx _ H1 _ os1 p s1 (((ok.step s1).set r1 i).set r2 j)⟩)
theorem s1_par3 {i j l : Nat} {x y z : Str} {a b c : Expr} {px py pz pt : Pos} {kt k2 pt2} (hc : X.calm = true) (hN : X.N.Nodup) (hi : X.N[i]? = some x) (hj : X.N[j]? = some y) (hl : X.N[l]? = some z) (hij : i ≠ j) (hil : i ≠ l) (hjl : j ≠ l)
    (hx : X.env.scope.names.lookup x = some .local) (hy : X.env.scope.names.lookup y = some .local) (hz : X.env.scope.names.lookup z = some .local)
    (hw : swappedStores [.Tuple [.Name x px, .Name y py, .Name z pz] kt pt] (.Tuple [a, b, c] k2 pt2) X.env = pure (some [x, y, z]))
    (hs : swapsWithSole [.Tuple [.Name x px, .Name y py, .Name z pz] kt pt] (.Tuple [a, b, c] k2 pt2) pos.line X.env = pure false)
    (h : A X Γ os [a, b, c] fun Fs os1 => ∃ F F' F'', Fs = [F, F', F''] ∧ d.nx (((Γ.set i (some F)).set j (some F')).set l (some F'')) os1) : S1 X d Γ os (.Assign [.Tuple [.Name x px, .Name y py, .Name z pz] kt pt] (.Tuple [a, b, c] k2 pt2) pos) := fun σ H D ok g =>
  uS.of (ps_par3 hc hN hi hj hl hij hil hjl hx hy hz pa_u hw hs) (h σ H _ ok fun vs H1 Fs os1 p s1 r1 => by
    obtain ⟨F, F', F'', rfl, p⟩ := p
    cases r1 with
    | cons r1 r2 =>
      cases r2 with
      | cons r2 r3 =>
        cases r3 with
        | cons r3 r4 =>
          cases r4
          exact ⟨_, _, _, rfl, g.nx _ H1 _ os1 p s1 ((((ok.step s1).set r1 i).set r2 j).set r3 l)⟩)
theorem s1_aug (i : Nat) {x : Str} {op : Operator} {r : R2} {pos' : Pos} (hN : X.N.Nodup) (hi : X.N[i]? = some x) (hx : Loc X.env.scope x) (ho : OpR X (inplaceOp op) r) {F : Fact} (hF : Γ[i]? = some (some F))
    (h : E X Γ os e fun F' os1 => Op2 X.K os1 r F F' fun G os2 => d.nx (Γ.set i (some G)) os2) (hf : X.fn x = true ∨ X.env.scope.names.lookup x = some .local := by first | exact .inl rfl | exact .inr rfl | assumption) : S1 X d Γ os (.AugAssign (.Name x pos') op e pos) := fun σ H D ok g => by
  obtain ⟨v, e1, r0⟩ := ok.sl i F hF
  refine uS.of (ps_aug hN hi hx pe_u (show PIp X op r from ho) hf) ⟨v, e1, h σ H _ ok fun w H1 F' os1 p s1 r1 => ?_⟩
  exact p v w H1 _ s1.ow s1.nd (F.go r0 s1) r1 fun z H2 G os2 p2 s2 r2 => g.nx _ H2 _ os2 p2 (s1.trans s2) (((ok.step s1).step s2).set r2 i)
/-- a word between two statements -/
theorem s_cut {st : Stmt} (Mid : GEnv → List Own → Prop) (h : S1 X { d with nx := Mid } Γ os st) (k : ∀ Γ' os', Mid Γ' os' → S X d Γ' os' rest) : S X d Γ os (st :: rest) :=
  s_cons fun σ H D ok g => h σ H D ok ⟨g.rt, fun σ' H' Γ' os' p s o => g.nx σ' H' Γ' os' (k Γ' os' p) s o, g.bk, g.ct⟩
theorem S.conseq {d' : AE} {sts : List Stmt} (h : S X d Γ os sts) (r : ∀ F os', d.rt F os' → d'.rt F os') (n : ∀ F os', d.nx F os' → d'.nx F os') (b : ∀ F os', d.bk F os' → d'.bk F os') (c : ∀ F os', d.ct F os' → d'.ct F os') : S X d' Γ os sts :=
  fun σ H D ok g => h σ H D ok ⟨fun v H' F os' p => g.rt v H' F os' (r F os' p), fun σ' H' Γ' os' p => g.nx σ' H' Γ' os' (n _ _ p), fun σ' H' Γ' os' p => g.bk σ' H' Γ' os' (b _ _ p), fun σ' H' Γ' os' p => g.ct σ' H' Γ' os' (c _ _ p)⟩

/-- less known of the slots -/
def GLe (Γ Γ' : GEnv) : Prop := Γ'.length = Γ.length ∧ ∀ (i : Nat) (F : Fact), Γ'[i]? = some (some F) → Γ[i]? = some (some F)
theorem Ok.le {K : PySem.W.Frag} {Γ Γ' : GEnv} {σ : L2.St} {H : Hp} (ok : Ok K Γ os σ H) (h : GLe Γ Γ') : Ok K Γ' os σ H := ⟨by rw [h.1]; exact ok.len, fun i F e => ok.sl i F (h.2 i F e), ok.ow, ok.nd⟩
theorem S.le {Γ' : GEnv} {sts : List Stmt} (h : GLe Γ Γ') (k : S X d Γ' os sts) : S X d Γ os sts := fun σ H D ok g => k σ H D (ok.le h) g
/-- the owned list at l is owned no more -/
theorem frz_ok {K : PySem.W.Frag} {os : List Own} {H : Hp} {l : Addr} {Fs : List Fact} (ow : ∀ o ∈ (Own.lst l Fs :: os), o.ok K (ms (Own.lst l Fs :: os)) H) (nd : (ms (Own.lst l Fs :: os)).Nodup) :
    Step K (Own.lst l Fs :: os) os H H ∧ (fL Fs).r K (ms os) H (.ref l) := by
  have le : ∀ a ∈ ms os, a ∈ ms (Own.lst l Fs :: os) ∨ H a = none := fun a h => .inl (List.mem_cons_of_mem _ h)
  have s : Step K (Own.lst l Fs :: os) os H H := ⟨Keep.refl, le, fun o ho => Own.ok_step (ow o (List.mem_cons_of_mem _ ho)) rfl Keep.refl le, (List.nodup_cons.mp nd).2⟩
  obtain ⟨vs, e, r⟩ := ow _ List.mem_cons_self
  exact ⟨s, l, vs, rfl, ⟨(List.nodup_cons.mp nd).1, e⟩, r.step Keep.refl le⟩
theorem s_frz (i : Nat) {l : Addr} {Fs : List Fact} {sts : List Stmt} (hF : Γ[i]? = some (some (fRef l))) (k : S X d (Γ.set i (some (fL Fs))) os sts) : S X d Γ (.lst l Fs :: os) sts := fun σ H D ok g => by
  obtain ⟨s, r⟩ := frz_ok ok.ow ok.nd
  have ok1 := ok.step s
  obtain ⟨v, e, rv⟩ := ok.sl i _ hF
  have ev : v = .ref l := rv
  subst ev
  have ok2 := ok1.set r i
  have es : σ.set i (some (V.ref l)) = σ := by
    apply List.ext_getElem?
    intro j
    by_cases hj : i = j
    · subst hj
      rw [List.getElem?_set_self (List.getElem?_eq_some_iff.mp e).1, e]
    · rw [List.getElem?_set_ne hj]
  rw [es] at ok2
  exact k σ H D ok2 (g.step s)
end

abbrev FS := List Fact → List Own → PK1 → Prop
def spOf (K : PySem.W.Frag) (fs : FS) : Sp := fun vs H Q _ => ∃ Fs os Post, fs Fs os Post ∧ Reps K (ms os) H Fs vs ∧ (∀ o ∈ os, o.ok K (ms os) H) ∧ (ms os).Nodup ∧ Give K os H Post Q
/-- a def of the module, its promise in facts -/
structure Df (P : Program) (w : World) (K : PySem.W.Frag) (mg : Str → Option Value) (base : Heap) (k : Nat) (x : Str) (ps : List Str) (fs : FS) : Prop where
  ex : ∃ CX f fd, FnOk P w K mg base CX k f fd ps (spOf K fs) ∧ mg x = some (.ref f) ∧ PySem.W.keepIn K (.ref f) = true ∧ Binds K fd ps [] ∧ (CX = CX0 ∨ CX = L2.CX P w)
theorem passAny {X : Cx} {CX : CXT} (h : CX = CX0 ∨ CX = L2.CX X.prog X.w) : Passes CX X E0 := by
  rcases h with rfl | rfl
  · exact pass0
  · exact passL
section
variable {X : Cx} {Γ : GEnv} {os : List Own} {e : Expr} {es : List Expr} {Post : PK1} {p pos : Pos} {k : Nat} {x : Str} {ps : List Str} {fs : FS}
theorem e_call (D : Df X.prog X.w X.K X.mg X.base k x ps fs) (hr : Room k X.A) (hg : Gl X x) (h : A X Γ os (e :: es) fun Fs os1 => fs Fs os1 Post) (hdb : (x == ("__debug__" : Str)) = false := by decide)
    (he : starEach (e :: es) X.env = (false, eval e X.env) :: starEach es X.env := by rfl) (hpl : (backTo pos (starEach es X.env)).any (·.1) = false := by rfl) : E X Γ os (.Call (.Name x p) (e :: es) [] pos) Post := fun σ H Q ok g => by
  obtain ⟨CX, f, fd, F, hm, hk, hb, hc⟩ := D.ex
  refine uE.of (pe_call F hr hg hm hk hb .nil (passAny hc) pa_u hdb he hpl) (h σ H _ ok fun vs H1 Fs os1 p1 s1 r1 => ?_)
  refine ⟨Fs, os1, Post, p1, ?_, s1.ow, s1.nd, g.step s1⟩
  rw [List.append_nil]; exact r1
/-- a builtin called by its name -/
theorem e_callB {id : String} {r : List V → Hp → VK → Prop} (hc : CallR X (.builtin id) r) (hg : Gl X x) (hm : X.mg x = none) (hv : bootBuiltins x = some (.builtin id)) (h : A X Γ os (e :: es) fun Fs os1 => OpA X.K os1 r Fs Post)
    (hn : x ≠ "__name__" := by decide) (hdb : (x == ("__debug__" : Str)) = false := by decide)
    (he : starEach (e :: es) X.env = (false, eval e X.env) :: starEach es X.env := by rfl) (hpl : (backTo pos (starEach es X.env)).any (·.1) = false := by rfl) : E X Γ os (.Call (.Name x p) (e :: es) [] pos) Post := fun σ H Q ok g =>
  uE.of (pe_callB hc hg hm hv pa_u hn hdb he hpl) (h σ H _ ok fun vs H1 Fs os1 p1 s1 r1 => p1 vs H1 Q s1.ow s1.nd r1 (g.step s1))
theorem e_callTy {T : String} {r : List V → Hp → VK → Prop} (hc : CallR X (.type T) r) (hg : Gl X x) (hm : X.mg x = none) (hv : bootBuiltins x = some (.type T)) (h : A X Γ os (e :: es) fun Fs os1 => OpA X.K os1 r Fs Post)
    (hn : x ≠ "__name__" := by decide) (hdb : (x == ("__debug__" : Str)) = false := by decide)
    (he : starEach (e :: es) X.env = (false, eval e X.env) :: starEach es X.env := by rfl) (hpl : (backTo pos (starEach es X.env)).any (·.1) = false := by rfl) : E X Γ os (.Call (.Name x p) (e :: es) [] pos) Post := fun σ H Q ok g =>
  uE.of (pe_callTy hc hg hm hv pa_u hn hdb he hpl) (h σ H _ ok fun vs H1 Fs os1 p1 s1 r1 => p1 vs H1 Q s1.ow s1.nd r1 (g.step s1))
end

theorem ok_start {K : PySem.W.Frag} {N : List Str} {Fs : List Fact} {vs : List V} {os : List Own} {H : Hp} (h : Reps K (ms os) H Fs vs) (ow : ∀ o ∈ os, o.ok K (ms os) H) (nd : (ms os).Nodup) :
    Ok K (Fs.map some ++ List.replicate (N.length - Fs.length) none) os (L2.start N vs) H := by
  refine ⟨?_, fun i F e => ?_, ow, nd⟩
  · unfold L2.start
    simp [h.length]
  · by_cases hi : i < Fs.length
    · rw [List.getElem?_append_left (by simpa using hi), List.getElem?_map] at e
      cases q : Fs[i]? with
      | none => rw [q] at e; cases e
      | some G =>
        rw [q] at e
        cases e
        obtain ⟨v, e1, r⟩ := h.get q
        refine ⟨v, ?_, r⟩
        unfold L2.start
        rw [List.getElem?_append_left (by rw [List.length_map, ← h.length]; exact hi), List.getElem?_map, e1]
        rfl
    · rw [List.getElem?_append_right (by simpa using hi), List.getElem?_replicate] at e
      split at e <;> cases e
theorem def_ok {P : Program} {w : World} {K : PySem.W.Frag} {mg : Str → Option Value} {base : Heap} {x qual : Str} {st : Stmt} {f : Addr} {fd : FuncData} {N ps : List Str} {k : Nat} {fs : FS} (F : Fun K x qual st f fd) (Sc : FnScope N ps (defScope st))
    (len : ∀ Fs os Post, fs Fs os Post → Fs.length = ps.length)
    (h : ∀ (cdv : Value) (A : Around) (outer : List Env) (s : Shared) (H : Hp) (E : XK), Room k (A.deeper (PyProof.Rows.envOfC qual (defScope st) s.heap.objs.size f cdv)) → ∀ Fs os Post, fs Fs os Post →
      S (cxOf CX0 P w K mg base N qual (defScope st) f cdv A outer s H E).nox { rt := Post, nx := fun _ os' => Post fNon os' } (Fs.map some ++ List.replicate (N.length - Fs.length) none) os (defBody st)) :
    FnOk P w K mg base CX0 (k + 1) f fd ps (spOf K fs) := by
  refine F.ok Sc (fun vs H Q E q => ?_) (fun cdv A outer s H vs Q E hr q => ?_)
  · obtain ⟨Fs, os, Post, h1, h2, _⟩ := q
    rw [← h2.length]; exact len _ _ _ h1
  · obtain ⟨Fs, os, Post, h1, h2, h3, h4, h5⟩ := q
    refine ⟨_, pss_u, h cdv A outer s H E hr Fs os Post h1 (L2.start N vs) H _ (ok_start h2 h3 h4) ⟨h5, ?_, fun _ _ _ _ z => z.elim, fun _ _ _ _ z => z.elim⟩⟩
    intro σ' H' Γ' os' p s _
    exact h5 _ H' _ os' p s rfl
theorem Df.mk' {P : Program} {w : World} {K : PySem.W.Frag} {mg : Str → Option Value} {base : Heap} {k : Nat} {x : Str} {ps : List Str} {fs : FS} {f : Addr} {fd : FuncData} (F : FnOk P w K mg base CX0 k f fd ps (spOf K fs)) (hm : mg x = some (.ref f))
    (hk : PySem.W.keepIn K (.ref f) = true) (hb : Binds K fd ps []) : Df P w K mg base k x ps fs := ⟨CX0, f, fd, F, hm, hk, hb, .inl rfl⟩
end G
namespace G
open PySem L2

/-- one owned thing is put in another's place -/
theorem Step.put {K : PySem.W.Frag} {os : List Own} {H : Hp} {o o' : Own} {u : HO} (ow : ∀ o ∈ os, o.ok K (ms os) H) (nd : (ms os).Nodup) (i : Nat) (hi : os[i]? = some o) (ha : o'.addr = o.addr)
    (r : Keep (ms os) H (upd H o.addr u) → o'.ok K (ms os) (upd H o.addr u)) : Step K os (os.set i o') H (upd H o.addr u) := by
  have hm : o ∈ os := List.mem_of_getElem? hi
  have em : ms (os.set i o') = ms os := by
    unfold ms
    rw [List.map_set, ha]
    apply List.ext_getElem?
    intro j
    by_cases hj : i = j
    · subst hj
      rw [List.getElem?_set_self (by rw [List.length_map]; exact (List.getElem?_eq_some_iff.mp hi).1), List.getElem?_map, hi]; rfl
    · rw [List.getElem?_set_ne hj]
  have kp : Keep (ms os) H (upd H o.addr u) := Keep.mut (List.mem_map.mpr ⟨o, hm, rfl⟩)
  refine ⟨kp, fun a h => .inl (by rw [em] at h; exact h), fun w hw => ?_, by rw [em]; exact nd⟩
  rw [em]
  obtain ⟨j, hj⟩ := List.getElem?_of_mem hw
  by_cases e : i = j
  · subst e
    rw [List.getElem?_set_self (List.getElem?_eq_some_iff.mp hi).1] at hj
    cases hj
    exact r kp
  · rw [List.getElem?_set_ne e] at hj
    have ne : w.addr ≠ o.addr := fun z => by
      have h1 : (ms os)[j]? = some w.addr := by unfold ms; rw [List.getElem?_map, hj]; rfl
      have h2 : (ms os)[i]? = some o.addr := by unfold ms; rw [List.getElem?_map, hi]; rfl
      rw [z] at h1
      obtain ⟨l1, q1⟩ := List.getElem?_eq_some_iff.mp h1
      obtain ⟨l2, q2⟩ := List.getElem?_eq_some_iff.mp h2
      exact e ((List.getElem_inj nd).mp (q2.trans q1.symm))
    exact Own.ok_step (ow w (List.mem_of_getElem? hj)) (upd_ne ne) kp fun _ z => .inl z

def WalkOf (K : PySem.W.Frag) (os1 : List Own) (H1 : Hp) (J : It) (Its : List Fact) : Prop := ∀ os' H', Step K os1 os' H1 H' →
  (∀ (i : Nat) (F : Fact), Its[i]? = some F → J.go i H' ∧ ∀ x H2, J.yld i H' x H2 → Step K os' os' H' H2 ∧ F.r K (ms os') H2 x) ∧ J.stop Its.length H'
def WalkR (K : PySem.W.Frag) (os1 : List Own) (H1 : Hp) (J : It) (Its : List Fact) (R : List Own → Prop) : Prop := ∀ os' H', Step K os1 os' H1 H' → R os' →
  (∀ (i : Nat) (F : Fact), Its[i]? = some F → J.go i H' ∧ ∀ x H2, J.yld i H' x H2 → Step K os' os' H' H2 ∧ F.r K (ms os') H2 x) ∧ J.stop Its.length H'
theorem WalkOf.r {K : PySem.W.Frag} {os1 : List Own} {H1 : Hp} {J : It} {Its : List Fact} {R : List Own → Prop} (w : WalkOf K os1 H1 J Its) : WalkR K os1 H1 J Its R := fun os' H' s _ => w os' H' s
def uI (X : Cx) (tg iter : Expr) : TI := fun σ H R => ∀ (pins : List (Addr × Obj)) (s : Shared), Inv X pins σ H s →
  wpAny (model X.prog X.w) X.A (eval iter X.env) (fun v s1 => wpAny (model X.prog X.w) X.A (pyIter v) (PIE X pins σ tg R) X.xe s1) X.xe s
theorem pi_u {X : Cx} {tg iter : Expr} : PI X tg iter (uI X tg iter) := ⟨fun pins s _ _ _ I h => h pins s I⟩
theorem uI.of {X : Cx} {tg iter : Expr} {t : TI} (p : PI X tg iter t) {σ : L2.St} {H : Hp} {R : It → Hp → Prop} (h : t σ H R) : uI X tg iter σ H R := fun pins s I => p.run pins s σ H R I h
def Wk (X : Cx) (Γ : GEnv) (os : List Own) (tg iter : Expr) (P : PKA) : Prop := ∀ σ H R, Ok X.K Γ os σ H → (∀ J H1 Its os1, P Its os1 → Step X.K os os1 H H1 → WalkOf X.K os1 H1 J Its → R J H1) → uI X tg iter σ H R
theorem WalkOf.of {K : PySem.W.Frag} {os1 : List Own} {H1 : Hp} {J : It} {Its : List Fact} {n : Nat} {G : Hp → Prop} {Y : Nat → Hp → V → Hp → Prop} (w : Walk J n G Y) (hn : Its.length = n) (hG : ∀ os' H', Step K os1 os' H1 H' → G H')
    (hY : ∀ os' H', Step K os1 os' H1 H' → ∀ (i : Nat) (F : Fact) x H2, Its[i]? = some F → Y i H' x H2 → Step K os' os' H' H2 ∧ F.r K (ms os') H2 x) : WalkOf K os1 H1 J Its := fun os' H' s => by
  subst hn
  have g := hG os' H' s
  exact ⟨fun i F e => ⟨w.goes i H' (List.getElem?_eq_some_iff.mp e).1 g, fun x H2 y => hY os' H' s i F x H2 e (w.yields i H' x H2 (List.getElem?_eq_some_iff.mp e).1 g y)⟩, w.stops H' g⟩
section
variable {X : Cx} {Γ : GEnv} {os : List Own} {e a b tg : Expr} {P : PKA} {p pos : Pos}
theorem Reps.at' {K : PySem.W.Frag} {ms : List Addr} {H : Hp} {Fs : List Fact} {vs : List V} (h : Reps K ms H Fs vs) {i : Nat} {F : Fact} {x : V} (e : Fs[i]? = some F) (e2 : vs[i]? = some x) : F.r K ms H x := by
  obtain ⟨v, h1, h2⟩ := h.get e
  rw [e2] at h1; cases h1; exact h2
theorem wk_list (h : E X Γ os e fun F os1 => ∃ Fs, F = fL Fs ∧ P Fs os1) : Wk X Γ os tg e P := fun σ H R ok g =>
  uI.of (pi_list pe_u) (h σ H _ ok fun v H1 F os1 p s1 r1 => by
    obtain ⟨Fs, rfl, p⟩ := p
    obtain ⟨a, vs, rfl, hl, rs⟩ := r1
    refine ⟨a, rfl, ⟨vs, hl.sq⟩, g _ H1 Fs os1 p s1 (WalkOf.of walk_list rs.length (fun os' H' s => (hl.step s.keep s.new).sq) ?_)⟩
    rintro os' H' s i F x H2 e1 ⟨rfl, e2⟩
    exact ⟨Step.refl' s.ow s.nd, (rs.go s).at' e1 e2⟩)
theorem wk_tup (h : E X Γ os e fun F os1 => ∃ Fs, F = fT Fs ∧ P Fs os1) : Wk X Γ os tg e P := fun σ H R ok g =>
  uI.of (pi_tup pe_u) (h σ H _ ok fun v H1 F os1 p s1 r1 => by
    obtain ⟨Fs, rfl, p⟩ := p
    obtain ⟨a, vs, rfl, hl, rs⟩ := r1
    refine ⟨a, rfl, ⟨vs, hl.sq⟩, g _ H1 Fs os1 p s1 (WalkOf.of walk_tup rs.length (fun os' H' s => (hl.step s.keep s.new).sq) ?_)⟩
    rintro os' H' s i F x H2 e1 ⟨rfl, e2⟩
    exact ⟨Step.refl' s.ow s.nd, (rs.go s).at' e1 e2⟩)
def chars (z : Str) : List Fact := z.cps.toList.map fun c => fStr ⟨#[c]⟩
theorem wk_str (h : E X Γ os e fun F os1 => ∃ z, F = fStr z ∧ P (chars z) os1) : Wk X Γ os tg e P := fun σ H R ok g =>
  uI.of (pi_str pe_u) (h σ H _ ok fun v H1 F os1 p s1 r1 => by
    obtain ⟨z, rfl, p⟩ := p
    refine ⟨z, r1, g _ H1 _ os1 p s1 (WalkOf.of walk_str (by simp [chars]) (fun _ _ _ => trivial) ?_)⟩
    rintro os' H' s i F x H2 e1 ⟨rfl, c, e2, rfl⟩
    refine ⟨Step.refl' s.ow s.nd, ?_⟩
    have q : F = fStr ⟨#[c]⟩ := by
      unfold chars at e1
      rw [List.getElem?_map, Array.getElem?_toList, e2] at e1
      exact (Option.some.inj e1).symm
    rw [q]; rfl)
def irange (lo : Int) (n : Nat) : List Fact := (List.range n).map fun (i : Nat) => fInt (lo + (i : Int))
theorem walk_ints {K : PySem.W.Frag} {os1 : List Own} {H1 : Hp} {lo : Int} {n : Nat} : WalkOf K os1 H1 (Itr lo n) (irange lo n) := by
  refine WalkOf.of walk_range (by simp [irange]) (fun _ _ _ => trivial) ?_
  rintro os' H' s i F x H2 e1 ⟨rfl, rfl⟩
  refine ⟨Step.refl' s.ow s.nd, ?_⟩
  have hi := (List.getElem?_eq_some_iff.mp e1).1
  have hi : i < n := by simpa [irange] using hi
  have q : F = fInt (lo + (i : Int)) := by
    unfold irange at e1
    rw [List.getElem?_map, List.getElem?_range hi] at e1
    exact (Option.some.inj e1).symm
  rw [q]; rfl
theorem wk_range1 (hg : Gl X "range") (hm : X.mg "range" = none) (h : A X Γ os [a] fun Fs os1 => ∃ j : Int, Fs = [fInt j] ∧ -(2 ^ 62) ≤ j ∧ j < 2 ^ 62 ∧ P (irange 0 j.toNat) os1)
    (hs : starEach [a] X.env = [(false, eval a X.env)] := by rfl) : Wk X Γ os tg (.Call (.Name "range" p) [a] [] pos) P := fun σ H R ok g =>
  uI.of (pi_range1 hg hm pa_u hs) (h σ H _ ok fun vs H1 Fs os1 p s1 r1 => by
    obtain ⟨j, rfl, h1, h2, p⟩ := p
    cases r1 with
    | cons r1 r2 =>
      cases r2
      have e : _ = V.int j := r1
      subst e
      exact ⟨j, rfl, h1, h2, g _ H1 _ os1 p s1 walk_ints⟩)
theorem wk_range2 (hg : Gl X "range") (hm : X.mg "range" = none) (h : A X Γ os [a, b] fun Fs os1 => ∃ i j : Int, Fs = [fInt i, fInt j] ∧ (-(2 ^ 62) ≤ i ∧ i < 2 ^ 62 ∧ -(2 ^ 62) ≤ j ∧ j < 2 ^ 62) ∧ P (irange i (j - i).toNat) os1)
    (hs : starEach [a, b] X.env = [(false, eval a X.env), (false, eval b X.env)] := by rfl) (hs2 : starEach [b] X.env = [(false, eval b X.env)] := by rfl) : Wk X Γ os tg (.Call (.Name "range" p) [a, b] [] pos) P := fun σ H R ok g =>
  uI.of (pi_range2 hg hm pa_u hs hs2) (h σ H _ ok fun vs H1 Fs os1 p s1 r1 => by
    obtain ⟨i, j, rfl, h1, p⟩ := p
    cases r1 with
    | cons r1 r2 =>
      cases r2 with
      | cons r2 r3 =>
        cases r3
        have e : _ = V.int i := r1
        subst e
        have e : _ = V.int j := r2
        subst e
        exact ⟨i, j, rfl, h1, g _ H1 _ os1 p s1 walk_ints⟩)
end
/-- new pairs -/
def pairs2 (Fs Gs : List Fact) : List Fact := (Fs.zip Gs).map fun q => fT [q.1, q.2]
theorem pair_new {K : PySem.W.Frag} {os : List Own} {H : Hp} {T : Addr} {x y : V} {F G : Fact} (ow : ∀ o ∈ os, o.ok K (ms os) H) (nd : (ms os).Nodup) (hT : H T = none) (rx : F.r K (ms os) H x) (ry : G.r K (ms os) H y) :
    Step K os os H (upd H T (.tup [x, y])) ∧ (fT [F, G]).r K (ms os) (upd H T (.tup [x, y])) (.ref T) := by
  have s := Step.laid (o := .tup [x, y]) ow nd hT
  exact ⟨s, T, [x, y], rfl, .inl ⟨owned_ne ow hT, .inl upd_same⟩, .cons (Fact.go rx s) (.cons (Fact.go ry s) .nil)⟩
section
variable {X : Cx} {Γ : GEnv} {os : List Own} {e a b : Expr} {P : PKA} {p pos tpos : Pos} {elts : List Expr} {kk : Nat}
def nums (n : Nat) : List Fact := (List.range n).map fun (i : Nat) => fInt (i : Int)
theorem walk_enumF {K : PySem.W.Frag} {os1 : List Own} {H1 : Hp} {a : Addr} {vs : List V} {Fs : List Fact} (hl : LstAt K (ms os1) H1 a vs) (rs : Reps K (ms os1) H1 Fs vs) : WalkOf K os1 H1 (Ite K a) (pairs2 (nums Fs.length) Fs) := by
  refine WalkOf.of walk_enum (by simp [pairs2, nums, rs.length]) (fun os' H' s => (hl.step s.keep s.new).sq) ?_
  rintro os' H' s i F x H2 e1 ⟨T, u, v, rfl, hT, rfl, e2, e3⟩
  obtain ⟨G, hG, rG⟩ : ∃ G, Fs[i]? = some G ∧ G.r K (ms os') H' v := by
    have hi : i < Fs.length := by rw [rs.length]; exact (List.getElem?_eq_some_iff.mp e3).1
    exact ⟨Fs[i], by simp [hi], (rs.go s).at' (by simp [hi]) e3⟩
  have hi := (List.getElem?_eq_some_iff.mp hG).1
  have q : F = fT [fInt (i : Int), G] := by
    unfold pairs2 at e1
    rw [List.getElem?_map, List.getElem?_zip_eq_some (z := (fInt (i : Int), G)) |>.mpr ⟨by unfold nums; rw [List.getElem?_map, List.getElem?_range hi]; rfl, hG⟩] at e1
    exact (Option.some.inj e1).symm
  rw [q]
  cases e2
  exact pair_new s.ow s.nd hT rfl rG
theorem wk_enum (hg : Gl X "enumerate") (hm : X.mg "enumerate" = none) (h : A X Γ os [e] fun Gs os1 => ∃ Fs, Gs = [fL Fs] ∧ P (pairs2 (nums Fs.length) Fs) os1) (hs : starEach [e] X.env = [(false, eval e X.env)] := by rfl) :
    Wk X Γ os (.Tuple elts kk tpos) (.Call (.Name "enumerate" p) [e] [] pos) P := fun σ H R ok g =>
  uI.of (pi_enum hg hm pa_u hs) (h σ H _ ok fun vs H1 Gs os1 p s1 r1 => by
    obtain ⟨Fs, rfl, p⟩ := p
    cases r1 with
    | cons r1 r2 =>
      cases r2
      obtain ⟨a, ws, rfl, hl, rs⟩ := r1
      exact ⟨a, ws, rfl, hl.sq, g _ H1 _ os1 p s1 (walk_enumF hl rs)⟩)
end

section
variable {X : Cx} {d : AE} {Γ : GEnv} {os : List Own} {tg iter c : Expr} {body : List Stmt} {pos : Pos}
/-- over a walk by R -/
def WkR (X : Cx) (Γ : GEnv) (os : List Own) (tg iter : Expr) (P : List Fact → List Own → (List Own → Prop) → Prop) : Prop := ∀ σ H R, Ok X.K Γ os σ H → (∀ J H1 Its os1 RR, P Its os1 RR → Step X.K os os1 H H1 → WalkR X.K os1 H1 J Its RR → R J H1) → uI X tg iter σ H R
theorem Wk.r {P : List Fact → List Own → (List Own → Prop) → Prop} (h : Wk X Γ os tg iter fun Its os1 => P Its os1 fun _ => True) : WkR X Γ os tg iter P := fun σ H R ok g => h σ H R ok fun J H1 Its os1 p s w => g J H1 Its os1 _ p s w.r
theorem s1_forR (ix : List Nat) (hp : PassesOwn (model X.prog X.w) X.A X.env X.xe) (hc : X.calm = true)
    (h : WkR X Γ os tg iter fun Its os1 RR => ∃ Iv : Nat → GEnv → List Own → Prop, Iv 0 Γ os1 ∧ (∀ i Γ' os', Iv i Γ' os' → RR os') ∧
      (∀ (i : Nat) F Γ' os', Its[i]? = some F → Iv i Γ' os' → Tg X Γ' os' ix tg F fun Γ2 => S X { rt := d.rt, nx := Iv (i + 1), ct := Iv (i + 1), bk := d.nx } Γ2 os' body) ∧ ∀ Γ' os', Iv Its.length Γ' os' → d.nx Γ' os')
    (hs : ∀ x, foldedSetIterable iter X.env x = pure x := by intro _; rfl) : S1 X d Γ os (.For tg iter body [] pos) := fun σ H D ok g =>
  uS.of (ps_for hp hc pi_u pg_u pss_u hs) (h σ H _ ok fun J H1 Its os1 RR p s1 wk => by
    obtain ⟨Iv, h0, hRR, hstep, hend⟩ := p
    refine ⟨fun i m σ H => m = Its.length - i ∧ i ≤ Its.length ∧ ∃ Γ' os', Iv i Γ' os' ∧ Ok X.K Γ' os' σ H ∧ Step X.K os1 os' H1 H, ⟨_, rfl, Nat.zero_le _, Γ, os1, h0, ok.step s1, Step.refl' s1.ow s1.nd⟩, ?_⟩
    rintro i m σ H2 ⟨rfl, hi, Γ', os', hIv, ok2, s2⟩
    obtain ⟨w1, w2⟩ := wk os' H2 s2 (hRR i Γ' os' hIv)
    by_cases hlt : i < Its.length
    · obtain ⟨go, yl⟩ := w1 i Its[i] (by simp [hlt])
      refine .inr ⟨go, fun σ' H' => ∃ Γ3 os3, Iv (i + 1) Γ3 os3 ∧ Ok X.K Γ3 os3 σ' H' ∧ Step X.K os1 os3 H1 H', fun σ' H' q => ⟨_, by omega, rfl, hlt, q⟩, fun x H' y => ?_⟩
      obtain ⟨s3, rx⟩ := yl x H' y
      refine hstep i Its[i] Γ' os' (by simp [hlt]) hIv σ H' x _ (ok2.step s3) rx fun σ' Γ2 q ok3 _ => ?_
      have s4 := (s1.trans s2).trans s3
      refine q σ' H' _ ok3 ⟨g.rt.step s4, ?_, (g.step s4).nx, ?_⟩
      · intro σ5 H5 Γ5 os5 q5 s5 ok5
        exact ⟨Γ5, os5, q5, ok5, (s2.trans s3).trans s5⟩
      · intro σ5 H5 Γ5 os5 q5 s5 ok5
        exact ⟨Γ5, os5, q5, ok5, (s2.trans s3).trans s5⟩
    · have e : i = Its.length := by omega
      subst e
      exact .inl ⟨w2, g.nx σ H2 Γ' os' (hend Γ' os' hIv) (s1.trans s2) ok2⟩)
theorem s1_for (ix : List Nat) (hp : PassesOwn (model X.prog X.w) X.A X.env X.xe) (hc : X.calm = true)
    (h : Wk X Γ os tg iter fun Its os1 => ∃ Iv : Nat → GEnv → List Own → Prop, Iv 0 Γ os1 ∧
      (∀ (i : Nat) F Γ' os', Its[i]? = some F → Iv i Γ' os' → Tg X Γ' os' ix tg F fun Γ2 => S X { rt := d.rt, nx := Iv (i + 1), ct := Iv (i + 1), bk := d.nx } Γ2 os' body) ∧ ∀ Γ' os', Iv Its.length Γ' os' → d.nx Γ' os')
    (hs : ∀ x, foldedSetIterable iter X.env x = pure x := by intro _; rfl) : S1 X d Γ os (.For tg iter body [] pos) :=
  s1_forR ix hp hc (Wk.r fun σ H R ok g => h σ H R ok fun J H1 Its os1 ⟨Iv, h0, hstep, hend⟩ s w => g J H1 Its os1 ⟨Iv, h0, fun _ _ _ _ => trivial, hstep, hend⟩ s w) hs
theorem s1_while (hp : PassesOwn (model X.prog X.w) X.A X.env X.xe) (Iv : Nat → GEnv → List Own → Prop) (h0 : ∃ m, Iv m Γ os)
    (h : ∀ m Γ' os', Iv m Γ' os' → T X Γ' os' c fun b os1 => (b = true → S X { rt := d.rt, nx := fun Γ2 os2 => ∃ m', m' < m ∧ Iv m' Γ2 os2, ct := fun Γ2 os2 => ∃ m', m' < m ∧ Iv m' Γ2 os2, bk := d.nx } Γ' os1 body) ∧ (b = false → d.nx Γ' os1)) :
    S1 X d Γ os (.While c body [] pos) := fun σ H D ok g =>
  uS.of (ps_while hp pt_u pss_u) (by
    obtain ⟨m0, h0⟩ := h0
    refine ⟨fun m σ' H' => ∃ Γ' os', Iv m Γ' os' ∧ Ok X.K Γ' os' σ' H' ∧ Step X.K os os' H H', ⟨m0, Γ, os, h0, ok, ok.refl⟩, ?_⟩
    rintro m σ1 H1 ⟨Γ', os', hIv, ok1, s1⟩
    refine h m Γ' os' hIv σ1 H1 _ ok1 fun b H2 os2 p s2 => ?_
    cases b with
    | true =>
      rw [if_pos rfl]
      refine ⟨fun σ' H' => ∃ m', m' < m ∧ ∃ Γ3 os3, Iv m' Γ3 os3 ∧ Ok X.K Γ3 os3 σ' H' ∧ Step X.K os os3 H H', fun σ' H' q => q, ?_⟩
      refine p.1 rfl σ1 H2 _ (ok1.step s2) ⟨g.rt.step (s1.trans s2), ?_, (g.step (s1.trans s2)).nx, ?_⟩
      · rintro σ5 H5 Γ5 os5 ⟨m', hm, q5⟩ s5 ok5
        exact ⟨m', hm, Γ5, os5, q5, ok5, (s1.trans s2).trans s5⟩
      · rintro σ5 H5 Γ5 os5 ⟨m', hm, q5⟩ s5 ok5
        exact ⟨m', hm, Γ5, os5, q5, ok5, (s1.trans s2).trans s5⟩
    | false =>
      rw [if_neg (by decide)]
      exact g.nx σ1 H2 Γ' os2 (p.2 rfl) (s1.trans s2) (ok1.step s2))
end

structure BA where
  s : Shared
  H : Hp
  C : Addr
  cl : List (Str × Addr)
  fp : List Addr
abbrev bk (X : Cx) (scope : Scope) (B : BA) : Cx := X.blk B.s B.H scope (compEnvC scope B.cl B.C X.env) B.fp
def wipeG (Γ : GEnv) : List Nat → GEnv
  | [] => Γ
  | v :: vs => (wipeG Γ vs).set v none
theorem Ok.unset {K : PySem.W.Frag} {Γ : GEnv} {os : List Own} {σ : L2.St} {H : Hp} (ok : Ok K Γ os σ H) (i : Nat) : Ok K (Γ.set i none) os (σ.set i none) H :=
  ⟨by rw [List.length_set, List.length_set]; exact ok.len, fun j G e => by
    by_cases hj : i = j
    · subst hj
      by_cases hl : i < Γ.length
      · rw [List.getElem?_set_self hl] at e; cases e
      · rw [List.getElem?_eq_none (by simpa using hl)] at e; cases e
    · rw [List.getElem?_set_ne hj] at e
      obtain ⟨w, h1, h2⟩ := ok.sl j G e
      exact ⟨w, by rw [List.getElem?_set_ne hj]; exact h1, h2⟩, ok.ow, ok.nd⟩
theorem Ok.wipe {K : PySem.W.Frag} {Γ : GEnv} {os : List Own} {σ : L2.St} {H : Hp} (ok : Ok K Γ os σ H) : ∀ vs, Ok K (wipeG Γ vs) os (L2.wipe σ vs) H
  | [] => ok
  | v :: vs => (ok.wipe vs).unset v
theorem wipe_in {σ : L2.St} {i : Nat} : ∀ {vs : List Nat}, i ∈ vs → i < σ.length → (wipe σ vs)[i]? = some none
  | v :: vs, h, hl => by
    unfold wipe
    by_cases e : v = i
    · subst e; rw [List.getElem?_set_self (by rw [wipe_length]; exact hl)]
    · rw [List.getElem?_set_ne e]
      exact wipe_in ((List.mem_cons.mp h).resolve_left fun z => e z.symm) hl
theorem wipe_eq {σ σ2 : L2.St} {vs : List Nat} (hl : σ2.length = σ.length) (h : ∀ i, i ∉ vs → σ2[i]? = (wipe σ vs)[i]?) : wipe σ2 vs = wipe σ vs := by
  apply List.ext_getElem?
  intro i
  by_cases hi : i ∈ vs
  · by_cases hb : i < σ.length
    · rw [wipe_in hi hb, wipe_in hi (by rw [hl]; exact hb)]
    · rw [List.getElem?_eq_none (by rw [wipe_length, hl]; omega), List.getElem?_eq_none (by rw [wipe_length]; omega)]
  · rw [wipe_out hi]; exact h i hi
section
variable {X : Cx} {Γ : GEnv} {os : List Own} {tg iter elt cnd : Expr} {Post : PK1} {pos : Pos} {scope : Scope} {own : List (Str × Nat)} {ifs : List Expr}
def uGb (X : Cx) (scope : Scope) (tg : Expr) : TG := fun v σ H Q => ∀ B : BA, uG (bk X scope B) tg v σ H Q
def uEb (X : Cx) (scope : Scope) (e : Expr) : TE := fun σ H Q => ∀ B : BA, uE (bk X scope B) e σ H Q
def uTb (X : Cx) (scope : Scope) (e : Expr) : TT := fun σ H Q => ∀ B : BA, uT (bk X scope B) e σ H Q
theorem put_app {K : PySem.W.Frag} {os : List Own} {H : Hp} {D : Addr} {acc : List Fact} {G : Fact} {y : V} (ow : ∀ o ∈ (Own.lst D acc :: os), o.ok K (ms (Own.lst D acc :: os)) H) (nd : (ms (Own.lst D acc :: os)).Nodup)
    (r : G.r K (ms (Own.lst D acc :: os)) H y) : ∃ vs, H D = some (.lst vs) ∧ vs.length = acc.length ∧ Step K (.lst D acc :: os) (.lst D (acc ++ [G]) :: os) H (upd H D (.lst (vs ++ [y]))) := by
  obtain ⟨vs, e, rs⟩ := ow _ List.mem_cons_self
  refine ⟨vs, e, rs.length.symm, Step.put (o := .lst D acc) (o' := .lst D (acc ++ [G])) (u := .lst (vs ++ [y])) ow nd 0 rfl rfl fun kp => ?_⟩
  exact ⟨_, upd_same, (rs.append (.cons r .nil)).step kp fun _ z => .inl z⟩
theorem pg_b (s : Shared) (H : Hp) (C : Addr) (cl : List (Str × Addr)) (fp : List Addr) : PG (X.blk s H scope (compEnvC scope cl C X.env) fp) tg (uGb X scope tg) := ⟨fun pins s' σ' H' v u Q' I r hh => by
  have h2 : ∀ B : BA, uG (bk X scope B) tg v σ' H' Q' := hh
  exact h2 ⟨s, H, C, cl, fp⟩ pins s' u I r⟩
theorem pe_b (s : Shared) (H : Hp) (C : Addr) (cl : List (Str × Addr)) (fp : List Addr) : PE (X.blk s H scope (compEnvC scope cl C X.env) fp) elt (uEb X scope elt) := ⟨fun pins s' σ' H' Q' I hh => by
  have h2 : ∀ B : BA, uE (bk X scope B) elt σ' H' Q' := hh
  exact h2 ⟨s, H, C, cl, fp⟩ pins s' I⟩
theorem pt_b (s : Shared) (H : Hp) (C : Addr) (cl : List (Str × Addr)) (fp : List Addr) : PT (X.blk s H scope (compEnvC scope cl C X.env) fp) cnd (uTb X scope cnd) := ⟨fun pins s' σ' H' Q' I hh => by
  have h2 : ∀ B : BA, uT (bk X scope B) cnd σ' H' Q' := hh
  exact h2 ⟨s, H, C, cl, fp⟩ pins s' I⟩
/-- what a comprehension gives, wherever it goes -/
def LC (X : Cx) (Γ : GEnv) (os : List Own) (tg iter elt : Expr) (scope : Scope) (own : List (Str × Nat)) (tt : TT) (Post : PK1) : Prop := ∀ σ H Q, Ok X.K Γ os σ H → Give X.K os H Post Q → tLc (uI X tg iter) (uGb X scope tg) tt (uEb X scope elt) (own.map (·.2)) σ H Q
theorem lc_t (own : List (Str × Nat)) (tt : TT)
    (h : WkR X Γ os tg iter fun Its os1 RR => ∃ Iv : Nat → List Fact → List Own → Prop, Iv 0 [] os1 ∧ (∀ i acc os' D, Iv i acc os' → RR (.lst D acc :: os')) ∧
      (∀ (i : Nat) F acc os' D, Its[i]? = some F → Iv i acc os' → acc.length ≤ i → ∀ B : BA, Tg (bk X scope B) (wipeG Γ (own.map (·.2))) (.lst D acc :: os') (own.map (·.2)) tg F fun Γ2 =>
        ∀ σ2 H2 Q, Ok X.K Γ2 (.lst D acc :: os') σ2 H2 → GiveB X.K (.lst D acc :: os') H2 (fun b os2 => (b = true → ∀ B : BA, E (bk X scope B) Γ2 os2 elt fun G os3 => ∃ os4, os3 = .lst D acc :: os4 ∧ Iv (i + 1) (acc ++ [G]) os4) ∧
          (b = false → ∃ os4, os2 = .lst D acc :: os4 ∧ Iv (i + 1) acc os4)) Q → tt σ2 H2 Q) ∧ Its.length ≤ 1000000 ∧ ∀ acc os', acc.length ≤ Its.length → Iv Its.length acc os' → Post (fL acc) os') : LC X Γ os tg iter elt scope own tt Post := fun σ H Q okk g => by
  refine h σ H _ okk fun J H1 Its os1 RR p s1 wk => ?_
  obtain ⟨Iv, h0, hRR, hstep, hlen, hend⟩ := p
  intro D hD
  have okD : Ok X.K Γ os1 σ H1 := okk.step s1
  -- the new list is ours meanwhile
  have sD : Step X.K os1 (.lst D [] :: os1) H1 (upd H1 D (.lst [])) := by
    have s := Step.laid (o := .lst []) okD.ow okD.nd hD
    have nw := owned_ne okD.ow hD
    refine ⟨s.keep, fun a ha => ?_, fun u hu => ?_, List.nodup_cons.mpr ⟨nw, okD.nd⟩⟩
    · rcases List.mem_cons.mp ha with z | z
      · rw [z]; exact .inr hD
      · exact .inl z
    · rcases List.mem_cons.mp hu with z | z
      · rw [z]; exact ⟨[], upd_same, .nil⟩
      · refine Own.ok_step (okD.ow u z) (by obtain ⟨q, e⟩ := Own.ok_tr (okD.ow u z); rw [upd_ne (ne_of_none e hD)]) s.keep fun a ha => ?_
        rcases List.mem_cons.mp ha with z | z
        · rw [z]; exact .inr hD
        · exact .inl z
  refine ⟨fun i m H' => m = Its.length - i ∧ i ≤ Its.length ∧ ∃ acc os', Iv i acc os' ∧ acc.length ≤ i ∧ Step X.K os1 (.lst D acc :: os') H1 H', ⟨_, rfl, Nat.zero_le _, [], os1, h0, Nat.le_refl _, sD⟩, ?_⟩
  rintro i m H2 ⟨rfl, hi, acc, os', hIv, hacc, s2⟩
  obtain ⟨w1, w2⟩ := wk _ H2 s2 (hRR i acc os' D hIv)
  by_cases hlt : i < Its.length
  · obtain ⟨go, yl⟩ := w1 i Its[i] (by simp [hlt])
    refine .inr ⟨go, fun H' => ∃ acc os', Iv (i + 1) acc os' ∧ acc.length ≤ i + 1 ∧ Step X.K os1 (.lst D acc :: os') H1 H', fun H' q => ⟨_, by omega, rfl, hlt, q⟩, fun x H3 y B => ?_⟩
    obtain ⟨s3, rx⟩ := yl x H3 y
    have ok3 := ((okD.step s2).step s3).wipe (own.map (·.2))
    have ln : (wipe σ (own.map (·.2))).length = σ.length := wipe_length _ _
    refine hstep i Its[i] acc os' D (by simp [hlt]) hIv hacc B (wipe σ (own.map (·.2))) H3 x _ ok3 rx ?_
    intro σ2 Γ2 q ok4 hk
    refine ⟨?_, ?_⟩
    · exact wipe_eq (hk.1.trans ln) hk.2
    · refine q σ2 H3 _ ok4 fun b H4 os4 p4 s4 => ?_
      cases b with
      | true =>
        rw [if_pos rfl]
        intro B2
        refine p4.1 rfl B2 σ2 H4 _ (ok4.step s4) fun y H5 G os5 p5 s5 r5 => ?_
        obtain ⟨os6, rfl, hIv6⟩ := p5
        obtain ⟨vs, e5, l5, s6⟩ := put_app s5.ow s5.nd r5
        exact ⟨vs, e5, by rw [l5]; exact Nat.lt_of_le_of_lt (Nat.le_trans hacc hi) (Nat.lt_of_le_of_lt hlen (by decide)), _, os6, hIv6, by simp; exact hacc, (((s2.trans s3).trans s4).trans s5).trans s6⟩
      | false =>
        rw [if_neg (by decide)]
        obtain ⟨os6, rfl, hIv6⟩ := p4.2 rfl
        exact ⟨acc, os6, hIv6, by omega, ((s2.trans s3).trans s4)⟩
  · have e : i = Its.length := by omega
    subst e
    obtain ⟨sf, rf⟩ := frz_ok s2.ow s2.nd
    exact .inl ⟨w2, g _ H2 _ os' (hend acc os' hacc hIv) ((s1.trans s2).trans sf) rf⟩
theorem lc_e (hc : X.calm = true) (hN : X.N.Nodup) (ok : BlkOk X.N X.env.scope scope own) (ifs : List Expr) {tt : TT} (ht : ∀ B : BA, PTs (bk X scope B) ifs tt) (hs : ∀ x, foldedSetIterable iter X.env x = pure x)
    (h : LC X Γ os tg iter elt scope own tt Post) : E X Γ os (.ListComp elt [⟨tg, iter, ifs, 0⟩] scope pos) Post := fun σ H Q okk g =>
  uE.of (pe_lc (g := uGb X scope tg) (tt := tt) (te := uEb X scope elt) hc hN pi_u ok pg_b (fun s H C cl fp => ht ⟨s, H, C, cl, fp⟩) pe_b hs) (h σ H Q okk g)
theorem lc_set {d : AE} (i : Nat) {y : Str} {py spos : Pos} (hc : X.calm = true) (hN : X.N.Nodup) (hy : X.N[i]? = some y) (hyl : X.env.scope.names.lookup y = some .local) (hsw : swapsWith (.ListComp elt [⟨tg, iter, ifs, 0⟩] scope pos) (some (.Name y py)) spos.line X.env = pure true)
    (ok : BlkOk X.N X.env.scope scope own) {tt : TT} (ht : ∀ B : BA, PTs (bk X scope B) ifs tt) (hs : ∀ x, foldedSetIterable iter X.env x = pure x)
    (h : LC X Γ os tg iter elt scope own tt fun F os' => d.nx (Γ.set i (some F)) os') : S1 X d Γ os (.Assign [.Name y py] (.ListComp elt [⟨tg, iter, ifs, 0⟩] scope pos) spos) := fun σ H D okk g =>
  uS.of (ps_setLc (g := uGb X scope tg) (tt := tt) (te := uEb X scope elt) hc hN hy hyl hsw pi_u ok pg_b (fun s H C cl fp => ht ⟨s, H, C, cl, fp⟩) pe_b hs) (h σ H (fun x H1 => gName i x σ H1 D.nx) okk fun v H1 F os1 p s1 r1 => g.nx _ H1 _ os1 p s1 ((okk.step s1).set r1 i))
theorem lc_all (hc : X.calm = true) (hN : X.N.Nodup) (ok : BlkOk X.N X.env.scope scope own) (ifs : List Expr) (tt : TT) (ht : ∀ B : BA, PTs (bk X scope B) ifs tt) (hs : ∀ x, foldedSetIterable iter X.env x = pure x)
    (h : WkR X Γ os tg iter fun Its os1 RR => ∃ Iv : Nat → List Fact → List Own → Prop, Iv 0 [] os1 ∧ (∀ i acc os' D, Iv i acc os' → RR (.lst D acc :: os')) ∧
      (∀ (i : Nat) F acc os' D, Its[i]? = some F → Iv i acc os' → acc.length ≤ i → ∀ B : BA, Tg (bk X scope B) (wipeG Γ (own.map (·.2))) (.lst D acc :: os') (own.map (·.2)) tg F fun Γ2 =>
        ∀ σ2 H2 Q, Ok X.K Γ2 (.lst D acc :: os') σ2 H2 → GiveB X.K (.lst D acc :: os') H2 (fun b os2 => (b = true → ∀ B : BA, E (bk X scope B) Γ2 os2 elt fun G os3 => ∃ os4, os3 = .lst D acc :: os4 ∧ Iv (i + 1) (acc ++ [G]) os4) ∧
          (b = false → ∃ os4, os2 = .lst D acc :: os4 ∧ Iv (i + 1) acc os4)) Q → tt σ2 H2 Q) ∧ Its.length ≤ 1000000 ∧ ∀ acc os', acc.length ≤ Its.length → Iv Its.length acc os' → Post (fL acc) os') : E X Γ os (.ListComp elt [⟨tg, iter, ifs, 0⟩] scope pos) Post :=
  lc_e hc hN ok ifs ht hs (lc_t own tt h)
theorem e_lc (hc : X.calm = true) (hN : X.N.Nodup) (own : List (Str × Nat)) (ok : BlkOk X.N X.env.scope scope own)
    (h : Wk X Γ os tg iter fun Its os1 => ∃ Iv : Nat → List Fact → List Own → Prop, Iv 0 [] os1 ∧
      (∀ (i : Nat) F acc os' D, Its[i]? = some F → Iv i acc os' → acc.length ≤ i → ∀ B : BA, Tg (bk X scope B) (wipeG Γ (own.map (·.2))) (.lst D acc :: os') (own.map (·.2)) tg F fun Γ2 =>
        ∀ B : BA, E (bk X scope B) Γ2 (.lst D acc :: os') elt fun G os3 => ∃ os4, os3 = .lst D acc :: os4 ∧ Iv (i + 1) (acc ++ [G]) os4) ∧
        Its.length ≤ 1000000 ∧ ∀ acc os', acc.length ≤ Its.length → Iv Its.length acc os' → Post (fL acc) os')
    (hs : ∀ x, foldedSetIterable iter X.env x = pure x := by intro _; rfl) : E X Γ os (.ListComp elt [⟨tg, iter, [], 0⟩] scope pos) Post :=
  lc_all hc hN ok [] tYes (fun _ => pts_nil) hs (Wk.r fun σ H R okk g => h σ H R okk fun J H1 Its os1 p s1 wk => g J H1 Its os1 (by
    obtain ⟨Iv, h0, hstep, hlen, hend⟩ := p
    refine ⟨Iv, h0, fun _ _ _ _ _ => trivial, fun i F acc os' D e hIv ha B σ2 H2 v Q ok2 r q => hstep i F acc os' D e hIv ha B σ2 H2 v Q ok2 r fun σ3 Γ3 p3 ok3 k3 => q σ3 Γ3 ?_ ok3 k3, hlen, hend⟩
    intro σ4 H4 Q4 ok4 g4
    exact g4 true H4 _ ⟨fun _ => p3, fun z => by cases z⟩ ok4.refl) s1 wk)
theorem e_lcif (hc : X.calm = true) (hN : X.N.Nodup) (own : List (Str × Nat)) (ok : BlkOk X.N X.env.scope scope own)
    (h : Wk X Γ os tg iter fun Its os1 => ∃ Iv : Nat → List Fact → List Own → Prop, Iv 0 [] os1 ∧
      (∀ (i : Nat) F acc os' D, Its[i]? = some F → Iv i acc os' → acc.length ≤ i → ∀ B : BA, Tg (bk X scope B) (wipeG Γ (own.map (·.2))) (.lst D acc :: os') (own.map (·.2)) tg F fun Γ2 =>
        ∀ B : BA, T (bk X scope B) Γ2 (.lst D acc :: os') cnd fun b os2 => (b = true → ∀ B : BA, E (bk X scope B) Γ2 os2 elt fun G os3 => ∃ os4, os3 = .lst D acc :: os4 ∧ Iv (i + 1) (acc ++ [G]) os4) ∧
          (b = false → ∃ os4, os2 = .lst D acc :: os4 ∧ Iv (i + 1) acc os4)) ∧
        Its.length ≤ 1000000 ∧ ∀ acc os', acc.length ≤ Its.length → Iv Its.length acc os' → Post (fL acc) os')
    (hs : ∀ x, foldedSetIterable iter X.env x = pure x := by intro _; rfl) : E X Γ os (.ListComp elt [⟨tg, iter, [cnd], 0⟩] scope pos) Post :=
  lc_all hc hN ok [cnd] (uTb X scope cnd) (fun B => pts_one (pt_b B.s B.H B.C B.cl B.fp)) hs (Wk.r fun σ H R okk g => h σ H R okk fun J H1 Its os1 p s1 wk => g J H1 Its os1 (by
    obtain ⟨Iv, h0, hstep, hlen, hend⟩ := p
    refine ⟨Iv, h0, fun _ _ _ _ _ => trivial, fun i F acc os' D e hIv ha B σ2 H2 v Q ok2 r q => hstep i F acc os' D e hIv ha B σ2 H2 v Q ok2 r fun σ3 Γ3 p3 ok3 k3 => q σ3 Γ3 ?_ ok3 k3, hlen, hend⟩
    intro σ4 H4 Q4 ok4 g4 B2
    exact p3 B2 σ4 H4 _ ok4 g4) s1 wk)
/-- over an owned list that stays -/
theorem wkr_own {P : List Fact → List Own → (List Own → Prop) → Prop} (h : E X Γ os iter fun F os1 => ∃ l Fs, F = fRef l ∧ Own.lst l Fs ∈ os1 ∧ P Fs os1 fun os' => Own.lst l Fs ∈ os') : WkR X Γ os tg iter P := fun σ H R ok g =>
  uI.of (pi_list pe_u) (h σ H _ ok fun v H1 F os1 p s1 r1 => by
    obtain ⟨l, Fs, rfl, hl, p⟩ := p
    cases (show v = .ref l from r1)
    obtain ⟨vs0, e0, r0⟩ := s1.ow _ hl
    refine ⟨l, rfl, ⟨vs0, SqL.of e0⟩, g _ H1 Fs os1 _ p s1 fun os' H' s hm => ?_⟩
    obtain ⟨vs, e, rs⟩ := s.ow _ hm
    refine ⟨fun i F hF => ⟨walk_list.goes i H' (by rw [← rs.length]; exact (List.getElem?_eq_some_iff.mp hF).1) (SqL.of e), fun x H2 y => ?_⟩, by rw [rs.length]; exact walk_list.stops H' (SqL.of e)⟩
    obtain ⟨rfl, e2⟩ := walk_list.yields i H' x H2 (by rw [← rs.length]; exact (List.getElem?_eq_some_iff.mp hF).1) (SqL.of e) y
    exact ⟨Step.refl' s.ow s.nd, rs.at' hF e2⟩)
theorem e_lcO (hc : X.calm = true) (hN : X.N.Nodup) (own : List (Str × Nat)) (ok : BlkOk X.N X.env.scope scope own)
    (h : WkR X Γ os tg iter fun Its os1 RR => ∃ Iv : Nat → List Fact → List Own → Prop, Iv 0 [] os1 ∧ (∀ i acc os' D, Iv i acc os' → RR (.lst D acc :: os')) ∧
      (∀ (i : Nat) F acc os' D, Its[i]? = some F → Iv i acc os' → acc.length ≤ i → ∀ B : BA, Tg (bk X scope B) (wipeG Γ (own.map (·.2))) (.lst D acc :: os') (own.map (·.2)) tg F fun Γ2 =>
        ∀ B : BA, E (bk X scope B) Γ2 (.lst D acc :: os') elt fun G os3 => ∃ os4, os3 = .lst D acc :: os4 ∧ Iv (i + 1) (acc ++ [G]) os4) ∧
        Its.length ≤ 1000000 ∧ ∀ acc os', acc.length ≤ Its.length → Iv Its.length acc os' → Post (fL acc) os')
    (hs : ∀ x, foldedSetIterable iter X.env x = pure x := by intro _; rfl) : E X Γ os (.ListComp elt [⟨tg, iter, [], 0⟩] scope pos) Post :=
  lc_all hc hN ok [] tYes (fun _ => pts_nil) hs fun σ H R okk g => h σ H R okk fun J H1 Its os1 RR p s1 wk => g J H1 Its os1 RR (by
    obtain ⟨Iv, h0, hRR, hstep, hlen, hend⟩ := p
    refine ⟨Iv, h0, hRR, fun i F acc os' D e hIv ha B σ2 H2 v Q ok2 r q => hstep i F acc os' D e hIv ha B σ2 H2 v Q ok2 r fun σ3 Γ3 p3 ok3 k3 => q σ3 Γ3 ?_ ok3 k3, hlen, hend⟩
    intro σ4 H4 Q4 ok4 g4
    exact g4 true H4 _ ⟨fun _ => p3, fun z => by cases z⟩ ok4.refl) s1 wk
theorem s1_lc {d : AE} (i : Nat) {y : Str} {py spos : Pos} (hc : X.calm = true) (hN : X.N.Nodup) (hy : X.N[i]? = some y) (hyl : X.env.scope.names.lookup y = some .local) (own : List (Str × Nat)) (ok : BlkOk X.N X.env.scope scope own)
    (h : Wk X Γ os tg iter fun Its os1 => ∃ Iv : Nat → List Fact → List Own → Prop, Iv 0 [] os1 ∧
      (∀ (i : Nat) F acc os' D, Its[i]? = some F → Iv i acc os' → acc.length ≤ i → ∀ B : BA, Tg (bk X scope B) (wipeG Γ (own.map (·.2))) (.lst D acc :: os') (own.map (·.2)) tg F fun Γ2 =>
        ∀ B : BA, E (bk X scope B) Γ2 (.lst D acc :: os') elt fun G os3 => ∃ os4, os3 = .lst D acc :: os4 ∧ Iv (i + 1) (acc ++ [G]) os4) ∧
        Its.length ≤ 1000000 ∧ ∀ acc os', acc.length ≤ Its.length → Iv Its.length acc os' → d.nx (Γ.set i (some (fL acc))) os')
    (hsw : swapsWith (.ListComp elt [⟨tg, iter, [], 0⟩] scope pos) (some (.Name y py)) spos.line X.env = pure true)
    (hs : ∀ x, foldedSetIterable iter X.env x = pure x := by intro _; rfl) : S1 X d Γ os (.Assign [.Name y py] (.ListComp elt [⟨tg, iter, [], 0⟩] scope pos) spos) :=
  lc_set i hc hN hy hyl hsw ok (fun _ => pts_nil) hs <| lc_t own tYes (Post := fun F os' => d.nx (Γ.set i (some F)) os') <| (Wk.r fun σ H R okk g => h σ H R okk fun J H1 Its os1 p s1 wk => g J H1 Its os1 (by
    obtain ⟨Iv, h0, hstep, hlen, hend⟩ := p
    refine ⟨Iv, h0, fun _ _ _ _ _ => trivial, fun i F acc os' D e hIv ha B σ2 H2 v Q ok2 r q => hstep i F acc os' D e hIv ha B σ2 H2 v Q ok2 r fun σ3 Γ3 p3 ok3 k3 => q σ3 Γ3 ?_ ok3 k3, hlen, hend⟩
    intro σ4 H4 Q4 ok4 g4
    exact g4 true H4 _ ⟨fun _ => p3, fun z => by cases z⟩ ok4.refl) s1 wk)
theorem s1_lcif {d : AE} (i : Nat) {y : Str} {py spos : Pos} (hc : X.calm = true) (hN : X.N.Nodup) (hy : X.N[i]? = some y) (hyl : X.env.scope.names.lookup y = some .local) (own : List (Str × Nat)) (ok : BlkOk X.N X.env.scope scope own)
    (h : Wk X Γ os tg iter fun Its os1 => ∃ Iv : Nat → List Fact → List Own → Prop, Iv 0 [] os1 ∧
      (∀ (i : Nat) F acc os' D, Its[i]? = some F → Iv i acc os' → acc.length ≤ i → ∀ B : BA, Tg (bk X scope B) (wipeG Γ (own.map (·.2))) (.lst D acc :: os') (own.map (·.2)) tg F fun Γ2 =>
        ∀ B : BA, T (bk X scope B) Γ2 (.lst D acc :: os') cnd fun b os2 => (b = true → ∀ B : BA, E (bk X scope B) Γ2 os2 elt fun G os3 => ∃ os4, os3 = .lst D acc :: os4 ∧ Iv (i + 1) (acc ++ [G]) os4) ∧
          (b = false → ∃ os4, os2 = .lst D acc :: os4 ∧ Iv (i + 1) acc os4)) ∧
        Its.length ≤ 1000000 ∧ ∀ acc os', acc.length ≤ Its.length → Iv Its.length acc os' → d.nx (Γ.set i (some (fL acc))) os')
    (hsw : swapsWith (.ListComp elt [⟨tg, iter, [cnd], 0⟩] scope pos) (some (.Name y py)) spos.line X.env = pure true)
    (hs : ∀ x, foldedSetIterable iter X.env x = pure x := by intro _; rfl) : S1 X d Γ os (.Assign [.Name y py] (.ListComp elt [⟨tg, iter, [cnd], 0⟩] scope pos) spos) :=
  lc_set i hc hN hy hyl hsw ok (fun B => pts_one (pt_b B.s B.H B.C B.cl B.fp)) hs <| lc_t own (uTb X scope cnd) (Post := fun F os' => d.nx (Γ.set i (some F)) os') <| (Wk.r fun σ H R okk g => h σ H R okk fun J H1 Its os1 p s1 wk => g J H1 Its os1 (by
    obtain ⟨Iv, h0, hstep, hlen, hend⟩ := p
    refine ⟨Iv, h0, fun _ _ _ _ _ => trivial, fun i F acc os' D e hIv ha B σ2 H2 v Q ok2 r q => hstep i F acc os' D e hIv ha B σ2 H2 v Q ok2 r fun σ3 Γ3 p3 ok3 k3 => q σ3 Γ3 ?_ ok3 k3, hlen, hend⟩
    intro σ4 H4 Q4 ok4 g4 B2
    exact p3 B2 σ4 H4 _ ok4 g4) s1 wk)
theorem s1_lcO {d : AE} (i : Nat) {y : Str} {py spos : Pos} (hc : X.calm = true) (hN : X.N.Nodup) (hy : X.N[i]? = some y) (hyl : X.env.scope.names.lookup y = some .local) (own : List (Str × Nat)) (ok : BlkOk X.N X.env.scope scope own)
    (h : WkR X Γ os tg iter fun Its os1 RR => ∃ Iv : Nat → List Fact → List Own → Prop, Iv 0 [] os1 ∧ (∀ i acc os' D, Iv i acc os' → RR (.lst D acc :: os')) ∧
      (∀ (i : Nat) F acc os' D, Its[i]? = some F → Iv i acc os' → acc.length ≤ i → ∀ B : BA, Tg (bk X scope B) (wipeG Γ (own.map (·.2))) (.lst D acc :: os') (own.map (·.2)) tg F fun Γ2 =>
        ∀ B : BA, E (bk X scope B) Γ2 (.lst D acc :: os') elt fun G os3 => ∃ os4, os3 = .lst D acc :: os4 ∧ Iv (i + 1) (acc ++ [G]) os4) ∧
        Its.length ≤ 1000000 ∧ ∀ acc os', acc.length ≤ Its.length → Iv Its.length acc os' → d.nx (Γ.set i (some (fL acc))) os')
    (hsw : swapsWith (.ListComp elt [⟨tg, iter, [], 0⟩] scope pos) (some (.Name y py)) spos.line X.env = pure true)
    (hs : ∀ x, foldedSetIterable iter X.env x = pure x := by intro _; rfl) : S1 X d Γ os (.Assign [.Name y py] (.ListComp elt [⟨tg, iter, [], 0⟩] scope pos) spos) :=
  lc_set i hc hN hy hyl hsw ok (fun _ => pts_nil) hs <| lc_t own tYes (Post := fun F os' => d.nx (Γ.set i (some F)) os') <| fun σ H R okk g => h σ H R okk fun J H1 Its os1 RR p s1 wk => g J H1 Its os1 RR (by
    obtain ⟨Iv, h0, hRR, hstep, hlen, hend⟩ := p
    refine ⟨Iv, h0, hRR, fun i F acc os' D e hIv ha B σ2 H2 v Q ok2 r q => hstep i F acc os' D e hIv ha B σ2 H2 v Q ok2 r fun σ3 Γ3 p3 ok3 k3 => q σ3 Γ3 ?_ ok3 k3, hlen, hend⟩
    intro σ4 H4 Q4 ok4 g4
    exact g4 true H4 _ ⟨fun _ => p3, fun z => by cases z⟩ ok4.refl) s1 wk
end
end G
namespace G
open PySem L2
theorem OpR.or {X : Cx} {f : Value → Value → Sem Value} {r r' : R2} (h : OpR X f r) (h' : OpR X f r') : OpR X f (fun x y H Q => r x y H Q ∨ r' x y H Q) := fun pins s σ H x y v u Q I rx ry q =>
  q.elim (h pins s σ H x y v u Q I rx ry) (h' pins s σ H x y v u Q I rx ry)
theorem CallR.or {X : Cx} {f : Value} {r r' : List V → Hp → VK → Prop} (h : CallR X f r) (h' : CallR X f r') : CallR X f (fun x H Q => r x H Q ∨ r' x H Q) := fun pins s σ H x v Q I rx q =>
  q.elim (h pins s σ H x v Q I rx) (h' pins s σ H x v Q I rx)
section
variable {K : PySem.W.Frag} {os : List Own} {Post : PK1} {F F' : Fact} {r r' : R2} {q q' : List V → Hp → VK → Prop} {Fs Gs : List Fact}
theorem Op2.inl (h : Op2 K os r F F' Post) : Op2 K os (fun x y H Q => r x y H Q ∨ r' x y H Q) F F' Post := fun x y H Q ow nd rx ry g => .inl (h x y H Q ow nd rx ry g)
theorem Op2.inr (h : Op2 K os r' F F' Post) : Op2 K os (fun x y H Q => r x y H Q ∨ r' x y H Q) F F' Post := fun x y H Q ow nd rx ry g => .inr (h x y H Q ow nd rx ry g)
theorem OpA.inl (h : OpA K os q Fs Post) : OpA K os (fun x H Q => q x H Q ∨ q' x H Q) Fs Post := fun x H Q ow nd rx g => .inl (h x H Q ow nd rx g)
theorem OpA.inr (h : OpA K os q' Fs Post) : OpA K os (fun x H Q => q x H Q ∨ q' x H Q) Fs Post := fun x H Q ow nd rx g => .inr (h x H Q ow nd rx g)
theorem o_I0 {g : Int → Int → V} {i j : Int} (h : Post (fV (g i j)) os) : Op2 K os (rI0 g) (fInt i) (fInt j) Post := fun x y H Q ow nd rx ry gv => ⟨i, j, rx, ry, gv.now h ow nd rfl⟩
theorem o_I {C : Int → Int → Prop} {g : Int → Int → V} {i j : Int} (hc : C i j) (h : Post (fV (g i j)) os) : Op2 K os (rI C g) (fInt i) (fInt j) Post := fun x y H Q ow nd rx ry gv => ⟨i, j, rx, ry, hc, gv.now h ow nd rfl⟩
def rAddS : R2 := fun x y H Q => ∃ i j, x = .str i ∧ y = .str j ∧ i.length + j.length ≤ sizeLine ∧ Q (.str (i ++ j)) H
def rAdd (K : PySem.W.Frag) : R2 := fun x y H Q => rI0 (fun i j => .int (i + j)) x y H Q ∨ (rAddS x y H Q ∨ (rCat x y H Q ∨ rCatA K x y H Q))
theorem op_addU {X : Cx} : OpR X (binaryOp .Add) (rAdd X.K) := OpR.or op_add (OpR.or op_add_str (OpR.or op_cat op_catA))
theorem op_iaddU {X : Cx} : OpR X (inplaceOp .Add) (fun x y H Q => rI0 (fun i j => .int (i + j)) x y H Q ∨ rAddS x y H Q) := OpR.or iop_add iop_add_str
theorem o_add_int {i j : Int} (h : Post (fInt (i + j)) os) : Op2 K os (rAdd K) (fInt i) (fInt j) Post := Op2.inl (o_I0 h)
theorem o_iadd_int {i j : Int} (h : Post (fInt (i + j)) os) : Op2 K os (fun x y H Q => rI0 (fun i j => .int (i + j)) x y H Q ∨ rAddS x y H Q) (fInt i) (fInt j) Post := Op2.inl (o_I0 h)
theorem o_addS {i j : Str} (hl : i.length + j.length ≤ 100000) (h : Post (fStr (i ++ j)) os) : Op2 K os rAddS (fStr i) (fStr j) Post := fun x y H Q ow nd rx ry gv => ⟨i, j, rx, ry, Nat.le_trans hl (by decide), gv.now h ow nd rfl⟩
theorem o_add_str {i j : Str} (hl : i.length + j.length ≤ 100000) (h : Post (fStr (i ++ j)) os) : Op2 K os (rAdd K) (fStr i) (fStr j) Post := Op2.inr (Op2.inl (o_addS hl h))
theorem o_iadd_str {i j : Str} (hl : i.length + j.length ≤ 100000) (h : Post (fStr (i ++ j)) os) : Op2 K os (fun x y H Q => rI0 (fun i j => .int (i + j)) x y H Q ∨ rAddS x y H Q) (fStr i) (fStr j) Post := Op2.inr (o_addS hl h)
theorem o_add_lst (hl : Fs.length + Gs.length ≤ 100000) (h : Post (fL (Fs ++ Gs)) os) : Op2 K os (rAdd K) (fL Fs) (fL Gs) Post := Op2.inr (Op2.inr (Op2.inl fun x y H Q ow nd rx ry gv => by
  obtain ⟨a, vs, rfl, ha, ra⟩ := rx
  obtain ⟨b, ws, rfl, hb, rb⟩ := ry
  refine ⟨a, b, vs, ws, rfl, rfl, ha.2, hb.2, by rw [← ra.length, ← rb.length]; exact Nat.le_trans hl (by decide), fun p hp => gv.laid h ow nd hp fun hn s => ?_⟩
  exact ⟨p, _, rfl, ⟨hn, upd_same⟩, (ra.append rb).go s⟩))
theorem o_add_tup (hl : Fs.length + Gs.length ≤ 100000) (h : Post (fT (Fs ++ Gs)) os) : Op2 K os (rAdd K) (fT Fs) (fT Gs) Post := Op2.inr (Op2.inr (Op2.inr fun x y H Q ow nd rx ry gv => by
  obtain ⟨a, vs, rfl, ha, ra⟩ := rx
  obtain ⟨b, ws, rfl, hb, rb⟩ := ry
  refine ⟨a, b, vs, ws, rfl, rfl, ha.sq, hb.sq, by rw [← ra.length, ← rb.length]; exact Nat.le_trans hl (by decide), fun e => ?_, fun _ e => ?_, fun _ _ p hp => gv.laid h ow nd hp fun hn s => ⟨p, _, rfl, .inl ⟨hn, .inl upd_same⟩, (ra.append rb).go s⟩⟩
  · subst e
    cases ra
    exact gv.now h ow nd ⟨b, ws, rfl, hb, rb⟩
  · subst e
    cases rb
    exact gv.now h ow nd ⟨a, vs, rfl, ha, by rw [List.append_nil]; exact ra⟩))
theorem o_sub {i j : Int} (h : Post (fInt (i - j)) os) : Op2 K os (rI0 fun i j => .int (i - j)) (fInt i) (fInt j) Post := o_I0 h
theorem o_mul {i j : Int} (hc : CMul i j) (h : Post (fInt (i * j)) os) : Op2 K os (rI CMul fun i j => .int (i * j)) (fInt i) (fInt j) Post := o_I hc h
theorem o_mod {i j : Int} (hc : 0 < j) (h : Post (fInt (i % j)) os) : Op2 K os (rI (fun _ j => 0 < j) fun i j => .int (i % j)) (fInt i) (fInt j) Post := o_I hc h
theorem o_div {i j : Int} (hc : CDivW i j) (h : Post (fInt (i / j)) os) : Op2 K os (rI CDivW fun i j => .int (i / j)) (fInt i) (fInt j) Post := o_I hc h
def CPowW (i j : Int) : Prop := 0 ≤ j ∧ (Builtin.Int.intBits i : Int) * j ≤ 2 ^ 27
theorem op_powW {X : Cx} : OpR X (binaryOp .Pow) (rI CPowW fun i j => .int (i ^ j.toNat)) := fun pins s σ H x y v u Q I rx ry h => by
  obtain ⟨i, j, rfl, rfl, hc, q⟩ := h
  obtain ⟨t, rfl⟩ := rx
  obtain ⟨t', rfl⟩ := ry
  exact PyProof.Rows.pow_int hc.1 hc.2 ⟨.int _, H, I.tok _, ⟨_, rfl⟩, q⟩
theorem o_pow {i j : Int} (hc : CPowW i j) (h : Post (fInt (i ^ j.toNat)) os) : Op2 K os (rI CPowW fun i j => .int (i ^ j.toNat)) (fInt i) (fInt j) Post := o_I hc h
theorem o_lt {i j : Int} (h : Post (fBl (decide (i < j))) os) : Op2 K os (rI0 fun i j => .bl (decide (i < j))) (fInt i) (fInt j) Post := o_I0 h
theorem o_le {i j : Int} (h : Post (fBl (decide (i ≤ j))) os) : Op2 K os (rI0 fun i j => .bl (decide (i ≤ j))) (fInt i) (fInt j) Post := o_I0 h
theorem o_gt {i j : Int} (h : Post (fBl (decide (j < i))) os) : Op2 K os (rI0 fun i j => .bl (decide (j < i))) (fInt i) (fInt j) Post := o_I0 h
theorem o_ge {i j : Int} (h : Post (fBl (decide (j ≤ i))) os) : Op2 K os (rI0 fun i j => .bl (decide (j ≤ i))) (fInt i) (fInt j) Post := o_I0 h
def rEqU (K : PySem.W.Frag) : R2 := fun x y H Q => rEq x y H Q ∨ rEqD K x y H Q
def rNeU (K : PySem.W.Frag) : R2 := fun x y H Q => rNe x y H Q ∨ rNeD K x y H Q
theorem op_eqU {X : Cx} (hu : X.A.units + 64 < cLine) : OpR X (compareOp .Eq) (rEqU X.K) := OpR.or op_eq (op_eqD hu)
theorem op_neU {X : Cx} (hu : X.A.units + 64 < cLine) : OpR X (compareOp .NotEq) (rNeU X.K) := OpR.or op_ne (op_neD hu)
theorem o_eq_V {a b : V} (hs : scal a b = true) (h : Post (fBl (decide (a = b))) os) : Op2 K os (rEqU K) (fV a) (fV b) Post := Op2.inl fun x y H Q ow nd rx ry gv => by
  cases (show x = a from rx); cases (show y = b from ry)
  exact ⟨hs, gv.now h ow nd rfl⟩
theorem o_ne_V {a b : V} (hs : scal a b = true) (h : Post (fBl (!decide (a = b))) os) : Op2 K os (rNeU K) (fV a) (fV b) Post := Op2.inl fun x y H Q ow nd rx ry gv => by
  cases (show x = a from rx); cases (show y = b from ry)
  exact ⟨hs, gv.now h ow nd rfl⟩
theorem dec_str (a b : Str) : decide (V.str a = V.str b) = decide (a = b) := by
  by_cases e : a = b
  · subst e; simp
  · rw [decide_eq_false e, decide_eq_false (fun z => e (V.str.inj z))]
theorem dec_int (a b : Int) : decide (V.int a = V.int b) = decide (a = b) := by
  by_cases e : a = b
  · subst e; simp
  · rw [decide_eq_false e, decide_eq_false (fun z => e (V.int.inj z))]
theorem dec_bl (a b : Bool) : decide (V.bl a = V.bl b) = decide (a = b) := by
  by_cases e : a = b
  · subst e; simp
  · rw [decide_eq_false e, decide_eq_false (fun z => e (V.bl.inj z))]
theorem o_eq_str {a b : Str} (h : Post (fBl (decide (a = b))) os) : Op2 K os (rEqU K) (fStr a) (fStr b) Post := o_eq_V rfl (by rw [dec_str]; exact h)
theorem o_ne_str {a b : Str} (h : Post (fBl (!decide (a = b))) os) : Op2 K os (rNeU K) (fStr a) (fStr b) Post := o_ne_V rfl (by rw [dec_str]; exact h)
theorem o_eq_int {a b : Int} (h : Post (fBl (decide (a = b))) os) : Op2 K os (rEqU K) (fInt a) (fInt b) Post := o_eq_V rfl (by rw [dec_int]; exact h)
theorem o_ne_int {a b : Int} (h : Post (fBl (!decide (a = b))) os) : Op2 K os (rNeU K) (fInt a) (fInt b) Post := o_ne_V rfl (by rw [dec_int]; exact h)
theorem o_eq_bl {a b : Bool} (h : Post (fBl (decide (a = b))) os) : Op2 K os (rEqU K) (fBl a) (fBl b) Post := o_eq_V rfl (by rw [dec_bl]; exact h)
theorem o_ne_bl {a b : Bool} (h : Post (fBl (!decide (a = b))) os) : Op2 K os (rNeU K) (fBl a) (fBl b) Post := o_ne_V rfl (by rw [dec_bl]; exact h)
/-- None beside an int -/
theorem o_eq_ni {a : Int} (h : Post (fBl false) os) : Op2 K os (rEqU K) fNon (fInt a) Post := o_eq_V rfl h
def IsD (K : PySem.W.Frag) (F : Fact) (d : PyData) : Prop := ∀ ms H v, F.r K ms H v → Dp K H v d
inductive IsDs (K : PySem.W.Frag) : List Fact → List PyData → Prop
  | nil : IsDs K [] []
  | cons {F : Fact} {d : PyData} {Fs : List Fact} {ds : List PyData} : IsD K F d → IsDs K Fs ds → IsDs K (F :: Fs) (d :: ds)
theorem isD_int {i : Int} : IsD K (fInt i) (.int i) := fun ms H v h => by cases (show v = .int i from h); exact .int i
theorem isD_str {i : Str} : IsD K (fStr i) (.str i) := fun ms H v h => by cases (show v = .str i from h); exact .str i
theorem isD_bl {i : Bool} : IsD K (fBl i) (.bool i) := fun ms H v h => by cases (show v = .bl i from h); exact .bl i
theorem isD_non : IsD K fNon .none := fun ms H v h => by cases (show v = .non from h); exact .non
theorem IsDs.all {ds : List PyData} (h : IsDs K Fs ds) : ∀ {ms : List Addr} {H : Hp} {vs : List V}, Reps K ms H Fs vs → DpAll K H vs ds := by
  induction h with
  | nil => intro ms H vs r; cases r; exact .nil
  | cons d _ ih => intro ms H vs r; cases r with | cons r1 r2 => exact .cons (d _ _ _ r1) (ih r2)
theorem isD_T {ds : List PyData} (h : IsDs K Fs ds) : IsD K (fT Fs) (.tuple ds) := fun ms H v ⟨a, vs, e, ha, r⟩ => by subst e; exact .tup ha.sq (h.all r)
theorem isD_L {ds : List PyData} (h : IsDs K Fs ds) : IsD K (fL Fs) (.list ds) := fun ms H v ⟨a, vs, e, ha, r⟩ => by subst e; exact .lst ha.sq (h.all r)
theorem isDs_map {α : Type} {f : α → Fact} {g : α → PyData} (h : ∀ x, IsD K (f x) (g x)) : ∀ xs : List α, IsDs K (xs.map f) (xs.map g)
  | [] => .nil
  | x :: xs => .cons (h x) (isDs_map h xs)
theorem o_eq_D {d d' : PyData} (h1 : IsD K F d) (h2 : IsD K F' d') (s1 : SeqAt.shaped d = true) (s2 : SeqAt.shaped d' = true) (h : Post (fBl (PyData.eqv d d')) os) : Op2 K os (rEqU K) F F' Post := Op2.inr fun x y H Q ow nd rx ry gv =>
  ⟨d, d', h1 _ _ _ rx, h2 _ _ _ ry, s1, s2, gv.now h ow nd rfl⟩
theorem o_ne_D {d d' : PyData} (h1 : IsD K F d) (h2 : IsD K F' d') (s1 : SeqAt.shaped d = true) (s2 : SeqAt.shaped d' = true) (h : Post (fBl (!PyData.eqv d d')) os) : Op2 K os (rNeU K) F F' Post := Op2.inr fun x y H Q ow nd rx ry gv =>
  ⟨d, d', h1 _ _ _ rx, h2 _ _ _ ry, s1, s2, gv.now h ow nd rfl⟩
def rIsN : R2 := fun x y H Q => y = .non ∧ Q (.bl (decide (x = .non))) H
def rNotN : R2 := fun x y H Q => y = .non ∧ Q (.bl (!decide (x = .non))) H
theorem op_isN' {X : Cx} : OpR X (compareOp .Is) rIsN := op_isN
theorem op_notN' {X : Cx} : OpR X (compareOp .IsNot) rNotN := op_notN
def NotNon (K : PySem.W.Frag) (F : Fact) : Prop := ∀ ms H v, F.r K ms H v → v ≠ .non
theorem nn_int {i : Int} : NotNon K (fInt i) := fun ms H v h e => by cases (show v = .int i from h); cases e
theorem nn_str {i : Str} : NotNon K (fStr i) := fun ms H v h e => by cases (show v = .str i from h); cases e
theorem nn_T : NotNon K (fT Fs) := fun ms H v ⟨a, vs, e, _⟩ z => by rw [e] at z; cases z
theorem nn_I {C : Addr} {ns : List Str} : NotNon K (fI C ns Fs) := fun ms H v ⟨a, dx, vs, e, _⟩ z => by rw [e] at z; cases z
theorem o_is_N (h : Post (fBl true) os) : Op2 K os rIsN fNon fNon Post := fun x y H Q ow nd rx ry gv => by
  cases (show x = .non from rx); cases (show y = .non from ry)
  exact ⟨rfl, gv.now h ow nd rfl⟩
theorem o_is_not (hn : NotNon K F) (h : Post (fBl false) os) : Op2 K os rIsN F fNon Post := fun x y H Q ow nd rx ry gv =>
  ⟨ry, by rw [decide_eq_false (hn _ _ _ rx)]; exact gv.now h ow nd rfl⟩
theorem o_isnot_N (h : Post (fBl false) os) : Op2 K os rNotN fNon fNon Post := fun x y H Q ow nd rx ry gv => by
  cases (show x = .non from rx); cases (show y = .non from ry)
  exact ⟨rfl, gv.now h ow nd rfl⟩
theorem o_isnot_not (hn : NotNon K F) (h : Post (fBl true) os) : Op2 K os rNotN F fNon Post := fun x y H Q ow nd rx ry gv =>
  ⟨ry, by rw [decide_eq_false (hn _ _ _ rx)]; exact gv.now h ow nd rfl⟩
theorem flats_str (zs : List Str) : (zs.map V.str).all flatV = true := by
  rw [List.all_eq_true]; intro x hx; obtain ⟨z, _, rfl⟩ := List.mem_map.mp hx; rfl
theorem reps_str {ms : List Addr} {H : Hp} : ∀ {zs : List Str} {vs : List V}, Reps K ms H (zs.map fStr) vs → vs = zs.map V.str
  | [], _, .nil => rfl
  | z :: zs, _, .cons r t => by rw [reps_str t, (show _ = V.str z from r)]; rfl
theorem reps_int {ms : List Addr} {H : Hp} : ∀ {zs : List Int} {vs : List V}, Reps K ms H (zs.map fInt) vs → vs = zs.map V.int
  | [], _, .nil => rfl
  | z :: zs, _, .cons r t => by rw [reps_int t, (show _ = V.int z from r)]; rfl
theorem reps_bl {ms : List Addr} {H : Hp} : ∀ {zs : List Bool} {vs : List V}, Reps K ms H (zs.map fBl) vs → vs = zs.map V.bl
  | [], _, .nil => rfl
  | z :: zs, _, .cons r t => by rw [reps_bl t, (show _ = V.bl z from r)]; rfl
theorem inV_str (z : Str) (zs : List Str) : inV (.str z) (zs.map V.str) = decide (z ∈ zs) := by
  unfold inV
  induction zs with
  | nil => simp
  | cons y ys ih =>
    rw [List.map_cons, List.any_cons, ih]
    show ((y == z) || decide (z ∈ ys)) = decide (z ∈ y :: ys)
    by_cases e : y = z
    · subst e; simp
    · have e' : ¬ z = y := fun q => e q.symm
      rw [beq_eq_false_iff_ne.mpr e]
      simp [e']
def rInS : R2 := fun x y H Q => ∃ i j, x = .str i ∧ y = .str j ∧ Q (.bl (!(Builtin.Str.occurrences j i 0 j.length 1).isEmpty)) H
def rInC : R2 := fun x y H Q => ∃ (c : Nat) (z : Str), x = .str ⟨#[c]⟩ ∧ y = .str z ∧ Q (.bl (decide (c ∈ z.cps.toList))) H
def rInU (K : PySem.W.Frag) : R2 := fun x y H Q => rInC x y H Q ∨ (rInS x y H Q ∨ rIn K false x y H Q)
theorem op_inU {X : Cx} : OpR X (compareOp .In) (rInU X.K) := OpR.or op_in_sign (OpR.or op_in_str op_in_seq)
def rNotInS : R2 := fun x y H Q => ∃ i j, x = .str i ∧ y = .str j ∧ Q (.bl (!(!(Builtin.Str.occurrences j i 0 j.length 1).isEmpty))) H
def rNotInU (K : PySem.W.Frag) : R2 := fun x y H Q => rNotInS x y H Q ∨ rIn K true x y H Q
theorem op_notInU {X : Cx} : OpR X (compareOp .NotIn) (rNotInU X.K) := OpR.or op_notin_str op_notIn_seq
theorem o_in_chr {c : Nat} {z : Str} (h : Post (fBl (decide (c ∈ z.cps.toList))) os) : Op2 K os (rInU K) (fStr ⟨#[c]⟩) (fStr z) Post := Op2.inl fun x y H Q ow nd rx ry gv => ⟨c, z, rx, ry, gv.now h ow nd rfl⟩
theorem o_in_strs {z : Str} {zs : List Str} (h : Post (fBl (decide (z ∈ zs))) os) : Op2 K os (rInU K) (fStr z) (fL (zs.map fStr)) Post := Op2.inr (Op2.inr fun x y H Q ow nd rx ry gv => by
  obtain ⟨a, vs, rfl, ha, ra⟩ := ry
  cases (show x = .str z from rx)
  rw [reps_str ra] at ha
  refine ⟨a, _, rfl, .inl ha.sq, rfl, flats_str zs, ?_⟩
  show Q (.bl (inV (.str z) (zs.map V.str))) H
  rw [inV_str]; exact gv.now h ow nd rfl)
theorem o_in_strsT {z : Str} {zs : List Str} (h : Post (fBl (decide (z ∈ zs))) os) : Op2 K os (rInU K) (fStr z) (fT (zs.map fStr)) Post := Op2.inr (Op2.inr fun x y H Q ow nd rx ry gv => by
  obtain ⟨a, vs, rfl, ha, ra⟩ := ry
  cases (show x = .str z from rx)
  rw [reps_str ra] at ha
  refine ⟨a, _, rfl, .inr ha.sq, rfl, flats_str zs, ?_⟩
  show Q (.bl (inV (.str z) (zs.map V.str))) H
  rw [inV_str]; exact gv.now h ow nd rfl)
theorem o_notIn_strs {z : Str} {zs : List Str} (h : Post (fBl (!decide (z ∈ zs))) os) : Op2 K os (rNotInU K) (fStr z) (fL (zs.map fStr)) Post := Op2.inr fun x y H Q ow nd rx ry gv => by
  obtain ⟨a, vs, rfl, ha, ra⟩ := ry
  cases (show x = .str z from rx)
  rw [reps_str ra] at ha
  refine ⟨a, _, rfl, .inl ha.sq, rfl, flats_str zs, ?_⟩
  show Q (.bl (!inV (.str z) (zs.map V.str))) H
  rw [inV_str]; exact gv.now h ow nd rfl
theorem o_notIn_strsT {z : Str} {zs : List Str} (h : Post (fBl (!decide (z ∈ zs))) os) : Op2 K os (rNotInU K) (fStr z) (fT (zs.map fStr)) Post := Op2.inr fun x y H Q ow nd rx ry gv => by
  obtain ⟨a, vs, rfl, ha, ra⟩ := ry
  cases (show x = .str z from rx)
  rw [reps_str ra] at ha
  refine ⟨a, _, rfl, .inr ha.sq, rfl, flats_str zs, ?_⟩
  show Q (.bl (!inV (.str z) (zs.map V.str))) H
  rw [inV_str]; exact gv.now h ow nd rfl
theorem o_ix_L {i : Int} (hi : atI Fs i = some F) (h : Post F os) : Op2 K os (rIx K) (fL Fs) (fInt i) Post := fun x y H Q ow nd rx ry gv => by
  obtain ⟨a, vs, rfl, ha, ra⟩ := rx
  cases (show y = .int i from ry)
  obtain ⟨v, e, rv⟩ : ∃ v, atI vs i = some v ∧ F.r K (ms os) H v := by
    unfold atI at hi ⊢
    rw [← ra.length]
    cases q : ixN Fs.length i with
    | none => rw [q] at hi; cases hi
    | some j => rw [q] at hi; exact ra.get hi
  exact .inl ⟨a, vs, i, v, rfl, rfl, ha.sq, e, gv.now h ow nd rv⟩
theorem o_ix_T {i : Int} (hi : atI Fs i = some F) (h : Post F os) : Op2 K os (rIx K) (fT Fs) (fInt i) Post := fun x y H Q ow nd rx ry gv => by
  obtain ⟨a, vs, rfl, ha, ra⟩ := rx
  cases (show y = .int i from ry)
  obtain ⟨v, e, rv⟩ : ∃ v, atI vs i = some v ∧ F.r K (ms os) H v := by
    unfold atI at hi ⊢
    rw [← ra.length]
    cases q : ixN Fs.length i with
    | none => rw [q] at hi; cases hi
    | some j => rw [q] at hi; exact ra.get hi
  exact .inr (.inl ⟨a, vs, i, v, rfl, rfl, ha.sq, e, gv.now h ow nd rv⟩)
theorem o_ix_S {i : Int} {z : Str} {c : Nat} (hz : z.length ≤ 1000000) (hi : atI z.cps.toList i = some c) (h : Post (fStr ⟨#[c]⟩) os) : Op2 K os (rIx K) (fStr z) (fInt i) Post := fun x y H Q ow nd rx ry gv =>
  .inr (.inr ⟨z, i, c, rx, ry, Nat.le_trans hz (by decide), hi, gv.now h ow nd rfl⟩)
theorem o_ix_own {i : Int} {l : Addr} (ho : Own.lst l Fs ∈ os) (hi : atI Fs i = some F) (h : Post F os) : Op2 K os (rIx K) (fRef l) (fInt i) Post := fun x y H Q ow nd rx ry gv => by
  cases (show x = .ref l from rx)
  cases (show y = .int i from ry)
  obtain ⟨vs, ha, ra⟩ := ow _ ho
  obtain ⟨v, e, rv⟩ : ∃ v, atI vs i = some v ∧ F.r K (ms os) H v := by
    unfold atI at hi ⊢
    rw [← ra.length]
    cases q : ixN Fs.length i with
    | none => rw [q] at hi; cases hi
    | some j => rw [q] at hi; exact ra.get hi
  exact .inl ⟨l, vs, i, v, rfl, rfl, SqL.of ha, e, gv.now h ow nd rv⟩
theorem o_ix_scr {ns : List Int} {i n : Int} (hi : atI ns i = some n) (h : Post (fInt n) os) : Op2 K os (rIx K) (fScr ns) (fInt i) Post := fun x y H Q ow nd rx ry gv => by
  obtain ⟨a, rfl, ha⟩ := rx
  cases (show y = .int i from ry)
  refine .inl ⟨a, ns.map V.int, i, .int n, rfl, rfl, ha.elim (fun h => .inl h.2) .inr, ?_, gv.now h ow nd rfl⟩
  unfold atI at hi ⊢
  rw [List.length_map]
  cases q : ixN ns.length i with
  | none => rw [q] at hi; cases hi
  | some j => rw [q] at hi; show (ns.map V.int)[j]? = _; rw [List.getElem?_map, show ns[j]? = some n from hi]; rfl
theorem at_nat {α : Type} {xs : List α} {i : Int} {v : α} (h0 : 0 ≤ i) (h : xs[i.toNat]? = some v) : atI xs i = some v := by
  have e : i = ((i.toNat : Nat) : Int) := by omega
  rw [e]; exact atI_nat h
def rLen (K : PySem.W.Frag) : List V → Hp → VK → Prop := fun xs H Q => ∃ x n, xs = [x] ∧ LenV K x H n ∧ Q (.int n) H
theorem call_len' {X : Cx} : CallR X (.builtin "len") (rLen X.K) := call_len
def rLenS (K : PySem.W.Frag) : List V → Hp → VK → Prop := fun xs H Q => ∃ p ys, xs = [.ref p] ∧ (SqL K H p ys ∨ SqT K H p ys) ∧ Q (.int ys.length) H
def rLenU (K : PySem.W.Frag) : List V → Hp → VK → Prop := fun xs H Q => rLen K xs H Q ∨ rLenS K xs H Q
theorem call_lenU {X : Cx} : CallR X (.builtin "len") (rLenU X.K) := CallR.or call_len' call_len_seq
theorem arg1 {ms : List Addr} {H : Hp} {xs : List V} (r : Reps K ms H [F] xs) : ∃ x, xs = [x] ∧ F.r K ms H x := by
  cases r with | cons r1 r2 => cases r2; exact ⟨_, rfl, r1⟩
theorem arg2 {ms : List Addr} {H : Hp} {xs : List V} (r : Reps K ms H [F, F'] xs) : ∃ x y, xs = [x, y] ∧ F.r K ms H x ∧ F'.r K ms H y := by
  cases r with | cons r1 r2 => cases r2 with | cons r2 r3 => cases r3; exact ⟨_, _, rfl, r1, r2⟩
theorem o_len_L (h : Post (fInt (Fs.length : Int)) os) : OpA K os (rLenU K) [fL Fs] Post := OpA.inr fun xs H Q ow nd r gv => by
  obtain ⟨x, rfl, a, vs, rfl, ha, ra⟩ := arg1 r
  exact ⟨a, vs, rfl, .inl ha.sq, by rw [← ra.length]; exact gv.now h ow nd rfl⟩
theorem o_len_T (h : Post (fInt (Fs.length : Int)) os) : OpA K os (rLenU K) [fT Fs] Post := OpA.inr fun xs H Q ow nd r gv => by
  obtain ⟨x, rfl, a, vs, rfl, ha, ra⟩ := arg1 r
  exact ⟨a, vs, rfl, .inr ha.sq, by rw [← ra.length]; exact gv.now h ow nd rfl⟩
theorem o_len_own {l : Addr} (ho : Own.lst l Fs ∈ os) (h : Post (fInt (Fs.length : Int)) os) : OpA K os (rLenU K) [fRef l] Post := OpA.inr fun xs H Q ow nd r gv => by
  obtain ⟨x, rfl, e⟩ := arg1 r
  cases (show x = .ref l from e)
  obtain ⟨vs, ha, ra⟩ := ow _ ho
  exact ⟨l, vs, rfl, .inl (SqL.of ha), by rw [← ra.length]; exact gv.now h ow nd rfl⟩
theorem o_len_scr {ns : List Int} (h : Post (fInt (ns.length : Int)) os) : OpA K os (rLenU K) [fScr ns] Post := OpA.inr fun xs H Q ow nd r gv => by
  obtain ⟨x, rfl, a, rfl, ha⟩ := arg1 r
  exact ⟨a, _, rfl, .inl (ha.elim (fun h => .inl h.2) .inr), by rw [List.length_map]; exact gv.now h ow nd rfl⟩
theorem o_len_S {z : Str} (hz : z.length ≤ 1000000) (h : Post (fInt (z.length : Int)) os) : OpA K os (rLenU K) [fStr z] Post := OpA.inl fun xs H Q ow nd r gv => by
  obtain ⟨x, rfl, e⟩ := arg1 r
  cases (show x = .str z from e)
  exact ⟨_, z.length, rfl, ⟨Nat.le_trans hz (by decide), rfl⟩, gv.now h ow nd rfl⟩
def rAbs : List V → Hp → VK → Prop := fun xs H Q => ∃ i, xs = [.int i] ∧ Q (.int (if i < 0 then -i else i)) H
theorem call_abs' {X : Cx} : CallR X (.builtin "abs") rAbs := call_abs
theorem o_abs {i : Int} (h : Post (fInt (if i < 0 then -i else i)) os) : OpA K os rAbs [fInt i] Post := fun xs H Q ow nd r gv => by
  obtain ⟨x, rfl, e⟩ := arg1 r
  exact ⟨i, by rw [show x = .int i from e], gv.now h ow nd rfl⟩
def rInt : List V → Hp → VK → Prop := fun xs H Q => (∃ i, xs = [.int i] ∧ Q (.int i) H) ∨ ∃ k, xs = [.bl k] ∧ Q (.int (if k then 1 else 0)) H
theorem call_int' {X : Cx} : CallR X (.type "int") rInt := call_int1
theorem o_int_i {i : Int} (h : Post (fInt i) os) : OpA K os rInt [fInt i] Post := fun xs H Q ow nd r gv => by
  obtain ⟨x, rfl, e⟩ := arg1 r
  exact .inl ⟨i, by rw [show x = .int i from e], gv.now h ow nd rfl⟩
theorem o_int_b {i : Bool} (h : Post (fInt (if i then 1 else 0)) os) : OpA K os rInt [fBl i] Post := fun xs H Q ow nd r gv => by
  obtain ⟨x, rfl, e⟩ := arg1 r
  exact .inr ⟨i, by rw [show x = .bl i from e], gv.now h ow nd rfl⟩
def rMax2 : List V → Hp → VK → Prop := fun xs H Q => ∃ i j, xs = [.int i, .int j] ∧ Q (.int (if j > i then j else i)) H
def rMin2 : List V → Hp → VK → Prop := fun xs H Q => ∃ i j, xs = [.int i, .int j] ∧ Q (.int (if j < i then j else i)) H
def rMaxU (K : PySem.W.Frag) : List V → Hp → VK → Prop := fun xs H Q => rMax2 xs H Q ∨ rMax K xs H Q
def rMinU (K : PySem.W.Frag) : List V → Hp → VK → Prop := fun xs H Q => rMin2 xs H Q ∨ rMin K xs H Q
theorem call_maxU {X : Cx} (hc : X.calm = true) : CallR X (.builtin "max") (rMaxU X.K) := CallR.or (call_max2 hc) (cr_max hc)
theorem call_minU {X : Cx} (hc : X.calm = true) : CallR X (.builtin "min") (rMinU X.K) := CallR.or (call_min2 hc) (cr_min hc)
theorem o_max2 {i j : Int} (h : Post (fInt (if j > i then j else i)) os) : OpA K os (rMaxU K) [fInt i, fInt j] Post := OpA.inl fun xs H Q ow nd r gv => by
  obtain ⟨x, y, rfl, e, e'⟩ := arg2 r
  exact ⟨i, j, by rw [show x = .int i from e, show y = .int j from e'], gv.now h ow nd rfl⟩
theorem o_min2 {i j : Int} (h : Post (fInt (if j < i then j else i)) os) : OpA K os (rMinU K) [fInt i, fInt j] Post := OpA.inl fun xs H Q ow nd r gv => by
  obtain ⟨x, y, rfl, e, e'⟩ := arg2 r
  exact ⟨i, j, by rw [show x = .int i from e, show y = .int j from e'], gv.now h ow nd rfl⟩
theorem o_maxL {ns : List Int} (hn : 0 < ns.length) (h : ∀ m, m ∈ ns → (∀ y, y ∈ ns → y ≤ m) → Post (fInt m) os) : OpA K os (rMaxU K) [fL (ns.map fInt)] Post := OpA.inr fun xs H Q ow nd r gv => by
  obtain ⟨x, rfl, a, vs, rfl, ha, ra⟩ := arg1 r
  rw [reps_int ra] at ha
  exact ⟨a, ns, rfl, ha.sq, hn, fun m h1 h2 => gv.now (h m h1 h2) ow nd rfl⟩
theorem o_minL {ns : List Int} (hn : 0 < ns.length) (h : ∀ m, m ∈ ns → (∀ y, y ∈ ns → m ≤ y) → Post (fInt m) os) : OpA K os (rMinU K) [fL (ns.map fInt)] Post := OpA.inr fun xs H Q ow nd r gv => by
  obtain ⟨x, rfl, a, vs, rfl, ha, ra⟩ := arg1 r
  rw [reps_int ra] at ha
  exact ⟨a, ns, rfl, ha.sq, hn, fun m h1 h2 => gv.now (h m h1 h2) ow nd rfl⟩
theorem o_all {bs : List Bool} (h : Post (fBl (bs.all id)) os) : OpA K os (rAll K) [fL (bs.map fBl)] Post := fun xs H Q ow nd r gv => by
  obtain ⟨x, rfl, a, vs, rfl, ha, ra⟩ := arg1 r
  rw [reps_bl ra] at ha
  exact ⟨a, bs, rfl, ha.sq, gv.now h ow nd rfl⟩
theorem o_any {bs : List Bool} (h : Post (fBl (bs.any id)) os) : OpA K os (rAny K) [fL (bs.map fBl)] Post := fun xs H Q ow nd r gv => by
  obtain ⟨x, rfl, a, vs, rfl, ha, ra⟩ := arg1 r
  rw [reps_bl ra] at ha
  exact ⟨a, bs, rfl, ha.sq, gv.now h ow nd rfl⟩
/-- list(xs): ours -/
def rListOf (K : PySem.W.Frag) : List V → Hp → VK → Prop := fun xs H Q => ∃ p ys, xs = [.ref p] ∧ (SqL K H p ys ∨ SqT K H p ys) ∧ ∀ l, H l = none → Q (.ref l) (upd H l (.lst ys))
theorem call_listU {X : Cx} : CallR X (.type "list") (rListOf X.K) := call_list_of
theorem o_list_L (h : Post (fL Fs) os) : OpA K os (rListOf K) [fL Fs] Post := fun xs H Q ow nd r gv => by
  obtain ⟨x, rfl, a, vs, rfl, ha, ra⟩ := arg1 r
  exact ⟨a, vs, rfl, .inl ha.sq, fun p hp => gv.laid h ow nd hp fun hn s => ⟨p, vs, rfl, ⟨hn, upd_same⟩, ra.go s⟩⟩
theorem o_list_LO (h : ∀ l, Post (fRef l) (.lst l Fs :: os)) : OpA K os (rListOf K) [fL Fs] Post := fun xs H Q ow nd r gv => by
  obtain ⟨x, rfl, a, vs, rfl, ha, ra⟩ := arg1 r
  exact ⟨a, vs, rfl, .inl ha.sq, fun p hp => gv.own (w := .lst p Fs) rfl (h p) ow nd hp fun s => ⟨vs, upd_same, ra.step s.keep fun a ha => by
    rcases List.mem_cons.mp ha with z | z
    · rw [z]; exact .inr hp
    · exact .inl z⟩⟩
def rTupOf (K : PySem.W.Frag) : List V → Hp → VK → Prop := fun xs H Q => ∃ p ys, xs = [.ref p] ∧ ((SqL K H p ys ∧ ∀ l, H l = none → Q (.ref l) (upd H l (.tup ys))) ∨ (SqT K H p ys ∧ Q (.ref p) H))
theorem call_tupU {X : Cx} : CallR X (.type "tuple") (rTupOf X.K) := call_tuple_of
theorem o_tup_L (h : Post (fT Fs) os) : OpA K os (rTupOf K) [fL Fs] Post := fun xs H Q ow nd r gv => by
  obtain ⟨x, rfl, a, vs, rfl, ha, ra⟩ := arg1 r
  exact ⟨a, vs, rfl, .inl ⟨ha.sq, fun p hp => gv.laid h ow nd hp fun hn s => ⟨p, vs, rfl, .inl ⟨hn, .inl upd_same⟩, ra.go s⟩⟩⟩
theorem o_tup_own {l : Addr} (ho : Own.lst l Fs ∈ os) (h : Post (fT Fs) os) : OpA K os (rTupOf K) [fRef l] Post := fun xs H Q ow nd r gv => by
  obtain ⟨x, rfl, e⟩ := arg1 r
  cases (show x = .ref l from e)
  obtain ⟨vs, ha, ra⟩ := ow _ ho
  exact ⟨l, vs, rfl, .inl ⟨SqL.of ha, fun p hp => gv.laid h ow nd hp fun hn s => ⟨p, vs, rfl, .inl ⟨hn, .inl upd_same⟩, ra.go s⟩⟩⟩
/-- repr of a text -/
def rRepr : List V → Hp → VK → Prop := fun xs H Q => ∃ z, xs = [.str z] ∧ (reprText z).length ≤ sizeLine ∧ Q (.str (reprText z)) H
theorem call_reprS {X : Cx} : CallR X (.builtin "repr") rRepr := fun pins s σ H xs us Q I r h => by
  obtain ⟨z, rfl, hz, q⟩ := h
  obtain ⟨u, rfl, t, rfl⟩ := vals1 r
  exact PySem.P.repr_of_str ⟨.str _, H, I.tok _, ⟨_, rfl⟩, q⟩ hz
theorem o_repr {z : Str} (hz : (reprText z).length ≤ 1000000) (h : Post (fStr (reprText z)) os) : OpA K os rRepr [fStr z] Post := fun xs H Q ow nd r gv => by
  obtain ⟨x, rfl, e⟩ := arg1 r
  exact ⟨z, by rw [show x = .str z from e], Nat.le_trans hz (by decide), gv.now h ow nd rfl⟩
end
end G
namespace G
open PySem L2
section
variable (K : PySem.W.Frag) (os : List Own)
def OpM (r : V → List V → Hp → VK → Prop) (F : Fact) (Fs : List Fact) (Post : PK1) : Prop := ∀ x xs H Q, (∀ o ∈ os, o.ok K (ms os) H) → (ms os).Nodup → F.r K (ms os) H x → Reps K (ms os) H Fs xs → Give K os H Post Q → r x xs H Q
def TyF (T : String) (F : Fact) : Prop := ∀ x H, (∀ o ∈ os, o.ok K (ms os) H) → F.r K (ms os) H x → tyV K T x H
end
section
variable {X : Cx} {Γ : GEnv} {os : List Own} {e o : Expr} {es : List Expr} {Post : PK1} {pos apos cpos : Pos} {T id : String} {name : Str} {r : V → List V → Hp → VK → Prop}
theorem ty_str {K : PySem.W.Frag} {z : Str} : TyF K os "str" (fStr z) := fun x H _ h => by cases (show x = .str z from h); rfl
theorem ty_own {K : PySem.W.Frag} {l : Addr} {Fs : List Fact} (ho : Own.lst l Fs ∈ os) : TyF K os "list" (fRef l) := fun x H ow h => by
  cases (show x = .ref l from h)
  obtain ⟨vs, e, _⟩ := ow _ ho
  exact .inl ⟨rfl, vs, SqL.of e⟩
theorem ty_L {K : PySem.W.Frag} {Fs : List Fact} : TyF K os "list" (fL Fs) := fun x H ow ⟨a, vs, e, h, _⟩ => by subst e; exact .inl ⟨rfl, vs, h.sq⟩
theorem e_bm0 (pa : PlainAttrs T) (slot : Slot T name id) (hty : typeOf (.builtin id) = pure (.type "method_descriptor")) (hm : MtR X id r) (h : E X Γ os o fun F os1 => TyF X.K os1 T F ∧ OpM X.K os1 r F [] Post)
    (hbase : attributeBase o name X.env (eval o X.env) = eval o X.env := by rfl) (hline : (apos.endLine == cpos.line) = true := by rfl) : E X Γ os (.Call (.Attribute o name apos) [] [] cpos) Post := fun σ H Q ok g =>
  uE.of (pe_bm0 pa slot hty hm pe_u hbase hline) (h σ H _ ok fun v H1 F os1 p s1 r1 => ⟨p.1 v H1 s1.ow r1, p.2 v [] H1 Q s1.ow s1.nd r1 .nil (g.step s1)⟩)
theorem e_bm (pa : PlainAttrs T) (slot : Slot T name id) (hty : typeOf (.builtin id) = pure (.type "method_descriptor")) (hm : MtR X id r)
    (h : E X Γ os o fun F os1 => TyF X.K os1 T F ∧ A X Γ os1 (e :: es) fun Fs os2 => OpM X.K os2 r F Fs Post)
    (hbase : attributeBase o name X.env (eval o X.env) = eval o X.env := by rfl)
    (hfew : ((backTo cpos (starEach (e :: es) X.env)).all (fun x => !x.1) && (backToKw cpos (keywordEach [] X.env)).all (fun x => x.1.isSome)
      && decide ((e :: es).length + ([] : List Keyword).length + (if ([] : List Keyword).isEmpty then 0 else 1) < 30)) = true := by rfl)
    (hline : (apos.endLine == cpos.line) = true := by rfl) (hs : starEach (e :: es) X.env = (false, eval e X.env) :: starEach es X.env := by rfl) (hplain : (backTo cpos (starEach es X.env)).any (·.1) = false := by rfl) :
    E X Γ os (.Call (.Attribute o name apos) (e :: es) [] cpos) Post := fun σ H Q ok g =>
  uE.of (pe_bm pa slot hty hm pe_u pa_u hbase hfew hline hs hplain) (h σ H _ ok fun v H1 F os1 p s1 r1 => ⟨p.1 v H1 s1.ow r1, p.2 σ H1 _ (ok.step s1) fun ws H2 Fs os2 p2 s2 r2 =>
    p2 v ws H2 Q s2.ow s2.nd (Fact.go r1 s2) r2 (g.step (s1.trans s2))⟩)
end
section
variable {K : PySem.W.Frag} {os : List Own} {Post : PK1} {F G : Fact} {Fs Gs : List Fact}
theorem o_append {l : Addr} (i : Nat) (hi : os[i]? = some (.lst l Fs)) (hl : Fs.length ≤ 1000000) (h : Post fNon (os.set i (.lst l (Fs ++ [G])))) : OpM K os rAppend (fRef l) [G] Post := fun x xs H Q ow nd rx rs gv => by
  cases (show x = .ref l from rx)
  obtain ⟨y, rfl, ry⟩ := arg1 rs
  obtain ⟨vs, e, rv⟩ := ow _ (List.mem_of_getElem? hi)
  refine ⟨l, vs, y, rfl, rfl, e, by rw [← rv.length]; exact Nat.lt_of_le_of_lt hl (by decide), ?_⟩
  exact gv _ _ _ _ h (Step.put (o := .lst l Fs) (o' := .lst l (Fs ++ [G])) (u := .lst (vs ++ [y])) ow nd i hi rfl fun kp => ⟨_, upd_same, (rv.append (.cons ry .nil)).step kp fun _ z => .inl z⟩) rfl
theorem reps_erase {ms : List Addr} {H : Hp} {Fs : List Fact} {vs : List V} (h : Reps K ms H Fs vs) : ∀ k, Reps K ms H (Fs.eraseIdx k) (vs.eraseIdx k) := by
  induction h with
  | nil => intro k; exact .nil
  | cons r t ih =>
    intro k
    cases k with
    | zero => exact t
    | succ k => exact .cons r (ih k)
theorem o_popAt {l : Addr} {n : Int} {k : Nat} (i : Nat) (hi : os[i]? = some (.lst l Fs)) (h1 : -(2 ^ 63) ≤ n) (h2 : n < 2 ^ 63) (hk : seqIndex? n Fs.length = some k) (hF : Fs[k]? = some F) (h : Post F (os.set i (.lst l (Fs.eraseIdx k)))) :
    OpM K os rPopAt (fRef l) [fInt n] Post := fun x xs H Q ow nd rx rs gv => by
  cases (show x = .ref l from rx)
  obtain ⟨y, rfl, ry⟩ := arg1 rs
  cases (show y = .int n from ry)
  obtain ⟨vs, e, rv⟩ := ow _ (List.mem_of_getElem? hi)
  obtain ⟨v, e1, r1⟩ := rv.get hF
  have s := Step.put (o := .lst l Fs) (o' := .lst l (Fs.eraseIdx k)) (u := .lst (vs.eraseIdx k)) ow nd i hi rfl fun kp => ⟨_, upd_same, (reps_erase rv k).step kp fun _ z => .inl z⟩
  exact ⟨l, vs, n, k, v, rfl, rfl, e, h1, h2, by rw [← rv.length]; exact hk, e1, gv _ _ _ _ h s (Fact.go r1 s)⟩
def rJoin (K : PySem.W.Frag) : V → List V → Hp → VK → Prop := fun x xs H Q => ∃ a p, ∃ ys : List Str, x = .str a ∧ xs = [.ref p] ∧ (SqL K H p (ys.map V.str) ∨ SqT K H p (ys.map V.str)) ∧
    (ys.map (·.length)).sum + ys.length * a.length ≤ 16777216 ∧ Q (.str (Txt.join a ys)) H
theorem mt_join' {X : Cx} : MtR X "str.join" (rJoin X.K) := mt_join
theorem o_join {a : Str} {ys : List Str} (hz : (ys.map (·.length)).sum + ys.length * a.length ≤ 1000000) (h : Post (fStr (Txt.join a ys)) os) : OpM K os (rJoin K) (fStr a) [fL (ys.map fStr)] Post := fun x xs H Q ow nd rx rs gv => by
  obtain ⟨y, rfl, p, vs, rfl, hp, rv⟩ := arg1 rs
  rw [reps_str rv] at hp
  exact ⟨a, p, ys, rx, rfl, .inl hp.sq, Nat.le_trans hz (by decide), gv.now h ow nd rfl⟩
def rStarts : V → List V → Hp → VK → Prop := fun x xs H Q => ∃ a b, x = .str a ∧ xs = [.str b] ∧ Q (.bl (Txt.startswith a b)) H
theorem mt_starts {X : Cx} : MtR X "str.startswith" rStarts := mt_startswith
theorem o_starts {a b : Str} (h : Post (fBl (Txt.startswith a b)) os) : OpM K os rStarts (fStr a) [fStr b] Post := fun x xs H Q ow nd rx rs gv => by
  obtain ⟨y, rfl, ry⟩ := arg1 rs
  exact ⟨a, b, rx, by rw [show y = .str b from ry], gv.now h ow nd rfl⟩
def rEnds : V → List V → Hp → VK → Prop := fun x xs H Q => ∃ a b, x = .str a ∧ xs = [.str b] ∧ Q (.bl (Txt.endswith a b)) H
theorem mt_ends {X : Cx} : MtR X "str.endswith" rEnds := mt_endswith
theorem o_ends {a b : Str} (h : Post (fBl (Txt.endswith a b)) os) : OpM K os rEnds (fStr a) [fStr b] Post := fun x xs H Q ow nd rx rs gv => by
  obtain ⟨y, rfl, ry⟩ := arg1 rs
  exact ⟨a, b, rx, by rw [show y = .str b from ry], gv.now h ow nd rfl⟩
def rLower : V → List V → Hp → VK → Prop := fun x xs H Q => ∃ a, x = .str a ∧ xs = [] ∧ a.length ≤ 5592405 ∧ Q (.str (Txt.lower a)) H
theorem mt_lower' {X : Cx} : MtR X "str.lower" rLower := mt_lower
theorem o_lower {a : Str} (hz : a.length ≤ 1000000) (h : Post (fStr (Txt.lower a)) os) : OpM K os rLower (fStr a) [] Post := fun x xs H Q ow nd rx rs gv => by
  cases rs
  exact ⟨a, rx, rfl, Nat.le_trans hz (by decide), gv.now h ow nd rfl⟩
def rSplit : V → List V → Hp → VK → Prop := fun x xs H Q => ∃ a b, x = .str a ∧ xs = [.str b] ∧ (b.length == 0) = false ∧ a.length + 2 ≤ sizeLine ∧ rNewStrs (Txt.split a b) H Q
theorem mt_split' {X : Cx} : MtR X "str.split" rSplit := mt_split
theorem reps_strs {ms : List Addr} {H : Hp} : ∀ zs : List Str, Reps K ms H (zs.map fStr) (zs.map V.str)
  | [] => .nil
  | z :: zs => .cons rfl (reps_strs zs)
theorem reps_ints {ms : List Addr} {H : Hp} : ∀ zs : List Int, Reps K ms H (zs.map fInt) (zs.map V.int)
  | [] => .nil
  | z :: zs => .cons rfl (reps_ints zs)
theorem o_split {a b : Str} (hb : (b.length == 0) = false) (hz : a.length ≤ 1000000) (h : Post (fL ((Txt.split a b).map fStr)) os) : OpM K os rSplit (fStr a) [fStr b] Post := fun x xs H Q ow nd rx rs gv => by
  obtain ⟨y, rfl, ry⟩ := arg1 rs
  refine ⟨a, b, rx, by rw [show y = .str b from ry], hb, Nat.le_trans (Nat.add_le_add_right hz 2) (by decide), fun p hp => gv.laid h ow nd hp fun hn s => ⟨p, _, rfl, ⟨hn, upd_same⟩, reps_strs _⟩⟩
end
section
variable {X : Cx} {Γ : GEnv} {os : List Own} {e a : Expr} {lo hi : Option Expr} {Post : PK1} {pos p2 : Pos}
def uO (X : Cx) (e : Option Expr) : TO := fun σ H Q => ∀ (pins : List (Addr × Obj)) (s : Shared), Inv X pins σ H s → wpAny (model X.prog X.w) X.A (evalPart e X.env) (fun u s' => ∃ o H', Inv X pins σ H' s' ∧ IsPart u o ∧ Q o H') X.xe s
theorem po_u {e : Option Expr} : PO X e (uO X e) := ⟨fun pins s _ _ _ I h => h pins s I⟩
theorem uO.of {e : Option Expr} {t : TO} (p : PO X e t) {σ : L2.St} {H : Hp} {Q : Option Int → Hp → Prop} (h : t σ H Q) : uO X e σ H Q := fun pins s I => p.run pins s σ H Q I h
def EO (X : Cx) (Γ : GEnv) (os : List Own) (e : Option Expr) (P : Option Int → List Own → Prop) : Prop := ∀ σ H Q, Ok X.K Γ os σ H → (∀ i H' os', P i os' → Step X.K os os' H H' → Q i H') → uO X e σ H Q
theorem eo_none {P : Option Int → List Own → Prop} (h : P none os) : EO X Γ os none P := fun σ H Q ok g => uO.of po_none (g none H os h ok.refl)
theorem eo_some {P : Option Int → List Own → Prop} (h : E X Γ os e fun F os1 => ∃ i, F = fInt i ∧ P (some i) os1) : EO X Γ os (some e) P := fun σ H Q ok g => uO.of (po_some pe_u) (h σ H _ ok fun v H1 F os1 p s1 r1 => by
  obtain ⟨i, rfl, p⟩ := p
  exact ⟨i, r1, g (some i) H1 os1 p s1⟩)
def OpS (K : PySem.W.Frag) (os : List Own) (r : V → Option Int → Option Int → Hp → VK → Prop) (F : Fact) (lo hi : Option Int) (Post : PK1) : Prop := ∀ x H Q, (∀ o ∈ os, o.ok K (ms os) H) → (ms os).Nodup → F.r K (ms os) H x → Give K os H Post Q → r x lo hi H Q
def rSlTA (K : PySem.W.Frag) : V → Option Int → Option Int → Hp → VK → Prop := fun x lo hi H Q => rSlT K x lo hi H Q
def rSl (K : PySem.W.Frag) : V → Option Int → Option Int → Hp → VK → Prop := fun x lo hi H Q => rSlS x lo hi H Q ∨ rSlL K x lo hi H Q
theorem sl_u : SlR X (rSl X.K) := SlR.or sl_str sl_list
theorem e_slice (h : E X Γ os e fun F os1 => EO X Γ os1 lo fun l os2 => EO X Γ os2 hi fun u os3 => OpS X.K os3 (rSl X.K) F l u Post) : E X Γ os (.Subscript e (.Slice lo hi none p2) pos) Post := fun σ H Q ok g =>
  uE.of (pe_slice sl_u pe_u po_u po_u) (h σ H _ ok fun v H1 F os1 p s1 r1 => p σ H1 _ (ok.step s1) fun l H2 os2 p2 s2 => p2 σ H2 _ ((ok.step s1).step s2) fun u H3 os3 p3 s3 =>
    p3 v H3 Q s3.ow s3.nd (Fact.go (Fact.go r1 s2) s3) (g.step ((s1.trans s2).trans s3)))
theorem o_sl_S {K : PySem.W.Frag} {z : Str} {l u : Option Int} (hz : z.length ≤ 1000000) (h : Post (fStr (cutS z l u)) os) : OpS K os (rSl K) (fStr z) l u Post := fun x H Q ow nd rx gv =>
  .inl ⟨z, rx, Nat.le_trans hz (by decide), gv.now h ow nd rfl⟩
def cutF (xs : List Fact) (lo hi : Option Int) : List Fact := (xs.drop (HT.sIx xs.length 0 lo)).take (HT.sIx xs.length xs.length hi - HT.sIx xs.length 0 lo)
theorem o_sl_L {K : PySem.W.Frag} {Fs : List Fact} {l u : Option Int} (h : Post (fL (cutF Fs l u)) os) : OpS K os (rSl K) (fL Fs) l u Post := fun x H Q ow nd rx gv => by
  obtain ⟨a, vs, rfl, ha, ra⟩ := rx
  refine .inr ⟨a, vs, rfl, ha.sq, fun p hp => gv.laid h ow nd hp fun hn s => ⟨p, _, rfl, ⟨hn, upd_same⟩, ?_⟩⟩
  unfold cutV cutF
  rw [ra.length]
  exact (((ra.go s).drop _).take _)
theorem e_dget (hu : X.A.units + 1 < cLine) (hs : NoSl a) {s : Str} {i : Nat} (h : E X Γ os e fun F os1 => ∃ ks Fs G, F = fDk ks Fs ∧ Fs.length = ks.length ∧ E X Γ os1 a fun F' os2 => F' = fStr s ∧ (∀ vs : List V, vs.length = ks.length → valV (ks.zip vs) (Sum.inr s) = vs[i]?) ∧ Fs[i]? = some G ∧ Post G os2) :
    E X Γ os (.Subscript e a pos) Post := fun σ H Q ok g =>
  uE.of (pe_dget hu pe_u pe_u hs) (h σ H _ ok fun v H1 F os1 p s1 r1 => by
    obtain ⟨ks, Fs, G, rfl, hl, p⟩ := p
    refine p σ H1 _ (ok.step s1) fun w H2 F' os2 p2 s2 r2 => ?_
    obtain ⟨rfl, hv, hG, hp⟩ := p2
    obtain ⟨b, vs, rfl, hb, he, rv⟩ := Fact.go r1 s2
    cases (show w = .str s from r2)
    obtain ⟨u, e1, ru⟩ := rv.get hG
    refine ⟨b, u, rfl, .inl ⟨_, Sum.inr s, Rd.of he, rfl, ?_⟩, g _ H2 _ os2 hp (s1.trans s2) ru⟩
    rw [hv vs (by rw [← rv.length]; exact hl)]; exact e1.symm)
theorem e_disp2 {k1 k2 v1 v2 : Expr} {s1 s2 : Str} (hk : (Sum.inr s1 : Key) ≠ Sum.inr s2) (hk1 : ∀ Γ os P, P (fStr s1) os → E X Γ os k1 P) (hk2 : ∀ Γ os P, P (fStr s2) os → E X Γ os k2 P)
    (h : ∀ p, E X Γ (.dk p [] [] :: os) v1 fun F os1 => ∃ os1', os1 = .dk p [] [] :: os1' ∧ E X Γ os1 v2 fun G os2 => ∃ os2', os2 = .dk p [] [] :: os2' ∧ Post (fDk [Sum.inr s1, Sum.inr s2] [F, G]) os2') :
    E X Γ os (.Dict [some k1, some k2] [v1, v2] pos) Post := fun σ H Q ok g =>
  uE.of (pe_disp (pps_cons pe_u pe_u (pps_cons pe_u pe_u pps_nil)) rfl rfl (fun z => by cases z) (by show 2 ≤ 15; decide)) (fun p hp => by
    have s := Step.laid (o := .dK []) ok.ow ok.nd hp
    have nw := owned_ne ok.ow hp
    have sD : Step X.K os (.dk p [] [] :: os) H (upd H p (.dK [])) := by
      refine ⟨s.keep, fun a ha => ?_, fun u hu => ?_, List.nodup_cons.mpr ⟨nw, ok.nd⟩⟩
      · rcases List.mem_cons.mp ha with z | z
        · rw [z]; exact .inr hp
        · exact .inl z
      · rcases List.mem_cons.mp hu with z | z
        · rw [z]; exact ⟨[], upd_same, .nil⟩
        · refine Own.ok_step (ok.ow u z) (by obtain ⟨q, e⟩ := Own.ok_tr (ok.ow u z); rw [upd_ne (ne_of_none e hp)]) s.keep fun a ha => ?_
          rcases List.mem_cons.mp ha with z | z
          · rw [z]; exact .inr hp
          · exact .inl z
    have okD := ok.step sD
    show uE X k1 σ _ _
    refine hk1 Γ _ (fun F os' => F = fStr s1 ∧ os' = .dk p [] [] :: os) ⟨rfl, rfl⟩ σ _ _ okD (fun v1' H1 F1 os1 p1 st1 r1 => ?_)
    obtain ⟨rfl, rfl⟩ := p1
    refine h p σ H1 _ (okD.step st1) fun w1 H2 F2 os2 p2 st2 r2 => ?_
    obtain ⟨os2', rfl, p2⟩ := p2
    refine hk2 Γ _ (fun F os' => F = fStr s2 ∧ os' = .dk p [] [] :: os2') ⟨rfl, rfl⟩ σ _ _ ((okD.step st1).step st2) (fun v2' H3 F3 os3 p3 st3 r3 => ?_)
    obtain ⟨rfl, rfl⟩ := p3
    refine p2 σ H3 _ (((okD.step st1).step st2).step st3) fun w2 H4 F4 os4 p4 st4 r4 => ?_
    obtain ⟨os4', rfl, p4⟩ := p4
    have em : H4 p = some (.dK []) := by
      obtain ⟨vs, e, r⟩ := st4.ow _ List.mem_cons_self
      simpa using e
    cases (show v1' = .str s1 from r1)
    cases (show v2' = .str s2 from r3)
    refine ⟨em, [(Sum.inr s1, w1), (Sum.inr s2, w2)], rfl, by show 2 ≤ 15; decide, ?_⟩
    have sall := (((sD.trans st1).trans st2).trans st3).trans st4
    have rF : F2.r X.K (ms (Own.dk p [] [] :: os4')) H4 w1 := Fact.go (Fact.go r2 st3) st4
    -- the dict is filled, and ours no more
    have mk : mergeK [] [((Sum.inr s1 : Key), w1), (Sum.inr s2, w2)] = [(Sum.inr s1, w1), (Sum.inr s2, w2)] := by
      unfold mergeK
      simp only [List.foldl_cons, List.foldl_nil]
      have h0 : putK ([] : List (Key × V)) (Sum.inr s1) w1 = [(Sum.inr s1, w1)] := rfl
      rw [h0]
      unfold putK
      have : (([((Sum.inr s1 : Key), w1)] : List (Key × V)).any fun kv => decide (kv.1 = Sum.inr s2)) = false := by
        simp only [List.any_cons, List.any_nil, Bool.or_false]
        exact decide_eq_false hk
      rw [this]
      rfl
    rw [mk]
    have sp : Step X.K (.dk p [] [] :: os4') (.dk p [Sum.inr s1, Sum.inr s2] [F2, F4] :: os4') H4 (upd H4 p (.dK [(Sum.inr s1, w1), (Sum.inr s2, w2)])) :=
      Step.put (o := .dk p [] []) (o' := .dk p [Sum.inr s1, Sum.inr s2] [F2, F4]) (u := .dK [(Sum.inr s1, w1), (Sum.inr s2, w2)]) st4.ow st4.nd 0 rfl rfl fun kp => ⟨[w1, w2], upd_same, .cons (Fact.step _ rF kp fun _ z => .inl z) (.cons (Fact.step _ r4 kp fun _ z => .inl z) .nil)⟩
    have le : ∀ a ∈ ms os4', a ∈ ms (Own.dk p [Sum.inr s1, Sum.inr s2] [F2, F4] :: os4') ∨ (upd H4 p (.dK [(Sum.inr s1, w1), (Sum.inr s2, w2)])) a = none := fun a h => .inl (List.mem_cons_of_mem _ h)
    have sf : Step X.K (.dk p [Sum.inr s1, Sum.inr s2] [F2, F4] :: os4') os4' (upd H4 p (.dK [(Sum.inr s1, w1), (Sum.inr s2, w2)])) (upd H4 p (.dK [(Sum.inr s1, w1), (Sum.inr s2, w2)])) :=
      ⟨Keep.refl, le, fun o ho => Own.ok_step (sp.ow o (List.mem_cons_of_mem _ ho)) rfl Keep.refl le, (List.nodup_cons.mp sp.nd).2⟩
    refine g _ _ _ os4' p4 ((sall.trans sp).trans sf) ⟨p, [w1, w2], rfl, (List.nodup_cons.mp sp.nd).1, upd_same, ?_⟩
    exact .cons (Fact.go (Fact.go rF sp) sf) (.cons (Fact.go (Fact.go r4 sp) sf) .nil))
end
theorem zip_look {K : PySem.W.Frag} {ms : List Addr} {H : Hp} {f : Str} : ∀ {ns : List Str} {Fs : List Fact} {vs : List V} {i : Nat} {F : Fact}, Reps K ms H Fs vs → ns[i]? = some f → (∀ j, j < i → ns[j]? ≠ some f) → Fs[i]? = some F →
    ∃ v, (ns.zip vs).lookup f = some v ∧ F.r K ms H v
  | [], _, _, _, _, _, h, _, _ => by simp at h
  | n :: ns, _, _, i, F, .nil, _, _, h => by simp at h
  | n :: ns, G :: Fs, v :: vs, 0, F, .cons r t, h1, _, h3 => by
    simp at h1 h3
    subst h1; subst h3
    exact ⟨v, by simp [List.lookup], r⟩
  | n :: ns, G :: Fs, v :: vs, i + 1, F, .cons r t, h1, h2, h3 => by
    have ne : n ≠ f := fun e => h2 0 (by omega) (by simp [e])
    obtain ⟨u, e, ru⟩ := zip_look (i := i) t (by simpa using h1) (fun j hj => by have := h2 (j + 1) (by omega); simpa using this) (by simpa using h3)
    refine ⟨u, ?_, ru⟩
    rw [List.zip_cons_cons, List.lookup_cons]
    have q : (f == n) = false := by simpa using fun e => ne e.symm
    rw [q]
    exact e
theorem zip_no {f : Str} : ∀ {ns : List Str} {vs : List V}, f ∉ ns → (ns.zip vs).lookup f = none
  | [], _, _ => by simp
  | n :: ns, [], _ => by simp
  | n :: ns, v :: vs, h => by
    rw [List.zip_cons_cons, List.lookup_cons]
    have q : (f == n) = false := by
      have : ¬ f = n := fun e => h (by simp [e])
      simpa using this
    rw [q]
    exact zip_no fun z => h (List.mem_cons_of_mem _ z)
/-- an instance: of the class at C, with fields ns -/
def InsF (K : PySem.W.Frag) (os : List Own) (C : Addr) (ns : List Str) (F : Fact) : Prop := ∀ H v, (∀ o ∈ os, o.ok K (ms os) H) → F.r K (ms os) H v → ∃ a dx vs, v = .ref a ∧ H a = some (.ins C dx (ns.zip vs))
theorem ins_I {K : PySem.W.Frag} {os : List Own} {C : Addr} {ns : List Str} {Fs : List Fact} : InsF K os C ns (fI C ns Fs) := fun H v _ ⟨a, dx, vs, e, _, h, _⟩ => ⟨a, dx, vs, e, h⟩
theorem ins_own {K : PySem.W.Frag} {os : List Own} {C dx a : Addr} {ns : List Str} {Fs : List Fact} (h : Own.ins C dx a ns Fs ∈ os) : InsF K os C ns (fRef a) := fun H v ow r => by
  obtain ⟨vs, e, _⟩ := ow _ h
  exact ⟨a, dx, vs, r, e⟩
section
variable {X : Cx} {Γ : GEnv} {os : List Own} {o e : Expr} {es : List Expr} {Post : PK1} {pos apos p : Pos} {f m x : Str} {k : Nat} {fs : FS} {C : Addr}
theorem e_fld (i : Nat) (h : E X Γ os o fun F os1 => ∃ C ns Fs G, F = fI C ns Fs ∧ Cls X.K C ∧ NoAttr X.K C f ∧ ns[i]? = some f ∧ (∀ j, j < i → ns[j]? ≠ some f) ∧ Fs[i]? = some G ∧ Post G os1)
    (hb : attributeBase o f X.env (eval o X.env) = eval o X.env := by rfl) : E X Γ os (.Attribute o f pos) Post := fun σ H Q ok g =>
  uE.of (pe_fld pe_u hb) (h σ H _ ok fun v H1 F os1 p s1 r1 => by
    obtain ⟨C, ns, Fs, G, rfl, c, n, h1, h2, h3, p⟩ := p
    obtain ⟨a, dx, vs, rfl, _, ha, rv⟩ := r1
    obtain ⟨u, e1, ru⟩ := zip_look rv h1 h2 h3
    exact ⟨a, C, dx, _, u, rfl, ha, c, n, e1, g u H1 G os1 p s1 ru⟩)
/-- .. of owned ones -/
theorem e_fldO (i : Nat) (h : E X Γ os o fun F os1 => ∃ C dx a ns Fs G, F = fRef a ∧ Own.ins C dx a ns Fs ∈ os1 ∧ Cls X.K C ∧ NoAttr X.K C f ∧ ns[i]? = some f ∧ (∀ j, j < i → ns[j]? ≠ some f) ∧ Fs[i]? = some G ∧ Post G os1)
    (hb : attributeBase o f X.env (eval o X.env) = eval o X.env := by rfl) : E X Γ os (.Attribute o f pos) Post := fun σ H Q ok g =>
  uE.of (pe_fld pe_u hb) (h σ H _ ok fun v H1 F os1 p s1 r1 => by
    obtain ⟨C, dx, a, ns, Fs, G, rfl, ho, c, n, h1, h2, h3, p⟩ := p
    obtain ⟨vs, ha, rv⟩ := s1.ow _ ho
    obtain ⟨u, e1, ru⟩ := zip_look rv h1 h2 h3
    exact ⟨a, C, dx, _, u, r1, ha, c, n, e1, g u H1 G os1 p s1 ru⟩)
/-- o.f = value, a new field -/
theorem s1_fldNew {d : AE} {value : Expr} {pos' : Pos} (h : E X Γ os value fun G os1 => E X Γ os1 o fun F os2 => ∃ (i : Nat) (C dx a : Addr) (ns : List Str) (Fs : List Fact), F = fRef a ∧ os2[i]? = some (.ins C dx a ns Fs) ∧ Cls X.K C ∧ NoAttr X.K C f ∧ ns.length ≤ 20 ∧ Fs.length = ns.length ∧ f ∉ ns ∧
      d.nx Γ (os2.set i (.ins C dx a (ns ++ [f]) (Fs ++ [G])))) (hs : swapsWith value (some (.Attribute o f pos')) pos.line X.env = pure false := by rfl) : S1 X d Γ os (.Assign [.Attribute o f pos'] value pos) := fun σ H D ok g =>
  uS.of (ps_fld pe_u pe_u hs) (h σ H _ ok fun y H1 G os1 p s1 r1 => p σ H1 _ (ok.step s1) fun v H2 F os2 p2 s2 r2 => by
    obtain ⟨i, C, dx, a, ns, Fs, rfl, hi, c, n, hl, hl2, hf, p2⟩ := p2
    obtain ⟨vs, ha, rv⟩ := s2.ow _ (List.mem_of_getElem? hi)
    have lv : vs.length = ns.length := by rw [← rv.length]; exact hl2
    refine ⟨a, C, dx, _, r2, ha, c, n, by rw [List.length_zip, lv]; omega, ?_⟩
    have ep : putF f y (ns.zip vs) = (ns ++ [f]).zip (vs ++ [y]) := by
      rw [List.zip_append (by rw [lv])]
      have gen : ∀ (l : List (Str × V)), (∀ q ∈ l, q.1 ≠ f) → putF f y l = l ++ [(f, y)] := by
        intro l
        induction l with
        | nil => intro _; rfl
        | cons q l ih =>
          intro h
          obtain ⟨q1, q2⟩ := q
          have hq : ¬ q1 = f := h (q1, q2) List.mem_cons_self
          show (if q1 = f then _ else _) = _
          rw [if_neg hq, ih fun z hz => h z (List.mem_cons_of_mem _ hz)]
          rfl
      rw [gen _ fun q hq => fun e => hf (e ▸ (List.of_mem_zip hq).1)]
      rfl
    rw [ep]
    have st := Step.put (o := .ins C dx a ns Fs) (o' := .ins C dx a (ns ++ [f]) (Fs ++ [G])) (u := .ins C dx ((ns ++ [f]).zip (vs ++ [y]))) s2.ow s2.nd i hi rfl fun kp => ⟨vs ++ [y], upd_same, (rv.append (.cons (Fact.go r1 s2) .nil)).step kp fun _ z => .inl z⟩
    exact g.nx σ _ Γ _ p2 ((s1.trans s2).trans st) (((ok.step s1).step s2).step st))
/-- an owned instance is owned no more -/
theorem frzI_ok {K : PySem.W.Frag} {os : List Own} {H : Hp} {C dx a : Addr} {ns : List Str} {Fs : List Fact} (ow : ∀ o ∈ (Own.ins C dx a ns Fs :: os), o.ok K (ms (Own.ins C dx a ns Fs :: os)) H) (nd : (ms (Own.ins C dx a ns Fs :: os)).Nodup) :
    Step K (Own.ins C dx a ns Fs :: os) os H H ∧ (fI C ns Fs).r K (ms os) H (.ref a) := by
  have le : ∀ b ∈ ms os, b ∈ ms (Own.ins C dx a ns Fs :: os) ∨ H b = none := fun a h => .inl (List.mem_cons_of_mem _ h)
  have s : Step K (Own.ins C dx a ns Fs :: os) os H H := ⟨Keep.refl, le, fun o ho => Own.ok_step (ow o (List.mem_cons_of_mem _ ho)) rfl Keep.refl le, (List.nodup_cons.mp nd).2⟩
  obtain ⟨vs, e, r⟩ := ow _ List.mem_cons_self
  exact ⟨s, a, dx, vs, rfl, (List.nodup_cons.mp nd).1, e, r.step Keep.refl le⟩
theorem e_frzI (h : E X Γ os e fun F os1 => ∃ C dx a ns Fs os2, F = fRef a ∧ os1 = .ins C dx a ns Fs :: os2 ∧ Post (fI C ns Fs) os2) : E X Γ os e Post := fun σ H Q ok g =>
  h σ H Q ok fun v H1 F os1 p s1 r1 => by
    obtain ⟨C, dx, a, ns, Fs, os2, rfl, rfl, p⟩ := p
    obtain ⟨s2, r2⟩ := frzI_ok s1.ow s1.nd
    cases (show v = .ref a from r1)
    exact g _ H1 _ os2 p (s1.trans s2) r2
end
/-- a def at f that keeps fs -/
structure Fd (P : Program) (w : World) (K : PySem.W.Frag) (mg : Str → Option Value) (base : Heap) (k : Nat) (f : Addr) (fd : FuncData) (ps : List Str) (fs : FS) : Prop where
  ex : ∃ CX, FnOk P w K mg base CX k f fd ps (spOf K fs) ∧ (CX = CX0 ∨ CX = L2.CX P w)
section
variable {X : Cx} {Γ : GEnv} {os : List Own} {o e : Expr} {es : List Expr} {Post : PK1} {pos apos p : Pos} {m x : Str} {k : Nat} {fs : FS} {C f q : Addr} {fd : FuncData} {ps : List Str}
theorem e_prop (c : Cls X.K C) (hp : PropOf X.K C m q f) (D : Fd X.prog X.w X.K X.mg X.base k f fd ps fs) (hr : Room (k + 1) X.A) (hb : Binds X.K fd ps [])
    (h : E X Γ os o fun F os1 => (∃ ns, InsF X.K os1 C ns F) ∧ fs [F] os1 Post) (hab : attributeBase o m X.env (eval o X.env) = eval o X.env := by rfl) : E X Γ os (.Attribute o m pos) Post := fun σ H Q ok g => by
  obtain ⟨CX, F0, hc⟩ := D.ex
  have hx : Passes CX X.nox E0 := by
    rcases hc with rfl | rfl
    · exact pass0
    · exact passL
  refine uE.of (pe_prop pe_u c hp F0 hr hb .nil hx hab) (h σ H _ ok fun v H1 F os1 p s1 r1 => ?_)
  obtain ⟨ns, hi⟩ := p.1
  obtain ⟨a, dx, vs, rfl, ha⟩ := hi H1 v s1.ow r1
  exact ⟨a, dx, _, rfl, ha, [F], os1, Post, p.2, .cons r1 .nil, s1.ow, s1.nd, g.step s1⟩
theorem e_meth {pl : Sem Bool} (c : Cls X.K C) (hm : Meth X.K C m f) (D : Fd X.prog X.w X.K X.mg X.base k f fd ps fs) (hr : Room k X.A) (hb : Binds X.K fd ps [])
    (h : E X Γ os o fun F os1 => (∃ ns, InsF X.K os1 C ns F ∧ m ∉ ns) ∧ A X Γ os1 (e :: es) fun Fs os2 => fs (F :: Fs) os2 Post)
    (hst : starEach (e :: es) X.env = (false, eval e X.env) :: starEach es X.env := by rfl) (hpl : (backTo pos (starEach es X.env)).any (·.1) = false := by rfl)
    (ht : eval (.Call (.Attribute o m apos) (e :: es) [] pos) X.env = (do
      let ov ← eval o X.env
      standAt apos.atName
      let (f, first) ← holding [ov] (getMethod ov m pl)
      callWith pos f first (backTo pos (starEach (e :: es) X.env)) (backToKw pos (keywordEach [] X.env))) := by rfl) : E X Γ os (.Call (.Attribute o m apos) (e :: es) [] pos) Post := fun σ H Q ok g => by
  obtain ⟨CX, F0, hc⟩ := D.ex
  refine uE.of (pe_meth pe_u c hm F0 hr hb .nil (passAny hc) pa_u hst hpl ht) (h σ H _ ok fun v H1 F os1 p s1 r1 => ?_)
  obtain ⟨⟨ns, hi, hn⟩, p⟩ := p
  obtain ⟨a, dx, vs, rfl, ha⟩ := hi H1 v s1.ow r1
  refine ⟨a, dx, _, rfl, ha, zip_no hn, p σ H1 _ (ok.step s1) fun ws H2 Fs os2 p2 s2 r2 => ?_⟩
  refine ⟨F :: Fs, os2, Post, p2, .cons (Fact.go r1 s2) (by rw [List.append_nil]; exact r2), s2.ow, s2.nd, g.step (s1.trans s2)⟩
end
end G
namespace G
open PySem L2
section
variable {X : Cx} {d : AE} {Γ : GEnv} {os : List Own} {e o i : Expr} {Post : PK1} {pos pos' : Pos}
/-- what is hidden is opened -/
theorem E.ex (h : E X Γ os e fun F os1 => ∃ (α : Type) (G : α → Fact), F = fEx G ∧ ∀ x, Post (G x) os1) : E X Γ os e Post := fun σ H Q ok g => h σ H Q ok fun v H1 F os1 p s1 r1 => by
  obtain ⟨α, G, rfl, p⟩ := p
  obtain ⟨x, r⟩ := r1
  exact g v H1 (G x) os1 (p x) s1 r
/-- a fact is put otherwise -/
def Fle (F G : Fact) : Prop := ∀ K ms H v, F.r K ms H v → G.r K ms H v
theorem E.weak (h : E X Γ os e fun F os1 => ∃ G, Fle F G ∧ Post G os1) : E X Γ os e Post := fun σ H Q ok g => h σ H Q ok fun v H1 F os1 p s1 r1 => by
  obtain ⟨G, l, p⟩ := p
  exact g v H1 G os1 p s1 (l _ _ _ _ r1)
theorem Fle.refl {F : Fact} : Fle F F := fun _ _ _ _ h => h
theorem Fle.ex {α : Type} {G : α → Fact} (x : α) : Fle (G x) (fEx G) := fun _ _ _ _ h => ⟨x, h⟩
inductive Fles : List Fact → List Fact → Prop
  | nil : Fles [] []
  | cons {F G : Fact} {Fs Gs : List Fact} : Fle F G → Fles Fs Gs → Fles (F :: Fs) (G :: Gs)
theorem Fles.reps {Fs Gs : List Fact} (h : Fles Fs Gs) : ∀ {K : PySem.W.Frag} {ms : List Addr} {H : Hp} {vs : List V}, Reps K ms H Fs vs → Reps K ms H Gs vs := by
  induction h with
  | nil => intro K ms H vs r; exact r
  | cons l _ ih => intro K ms H vs r; cases r with | cons r1 r2 => exact .cons (l _ _ _ _ r1) (ih r2)
theorem Fles.refl : ∀ Fs : List Fact, Fles Fs Fs
  | [] => .nil
  | _ :: Fs => .cons Fle.refl (Fles.refl Fs)
/-- an owned list is put otherwise -/
theorem putF_ok {K : PySem.W.Frag} {os : List Own} {H : Hp} {l : Addr} {Fs Gs : List Fact} (n : Nat) (hn : os[n]? = some (.lst l Fs)) (hl : Fles Fs Gs) (ow : ∀ o ∈ os, o.ok K (ms os) H) (nd : (ms os).Nodup) : Step K os (os.set n (.lst l Gs)) H H := by
  obtain ⟨vs, e, r⟩ := ow _ (List.mem_of_getElem? hn)
  have s := Step.put (o := .lst l Fs) (o' := .lst l Gs) (u := .lst vs) ow nd n hn rfl fun kp => ⟨vs, upd_same, (hl.reps r).step kp fun _ z => .inl z⟩
  have eh : upd H (Own.addr (.lst l Fs)) (.lst vs) = H := by
    funext b
    by_cases z : b = l
    · subst z; show upd H b _ b = H b; rw [upd_same, e]
    · show upd H l _ b = H b
      rw [upd_ne z]
  rw [eh] at s
  exact s
theorem E.put (n : Nat) (h : E X Γ os e fun F os1 => ∃ l Fs Gs, os1[n]? = some (.lst l Fs) ∧ Fles Fs Gs ∧ Post F (os1.set n (.lst l Gs))) : E X Γ os e Post := fun σ H Q ok g => h σ H Q ok fun v H1 F os1 p s1 r1 => by
  obtain ⟨l, Fs, Gs, hn, hl, p⟩ := p
  have s2 := putF_ok n hn hl s1.ow s1.nd
  exact g v H1 F _ p (s1.trans s2) (Fact.go r1 s2)
theorem S.put (n : Nat) {sts : List Stmt} {l : Addr} {Fs Gs : List Fact} (hn : os[n]? = some (.lst l Fs)) (hl : Fles Fs Gs) (h : S X d Γ (os.set n (.lst l Gs)) sts) : S X d Γ os sts := fun σ H D ok g => by
  have s2 := putF_ok n hn hl ok.ow ok.nd
  exact h σ H D (ok.step s2) (g.step s2)
/-- xs[i] = value, xs owned -/
theorem s1_setO {value : Expr} (n : Nat) (h : E X Γ os value fun G os1 => E X Γ os1 o fun F os2 => E X Γ os2 i fun I os3 => ∃ l Fs k j, F = fRef l ∧ I = fInt k ∧ os3[n]? = some (.lst l Fs) ∧ ixN Fs.length k = some j ∧ d.nx Γ (os3.set n (.lst l (Fs.set j G))))
    (ha : ∀ v, assign (.Subscript o i pos') X.env v = (do
      let ov ← holding [v] (eval o X.env)
      let iv ← holding [v, ov] (eval i X.env)
      standAt pos'
      holding [v, ov, iv] (setItem ov iv v)
      release [v, ov, iv] []) := by intro _; rfl)
    (hs : swapsWithSole [.Subscript o i pos'] value pos.line X.env = pure false := by rfl) (hw : swappedStores [.Subscript o i pos'] value X.env = pure none := by rfl)
    (h1 : (assignEach [.Subscript o i pos'] X.env).map (·.2) = [assign (.Subscript o i pos') X.env] := by rfl) : S1 X d Γ os (.Assign [.Subscript o i pos'] value pos) := fun σ H D ok g =>
  uS.of (ps_asg pe_u (pg_sub pe_u pe_u set_list ha) hs hw h1) (h σ H _ ok fun v H1 G os1 p s1 r1 => p σ H1 _ (ok.step s1) fun w H2 F os2 p2 s2 r2 => p2 σ H2 _ ((ok.step s1).step s2) fun z H3 I os3 p3 s3 r3 => by
    obtain ⟨l, Fs, k, j, rfl, rfl, hn, hj, p3⟩ := p3
    obtain ⟨vs, e, rv⟩ := s3.ow _ (List.mem_of_getElem? hn)
    cases (show w = .ref l from r2)
    cases (show z = .int k from r3)
    refine ⟨l, vs, k, j, rfl, rfl, e, by rw [← rv.length]; exact hj, ?_⟩
    have st := Step.put (o := .lst l Fs) (o' := .lst l (Fs.set j G)) (u := .lst (vs.set j v)) s3.ow s3.nd n hn rfl fun kp => ⟨_, upd_same, (rv.set (Fact.go (Fact.go r1 s2) s3) j).step kp fun _ z => .inl z⟩
    exact g.nx σ _ Γ _ p3 (((s1.trans s2).trans s3).trans st) ((((ok.step s1).step s2).step s3).step st))
end
end G
namespace G
open PySem L2
/-- a def of the text as it stands behind the top -/
def DefIn (K : PySem.W.Frag) (mg : Str → Option Value) (x qual : Str) (st : Stmt) (ps : List Str) : Prop := ∃ f fd, Fun K x qual st f fd ∧ mg x = some (.ref f) ∧ Binds K fd ps []
abbrev G0 (N : List Str) (Fs : List Fact) : GEnv := Fs.map some ++ List.replicate (N.length - Fs.length) none
section
variable {P : Program} {w : World} {K : PySem.W.Frag} {mg : Str → Option Value} {base : Heap} {x qual : Str} {st : Stmt} {N ps : List Str} {k : Nat}
abbrev bodyOk (P : Program) (w : World) (K : PySem.W.Frag) (mg : Str → Option Value) (base : Heap) (qual : Str) (st : Stmt) (N : List Str) (k : Nat) (fs : FS) : Prop :=
  ∀ (cdv : Value) (f : Addr) (A : Around) (outer : List Env) (s : Shared) (H : Hp) (E : XK), Room k (A.deeper (PyProof.Rows.envOfC qual (defScope st) s.heap.objs.size f cdv)) → ∀ Fs os Post, fs Fs os Post →
      S (cxOf CX0 P w K mg base N qual (defScope st) f cdv A outer s H E).nox { rt := Post, nx := fun _ os' => Post fNon os' } (G0 N Fs) os (defBody st)
theorem df_ok {fs : FS} (D : DefIn K mg x qual st ps) (Sc : FnScope N ps (defScope st)) (len : ∀ Fs os Post, fs Fs os Post → Fs.length = ps.length) (h : bodyOk P w K mg base qual st N k fs) : Df P w K mg base (k + 1) x ps fs := by
  obtain ⟨f, fd, F, hm, hb⟩ := D
  exact .mk' (def_ok F Sc len fun cdv => h cdv f) hm F.kp hb
/-- one owned thing goes in and out -/
abbrev FS1 := List Fact → Own → (Fact → Own → Prop) → Prop
def fsH (f0 : FS1) : FS := fun Fs os Post => ∃ o os0, os = o :: os0 ∧ f0 Fs o fun F o' => o'.addr = o.addr → Post F (o' :: os0)
def fsI (f0 : FS1) : FS := fun Fs os Post => ∃ o i, os[i]? = some o ∧ f0 Fs o fun F o' => o'.addr = o.addr → Post F (os.set i o')
theorem mem_erase {os : List Own} {i : Nat} {o : Own} (h : os[i]? = some o) (u : Own) : u ∈ os ↔ u ∈ o :: os.eraseIdx i := by
  have e : os = os.take i ++ o :: os.drop (i + 1) := by
    have hl := (List.getElem?_eq_some_iff.mp h).1
    have := (List.getElem?_eq_some_iff.mp h).2
    rw [← this, List.getElem_cons_drop, List.take_append_drop]
  constructor
  · intro hu
    rw [e] at hu
    rw [List.eraseIdx_eq_take_drop_succ]
    rcases List.mem_append.mp hu with z | z
    · exact List.mem_cons_of_mem _ (List.mem_append_left _ z)
    · rcases List.mem_cons.mp z with q | q
      · rw [q]; exact List.mem_cons_self
      · exact List.mem_cons_of_mem _ (List.mem_append_right _ q)
  · intro hu
    rcases List.mem_cons.mp hu with z | z
    · rw [z]; exact List.mem_of_getElem? h
    · exact List.mem_of_mem_eraseIdx z
theorem perm_erase {os : List Own} {i : Nat} {o : Own} (h : os[i]? = some o) : (o :: os.eraseIdx i).Perm os := by
  have hl := (List.getElem?_eq_some_iff.mp h).1
  have e := (List.getElem?_eq_some_iff.mp h).2
  have e2 : os = os.take i ++ o :: os.drop (i + 1) := by
    rw [← e, List.getElem_cons_drop, List.take_append_drop]
  rw [List.eraseIdx_eq_take_drop_succ]
  conv => rhs; rw [e2]
  exact List.perm_middle.symm
theorem perm_set {os : List Own} {i : Nat} {o o' : Own} (h : os[i]? = some o) : (o' :: os.eraseIdx i).Perm (os.set i o') := by
  have hl := (List.getElem?_eq_some_iff.mp h).1
  have h' : (os.set i o')[i]? = some o' := List.getElem?_set_self hl
  have q := perm_erase h'
  have e : (os.set i o').eraseIdx i = os.eraseIdx i := by
    rw [List.eraseIdx_set_eq]
  rw [e] at q
  exact q
theorem ms_perm {a b : List Own} (p : a.Perm b) : (ms a).Perm (ms b) := p.map _
theorem perm_step {a b a' b' : List Own} {H H' : Hp} (p : a.Perm b) (p' : a'.Perm b') (s : Step K a a' H H') : Step K b b' H H' := by
  have q := ms_perm p
  have q' := ms_perm p'
  refine ⟨s.keep.mono fun x h => q.mem_iff.mp h, fun x h => ?_, fun o h => ?_, q'.nodup_iff.mp s.nd⟩
  · rcases s.new x (q'.mem_iff.mpr h) with z | z
    · exact .inl (q.mem_iff.mp z)
    · exact .inr z
  · exact Own.ok_step (s.ow o (p'.mem_iff.mpr h)) rfl Keep.refl fun x hx => .inl (q'.mem_iff.mpr hx)
theorem df_okI {f0 : FS1} (D : DefIn K mg x qual st ps) (Sc : FnScope N ps (defScope st)) (mono : ∀ Fs o P Q, (∀ F o', P F o' → Q F o') → f0 Fs o P → f0 Fs o Q) (len : ∀ Fs o Post, f0 Fs o Post → Fs.length = ps.length) (h : bodyOk P w K mg base qual st N k (fsH f0)) : Df P w K mg base (k + 1) x ps (fsI f0) := by
  obtain ⟨f, fd, F, hm, hb⟩ := D
  refine .mk' ?_ hm F.kp hb
  have G : FnOk P w K mg base CX0 (k + 1) f fd ps (spOf K (fsH f0)) := def_ok F Sc (fun Fs os Post ⟨o, os0, e, q⟩ => len _ _ _ q) fun cdv => h cdv f
  refine G.imp fun vs H Q E q => ?_
  obtain ⟨Fs, os, Post, ⟨o, i, hi, hf⟩, h2, h3, h4, h5⟩ := q
  have p1 := perm_erase hi
  have q1 := ms_perm p1
  refine ⟨Fs, o :: os.eraseIdx i, fun F os' => ∃ o', os' = o' :: os.eraseIdx i ∧ Post F (os.set i o'), ⟨o, _, rfl, mono _ _ _ _ (fun F o' hp ha => ⟨o', rfl, hp ha⟩) hf⟩, h2.step Keep.refl fun x hx => .inl (q1.mem_iff.mp hx), fun u hu => ?_, q1.nodup_iff.mpr h4, ?_⟩
  · exact Own.ok_step (h3 u (p1.mem_iff.mp hu)) rfl Keep.refl fun x hx => .inl (q1.mem_iff.mp hx)
  · rintro v H' F os' ⟨o', rfl, hp⟩ s r
    have p2 := perm_set (o' := o') hi
    exact h5 v H' F _ hp (perm_step p1 p2 s) (F.step r Keep.refl fun x hx => .inl ((ms_perm p2).mem_iff.mpr hx))
end

def fSub (p : Int → Prop) : Fact := ⟨fun _ _ _ v => ∃ n, p n ∧ v = .int n, fun h _ _ => h⟩
def fNn : Fact := fSub fun n => 0 ≤ n ∧ n.natAbs < 2 ^ 1000
def fSm : Fact := fSub fun n => 0 ≤ n ∧ n < 2305843009213693921
def fCt (k : Int) : Fact := fSub fun n => 0 ≤ n ∧ n ≤ k
theorem E.sub {X : Cx} {Γ : GEnv} {os : List Own} {e : Expr} {Post : PK1} (h : E X Γ os e fun F os1 => ∃ p, F = fSub p ∧ ∀ n, p n → Post (fInt n) os1) : E X Γ os e Post := fun σ H Q ok g => h σ H Q ok fun v H1 F os1 p s1 r1 => by
  obtain ⟨q, rfl, p⟩ := p
  obtain ⟨n, hn, e⟩ := r1
  exact g v H1 (fInt n) os1 (p n hn) s1 e
def potO (l : Addr) (k : Int) : Own := .lst l [fNn, fSm, fCt k]
theorem Fle.nn {n : Int} (h : 0 ≤ n ∧ n.natAbs < 2 ^ 1000) : Fle (fInt n) fNn := fun _ _ _ _ r => ⟨n, h, r⟩
theorem Fle.sm {n : Int} (h : 0 ≤ n ∧ n < 2305843009213693921) : Fle (fInt n) fSm := fun _ _ _ _ r => ⟨n, h, r⟩
theorem Fle.ct {n k : Int} (h : 0 ≤ n ∧ n ≤ k) : Fle (fInt n) (fCt k) := fun _ _ _ _ r => ⟨n, h, r⟩
theorem Fle.ct2 {j k : Int} (h : j ≤ k) : Fle (fCt j) (fCt k) := fun _ _ _ _ ⟨n, x, r⟩ => ⟨n, ⟨x.1, Int.le_trans x.2 h⟩, r⟩
/-- take(pot, n) -/
def fs_take : FS1 := fun Fs o Post => ∃ l n k, Fs = [fRef l, fInt n] ∧ o = potO l k ∧ 0 < n ∧ n < 1000000 ∧ 0 ≤ k ∧ k ≤ 1000000 ∧ ∀ m, 0 ≤ m → m < n → Post (fInt m) (potO l (k + 1))
/-- of(pot, list): one of them -/
def fs_of : FS1 := fun Fs o Post => ∃ l k Gs, Fs = [fRef l, fL Gs] ∧ o = potO l k ∧ 0 < Gs.length ∧ Gs.length < 1000000 ∧ 0 ≤ k ∧ k ≤ 1000000 ∧ ∀ G ∈ Gs, Post G (potO l (k + 1))
theorem fs_take_mono : ∀ Fs o P Q, (∀ F o', P F o' → Q F o') → fs_take Fs o P → fs_take Fs o Q := fun Fs o P Q h ⟨l, n, k, a, b, c, d, e, f, g⟩ => ⟨l, n, k, a, b, c, d, e, f, fun m h1 h2 => h _ _ (g m h1 h2)⟩
theorem fs_of_mono : ∀ Fs o P Q, (∀ F o', P F o' → Q F o') → fs_of Fs o P → fs_of Fs o Q := fun Fs o P Q h ⟨l, k, Gs, a, b, c, d, e, f, g⟩ => ⟨l, k, Gs, a, b, c, d, e, f, fun m h1 => h _ _ (g m h1)⟩
end G
namespace G
open PySem L2
section
variable {K : PySem.W.Frag} {os : List Own} {Post : PK1}
/-- a rest, by its bounds -/
theorem o_modL {i j : Int} (hc : 0 < j) (h : ∀ m, 0 ≤ m → m < j → Post (fInt m) os) : Op2 K os (rI (fun _ j => 0 < j) fun i j => .int (i % j)) (fInt i) (fInt j) Post :=
  o_mod hc (h _ (Int.emod_nonneg _ (by omega)) (Int.emod_lt_of_pos _ hc))
end
theorem pow3 {i : Int} (h1 : -(2 ^ 64) < i) (h2 : i < 2 ^ 64) : CPowW i 3 := by
  refine ⟨by decide, ?_⟩
  have := intBits_le_64 h1 h2
  have h : (Builtin.Int.intBits i : Int) ≤ 64 := by exact_mod_cast this
  have : (2 : Int) ^ 27 = 134217728 := by decide
  omega
theorem div_nn {a n : Int} (h : 0 ≤ a ∧ a.natAbs < 2 ^ 1000) (h0 : 0 < n) : 0 ≤ a / n ∧ (a / n).natAbs < 2 ^ 1000 := by
  have h1 : 0 ≤ a / n := Int.ediv_nonneg h.1 (by omega)
  have h2 : a / n ≤ a := Int.ediv_le_self n h.1
  refine ⟨h1, Nat.lt_of_le_of_lt ?_ h.2⟩
  omega
theorem list_at {α : Type} (Gs : List α) {m : Int} (h0 : 0 ≤ m) (h1 : m < (Gs.length : Int)) : ∃ G, atI Gs m = some G := by
  have hl : m.toNat < Gs.length := by omega
  exact ⟨Gs[m.toNat], at_nat h0 (by simp [hl])⟩
theorem mem_at {α : Type} {Gs : List α} {m : Int} {G : α} (h : atI Gs m = some G) : G ∈ Gs := by
  unfold atI at h
  cases q : ixN Gs.length m with
  | none => rw [q] at h; cases h
  | some j => rw [q] at h; exact List.mem_of_getElem? h
end G
namespace G
open PySem L2 TL
/-- the text of these signs -/
def ss (l : List Nat) : Str := ⟨l.toArray⟩
theorem tl_ss (l : List Nat) : tl (ss l) = l := by simp [tl, ss]
theorem ss_tl (z : Str) : ss (tl z) = z := by cases z; simp [tl, ss]
theorem ss_inj {a b : List Nat} (h : ss a = ss b) : a = b := by rw [← tl_ss a, h, tl_ss]
theorem ss_len (l : List Nat) : (ss l).length = l.length := by simp [ss, Str.length]
theorem ss_app (a b : List Nat) : ss a ++ ss b = ss (a ++ b) := by
  rw [← ss_tl (ss a ++ ss b), tl_append, tl_ss, tl_ss]
theorem ss_cps (l : List Nat) : (ss l).cps.toList = l := by simp [ss]
theorem ss_eq (a b : List Nat) : (ss a = ss b) ↔ a = b := ⟨ss_inj, fun h => by rw [h]⟩
/-- a text, a sign -/
abbrev fS (l : List Nat) : Fact := fStr (ss l)
theorem joinL_nil : ∀ ps : List (List Nat), joinL [] ps = ps.flatten
  | [] => rfl
  | [p] => by simp [joinL]
  | p :: q :: r => by
    show p ++ ([] ++ joinL [] (q :: r)) = _
    rw [joinL_nil (q :: r)]
    simp
theorem join_ss (y : List Nat) (ps : List (List Nat)) : Txt.join (ss y) (ps.map ss) = ss (joinL y ps) := by
  rw [← ss_tl (Txt.join _ _), join_eq, tl_join, tl_ss, List.map_map]
  have : (tl ∘ ss) = id := by funext l; exact tl_ss l
  rw [this, List.map_id]
theorem cutS_ss (l : List Nat) (a b : Option Int) : cutS (ss l) a b = ss ((l.drop (HT.sIx l.length 0 a)).take (HT.sIx l.length l.length b - HT.sIx l.length 0 a)) := by
  unfold cutS
  rw [ss_len, ss_cps]
  rfl
section
variable {X : Cx} {d : AE} {Γ : GEnv} {os : List Own} {e : Expr} {Post : PK1}
theorem drop_step {K : PySem.W.Frag} {os : List Own} {H : Hp} {o : Own} (ow : ∀ u ∈ (o :: os), u.ok K (ms (o :: os)) H) (nd : (ms (o :: os)).Nodup) : Step K (o :: os) os H H := by
  have le : ∀ a ∈ ms os, a ∈ ms (o :: os) ∨ H a = none := fun a h => .inl (List.mem_cons_of_mem _ h)
  exact ⟨Keep.refl, le, fun u hu => Own.ok_step (ow u (List.mem_cons_of_mem _ hu)) rfl Keep.refl le, (List.nodup_cons.mp nd).2⟩
/-- an owned thing is forgotten -/
theorem S.drop {o : Own} {sts : List Stmt} (h : S X d Γ os sts) : S X d Γ (o :: os) sts := fun σ H D ok g => by
  have s := drop_step ok.ow ok.nd
  exact h σ H D (ok.step s) (g.step s)
theorem E.drop (h : E X Γ os e fun F os1 => ∃ o os2, os1 = o :: os2 ∧ Post F os2) : E X Γ os e Post := fun σ H Q ok g => h σ H Q ok fun v H1 F os1 p s1 r1 => by
  obtain ⟨o, os2, rfl, p⟩ := p
  have s := drop_step s1.ow s1.nd
  exact g v H1 F os2 p (s1.trans s) (Fact.go r1 s)
end
theorem seqIx {m : Int} {n : Nat} (h0 : 0 ≤ m) (h1 : m < (n : Int)) : seqIndex? m n = some m.toNat := by
  unfold seqIndex?
  have : ¬ m < 0 := by omega
  simp [this, h0, h1]
theorem map_at {α β : Type} {f : α → β} {xs : List α} {i : Nat} {y : β} (h : (xs.map f)[i]? = some y) : ∃ x, xs[i]? = some x ∧ y = f x := by
  rw [List.getElem?_map] at h
  cases e : xs[i]? with
  | none => rw [e] at h; cases h
  | some x => rw [e] at h; exact ⟨x, rfl, (Option.some.inj h).symm⟩
theorem irange_at {lo : Int} {n i : Nat} {F : Fact} (h : (irange lo n)[i]? = some F) : i < n ∧ F = fInt (lo + (i : Int)) := by
  unfold irange at h
  obtain ⟨j, hj, e⟩ := map_at h
  have hi := (List.getElem?_eq_some_iff.mp hj).1
  have hi : i < n := by simpa using hi
  rw [List.getElem?_range hi] at hj
  cases hj
  exact ⟨hi, e⟩
theorem irange_len (lo : Int) (n : Nat) : (irange lo n).length = n := by simp [irange]
/-- some(pot, pool, many): unlike ones, with those that are left -/
def fs_some : FS1 := fun Fs o Post => ∃ (l : Addr) (k : Int) (zs : List Str) (n : Int), Fs = [fRef l, fL (zs.map fStr), fInt n] ∧ o = potO l k ∧ 0 ≤ n ∧ n ≤ (zs.length : Int) ∧ zs.length < 1000 ∧ 0 ≤ k ∧ k ≤ 900000 ∧
  ∀ ys rest : List Str, (ys ++ rest).Perm zs → (ys.length : Int) = n → Post (fL (ys.map fStr)) (potO l (k + n))
theorem fs_some_mono : ∀ Fs o P Q, (∀ F o', P F o' → Q F o') → fs_some Fs o P → fs_some Fs o Q := fun Fs o P Q h ⟨l, k, zs, n, a, b, c, d, e, f, g, q⟩ => ⟨l, k, zs, n, a, b, c, d, e, f, g, fun ys rest h1 h2 => h _ _ (q ys rest h1 h2)⟩
/-- letters: two or three, unlike -/
def IsLetters (cs : List Nat) : Prop := 2 ≤ cs.length ∧ cs.length ≤ 3 ∧ cs.Nodup ∧ ∀ c ∈ cs, c = 97 ∨ c = 98 ∨ c = 99 ∨ c = 120 ∨ c = 122
def fC (c : Nat) : Fact := fS [c]
def fs_letters : FS1 := fun Fs o Post => ∃ (l : Addr) (k : Int), Fs = [fRef l] ∧ o = potO l k ∧ 0 ≤ k ∧ k ≤ 800000 ∧ ∀ cs : List Nat, IsLetters cs → Post (fL (cs.map fC)) (potO l (k + 4))
theorem fs_letters_mono : ∀ Fs o P Q, (∀ F o', P F o' → Q F o') → fs_letters Fs o P → fs_letters Fs o Q := fun Fs o P Q h ⟨l, k, a, b, c, d, q⟩ => ⟨l, k, a, b, c, d, fun ys h1 => h _ _ (q ys h1)⟩
/-- word, put: letters of cs -/
def fs_word (lo ex : Nat) : FS1 := fun Fs o Post => ∃ (l : Addr) (k : Int) (cs : List Nat) (n : Int), Fs = [fRef l, fL (cs.map fC), fInt n] ∧ o = potO l k ∧ 0 < cs.length ∧ cs.length < 1000 ∧ 0 < n + (ex : Int) ∧ n < 100 ∧ 0 ≤ k ∧ k ≤ 900000 ∧
  ∀ z : List Nat, lo ≤ z.length → (z.length : Int) ≤ n → (∀ c ∈ z, c ∈ cs) → Post (fS z) (potO l (k + n + 1))
theorem fs_word_mono (lo ex : Nat) : ∀ Fs o P Q, (∀ F o', P F o' → Q F o') → fs_word lo ex Fs o P → fs_word lo ex Fs o Q := fun Fs o P Q h ⟨l, k, cs, n, a, b, c, d, e, f, g, i, q⟩ => ⟨l, k, cs, n, a, b, c, d, e, f, g, i, fun z h1 h2 h3 => h _ _ (q z h1 h2 h3)⟩
theorem fC_ss (w : List Nat) : w.map fC = (w.map fun c => ss [c]).map fStr := by rw [List.map_map]; rfl
theorem join_chars (w : List Nat) : Txt.join (ss []) (w.map fun c => ss [c]) = ss w := by
  have : (w.map fun c => ss [c]) = (w.map fun c => [c]).map ss := by rw [List.map_map]; rfl
  rw [this, join_ss, joinL_nil]
  congr 1
  induction w with
  | nil => rfl
  | cons c w ih => simp [ih]
end G
namespace G
open PySem L2 TL
theorem o_joinC {K : PySem.W.Frag} {os : List Own} {Post : PK1} {w : List Nat} (hz : w.length ≤ 1000000) (h : Post (fS w) os) : OpM K os (rJoin K) (fStr "") [fL (w.map fC)] Post := by
  rw [fC_ss w]
  refine o_join ?_ ?_
  · have e : ("" : Str).length = 0 := rfl
    have e2 : ∀ w : List Nat, ((w.map fun c => ss [c]).map (·.length)).sum = w.length := by
      intro w
      induction w with
      | nil => rfl
      | cons c w ih => simp [ss_len] at ih ⊢; omega
    rw [e, e2 w]; omega
  · have e := join_chars w
    have e2 : (ss [] : Str) = "" := rfl
    rw [e2] at e
    rw [e]; exact h
theorem letters_of {ys rest : List Str} (hp : (ys ++ rest).Perm ["a", "b", "c", "x", "z"]) (h2 : 2 ≤ ys.length) (h3 : ys.length ≤ 3) : ∃ cs, ys = cs.map (fun c => ss [c]) ∧ IsLetters cs := by
  have e : (["a", "b", "c", "x", "z"] : List Str) = [97, 98, 99, 120, 122].map fun c => ss [c] := by decide +kernel
  have g : ∀ c, (tl (ss [c])).headD 0 = c := fun c => by rw [tl_ss]; rfl
  have all : ∀ y ∈ ys, ∃ c ∈ [97, 98, 99, 120, 122], y = ss [c] := fun y hy => by
    have := hp.mem_iff.mp (List.mem_append_left rest hy)
    rw [e] at this
    obtain ⟨c, hc, e⟩ := List.mem_map.mp this
    exact ⟨c, hc, e.symm⟩
  have hm := hp.map fun y => (tl y).headD 0
  rw [e, List.map_map, List.map_append] at hm
  have e2 : [97, 98, 99, 120, 122].map ((fun y => (tl y).headD 0) ∘ fun c => ss [c]) = [97, 98, 99, 120, 122] := by decide +kernel
  rw [e2] at hm
  refine ⟨ys.map fun y => (tl y).headD 0, ?_, by simpa using h2, by simpa using h3, ?_, fun c hc => ?_⟩
  · rw [List.map_map]
    conv => lhs; rw [← List.map_id ys]
    refine List.map_congr_left fun y hy => ?_
    obtain ⟨c, _, rfl⟩ := all y hy
    show ss [c] = ss [(tl (ss [c])).headD 0]
    rw [g]
  · have nd : ([97, 98, 99, 120, 122] : List Nat).Nodup := by decide
    exact (List.nodup_append.mp (hm.nodup_iff.mpr nd)).1
  · have := hm.mem_iff.mp (List.mem_append_left _ hc)
    simpa using this
end G
namespace G
open PySem L2 TL
abbrev Lore := List (List Nat × List Nat) × Bool
def wayS (b : Bool) : Str := if b then "longest" else "first"
def fPair (p : List Nat × List Nat) : Fact := fT [fS p.1, fS p.2]
def KPW : List Key := [Sum.inr "pairs", Sum.inr "way"]
def fLore (x : Lore) : Fact := fDk KPW [fT (x.1.map fPair), fStr (wayS x.2)]
theorem pw_pairs : ∀ vs : List V, vs.length = KPW.length → valV (KPW.zip vs) (Sum.inr "pairs") = vs[0]? := fun vs h => match vs, h with
  | [a, b], _ => by
    show valV [((Sum.inr "pairs" : Key), a), (Sum.inr "way", b)] (Sum.inr ("pairs" : Str)) = some a
    unfold valV; simp
theorem pw_way : ∀ vs : List V, vs.length = KPW.length → valV (KPW.zip vs) (Sum.inr "way") = vs[1]? := fun vs h => match vs, h with
  | [a, b], _ => by
    show valV [((Sum.inr "pairs" : Key), a), (Sum.inr "way", b)] (Sum.inr ("way" : Str)) = some b
    have : ¬ ((Sum.inr ("pairs" : Str) : Key) = Sum.inr ("way" : Str)) := by decide +kernel
    unfold valV; simp [this]
structure IsLore (cs : List Nat) (most size : Int) (x : Lore) : Prop where
  ne : 1 ≤ x.1.length
  le : (x.1.length : Int) ≤ most
  nd : (x.1.map (·.1)).Nodup
  ok : ∀ p ∈ x.1, 1 ≤ p.1.length ∧ (p.1.length : Int) ≤ size ∧ (∀ c ∈ p.1, c ∈ cs) ∧ p.2.length ≤ 2 ∧ ∀ c ∈ p.2, c ∈ cs
def fs_lore : FS1 := fun Fs o Post => ∃ (l : Addr) (k : Int) (cs : List Nat) (most size : Int), Fs = [fRef l, fL (cs.map fC), fInt most, fInt size] ∧ o = potO l k ∧ 0 < cs.length ∧ cs.length < 1000 ∧ 1 ≤ most ∧ most ≤ 10 ∧ 1 ≤ size ∧ size ≤ 10 ∧ 0 ≤ k ∧ k ≤ 700000 ∧
  ∀ x : Lore, IsLore cs most size x → Post (fLore x) (potO l (k + 200))
theorem fs_lore_mono : ∀ Fs o P Q, (∀ F o', P F o' → Q F o') → fs_lore Fs o P → fs_lore Fs o Q := fun Fs o P Q h ⟨l, k, cs, most, size, a, b, c, d, e, f, g, i, j, m, q⟩ => ⟨l, k, cs, most, size, a, b, c, d, e, f, g, i, j, m, fun z h1 => h _ _ (q z h1)⟩
theorem fS_str (zs : List (List Nat)) : (zs.map ss).map fStr = zs.map fS := by rw [List.map_map]; rfl
theorem mem_ss (z : List Nat) (zs : List (List Nat)) : (ss z ∈ zs.map ss) ↔ z ∈ zs := by
  constructor
  · intro h
    obtain ⟨y, hy, e⟩ := List.mem_map.mp h
    rw [← ss_inj e]; exact hy
  · intro h; exact List.mem_map.mpr ⟨z, h, rfl⟩
end G
namespace G
theorem take_more {α : Type} : ∀ {l : List α} {i : Nat} {x : α}, l[i]? = some x → l.take (i + 1) = l.take i ++ [x]
  | [], i, x, h => by simp at h
  | a :: l, 0, x, h => by
    have e : a = x := Option.some.inj h
    subst e
    rfl
  | a :: l, i + 1, x, h => by
    have ih := take_more (l := l) (i := i) (x := x) h
    show a :: l.take (i + 1) = a :: l.take i ++ [x]
    rw [ih]
    rfl
end G
namespace G
open PySem L2 TL PySem.Spec PyProof.Rows
theorem new_enumT (tp : Addr) (vs : Array Value) (m : Nat) (dd : Option Addr) (sl : Array (Option Value)) :
    Meets (Builtin.«enumerate.__new__» ⟨[.type "enumerate", .ref tp], []⟩) (fun _ R s => s.heap.get? tp = some ⟨.type "tuple", dd, .seq vs m, sl⟩ ∧
      R (.ok (.ret (.ref (s.heap.push ⟨.type "tuple_iterator", none, .fields #[.ref tp, .int 0 0], #[]⟩).objs.size)))
        { s with heap := (s.heap.push ⟨.type "tuple_iterator", none, .fields #[.ref tp, .int 0 0], #[]⟩).push ⟨.type "enumerate", none, .fields #[.none, .bool false, .ref s.heap.objs.size, rawInt 0, .none, .none], #[]⟩ }) := by
  refine .of_wp ?_
  rintro prog w A R ⟨hp, gs, dr, tk, ops⟩ ⟨ht, hR⟩
  have sub := sub_enumerate
  have isT : Heap.IsTuple (Shared.heap ⟨hp, gs, dr, tk, ops⟩) tp vs := ⟨_, ht, rfl, m, rfl⟩
  wp_walk using AutoSeq1.wpAny_loadPart' ht
  refine wpAny_stack_any fun st => ?_
  refine wpAny_pure ?_
  split
  next c _ _ _ _ _ =>
    cases (c == Value.type "enumerate") <;> (wp_walk using AutoSeq1.wpAny_loadPart' ht, wpAny_pyIter_tuple isT; exact ⟨_, rfl, hR⟩)
  next =>
    wp_walk using AutoSeq1.wpAny_loadPart' ht, wpAny_pyIter_tuple isT
    exact ⟨_, rfl, hR⟩
end G
namespace G
open PySem L2 TL PySem.Spec PyProof.Rows
section
variable {prog : Program} {w : World} {A : Around} {E : Value → Shared → Prop} {s : Shared}
theorem call_enumT {tp : Addr} {vs : Array Value} {Q : Value → Shared → Prop} (ht : s.heap.IsTuple tp vs)
    (hQ : ∀ h2, IsEnum h2 (s.heap.objs.size + 1) s.heap.objs.size 0 .none ∧ h2.IsTupleIter s.heap.objs.size tp 0 ∧ (∀ b o, s.heap.get? b = some o → h2.get? b = some o) → Q (.ref (s.heap.objs.size + 1)) { s with heap := h2 }) :
    wpAny (model prog w) A (call (.type "enumerate") [.ref tp]) Q E s := by
  obtain ⟨⟨cl, dd, dat, sl⟩, e1, e2, m, e3⟩ := ht
  cases (show cl = .type "tuple" from e2)
  cases (show dat = .seq vs m from e3)
  refine callType_new F.called_enumerate (by decide) (F.typeCall_enumerate_1 _) (F.newCall_enumerate_1 _) (F.args_object_init_2 · _) F.entry_enumerate_new (new_enumT tp vs m dd sl) ⟨e1, ?_⟩
  have sz : (s.heap.push ⟨.type "tuple_iterator", none, .fields #[.ref tp, .int 0 0], #[]⟩).objs.size = s.heap.objs.size + 1 := Heap.size_push ..
  show _ ∧ _
  rw [sz]
  have en : IsEnum ((s.heap.push ⟨.type "tuple_iterator", none, .fields #[.ref tp, .int 0 0], #[]⟩).push ⟨.type "enumerate", none, .fields #[.none, .bool false, .ref s.heap.objs.size, rawInt 0, .none, .none], #[]⟩) (s.heap.objs.size + 1) s.heap.objs.size 0 .none := by
    have g := Heap.get?_push_size (s.heap.push ⟨.type "tuple_iterator", none, .fields #[.ref tp, .int 0 0], #[]⟩) (o := ⟨.type "enumerate", none, .fields #[.none, .bool false, .ref s.heap.objs.size, rawInt 0, .none, .none], #[]⟩) rfl
    rw [sz] at g
    exact g
  exact ⟨⟨_, en, rfl⟩, hQ _ ⟨en, ⟨_, Heap.get?_push_of_some _ (Heap.get?_push_size _ rfl), rfl, rfl⟩, fun b o q => Heap.get?_push_of_some _ (Heap.get?_push_of_some _ q)⟩⟩
end
/-- the tuple at a, each item in a new pair with its number -/
def Jet (K : PySem.W.Frag) (a : Addr) : It where
  go := fun i H => ∃ xs : List V, SqT K H a xs ∧ i < xs.length
  yld := fun i H v H' => ∃ T x, v = .ref T ∧ H T = none ∧ H' = upd H T (.tup [.int (i : Nat), x]) ∧ ∀ xs, SqT K H a xs → xs[i]? = some x
  stop := fun i H => ∃ xs : List V, SqT K H a xs ∧ xs.length ≤ i
theorem turn_enumT {P : Program} {w : World} {K : PySem.W.Frag} {elts : List Expr} {kk : Nat} {tpos : Pos} (a e it : Addr) :
    Turn P w K (.Tuple elts kk tpos) (Jet K a) [e, it] e (fun i h => (∃ old, IsEnum h e it ((i : Nat) : Int) old) ∧ h.IsTupleIter it a i ∧ e ≠ it ∧ a ≠ it ∧ a ≠ e) where
  mem := List.mem_cons_self
  obj := by
    rintro i h ⟨⟨old, he⟩, ⟨o, ho, hc, hd⟩, _⟩ b hb
    rcases List.mem_cons.mp hb with z | z
    · subst z; exact ⟨_, he, fun v q => nomatch q⟩
    · cases List.mem_singleton.mp z; exact ⟨o, ho, fun v q => by rw [hd] at q; cases q⟩
  keep := by
    rintro i h h' ⟨⟨old, he⟩, hi, hn⟩ k
    exact ⟨⟨old, k e List.mem_cons_self _ he⟩, hi.at fun o q => k it (by simp) o q, hn⟩
  item := by
    rintro X rfl rfl rfl hc i pins s σ H E I hf ⟨⟨old, he⟩, hit, hne, ha1, ha2⟩ ⟨xs, hq, hlt⟩
    obtain ⟨its, rv, p, hz⟩ := I.tuple hq
    have hx : xs[i]? = some xs[i] := by simp [hlt]
    obtain ⟨u, hu, ru⟩ := rv.get hx
    have e_lt : e < s.heap.objs.size := Heap.lt_size he
    have it_lt : it < s.heap.objs.size := by obtain ⟨_, q, _⟩ := hit; exact Heap.lt_size q
    have hsz : its.toArray.size = xs.length := by rw [List.size_toArray, rv.length]
    have D := Draws.tuple (prog := X.prog) (w := X.w) (A := X.A.in1) (I.ok.hd hc) it a ha1 its.toArray
    refine wpAny_pyNext_enum_itemD D he ⟨hit, p⟩ (by rw [hsz]; exact hlt) hne (by simp only [List.mem_cons, List.not_mem_nil, or_false, not_or]; exact ⟨hne, fun z => ha2 z.symm⟩) fun x h1 tk hP ho hst hT _ hk => ?_
    have ex : x = u := by
      have q : its.toArray[i]? = some u := by simpa using hu
      rw [q] at hP; exact (Option.some.inj hP).symm
    subst ex
    refine ⟨_, rfl, wpAny_letOwnedTupleGo_enum (s := { s with heap := h1, toks := tk + 1 }) ho fun h2 he2 sb => ?_⟩
    have hT2 : h2.get? s.heap.objs.size = some ⟨.type "tuple", none, .seq #[.int i tk, x] 0, #[]⟩ := (sb.2 _ (Nat.ne_of_gt e_lt)).trans hT
    have new : ObjOk X.prog X.w (upd H s.heap.objs.size (.tup [.int (i : Nat), xs[i]])) h2 s.heap.objs.size (.tup [.int (i : Nat), xs[i]]) :=
      ⟨by show 2 ≤ sizeLine; decide, [.int i tk, x], .cons ⟨_, rfl⟩ (.cons ru .nil), ⟨_, hT2, rfl, _, rfl⟩⟩
    have k2 : ∀ b ob, b ∉ [e, it] → s.heap.get? b = some ob → h2.get? b = some ob := fun b ob hb q => (sb.2 b fun z => hb (by simp [z])).trans (hk b ob (fun z => hb (by simp [z])) (fun z => hb (by simp [z])) q)
    have I1 := I.turnedNew (t' := tk + 1) k2 hf (Nat.le_refl _) new
    refine ⟨.ref s.heap.objs.size, _, I1, rfl, ⟨_, xs[i], rfl, I.hok.fresh (Nat.le_refl _), rfl, fun ys hy => by rw [I.tuple_inj hy hq]; exact hx⟩, ⟨⟨x, ?_⟩, hst.1.at fun o q => (sb.2 it (Ne.symm hne)).trans q, hne, ha1, ha2⟩, fun b hb => ?_⟩
    · rw [show ((i + 1 : Nat) : Int) = (i : Int) + 1 by omega]; exact he2
    · have lt : b < s.heap.objs.size := by
        rcases List.mem_cons.mp hb with z | z
        · rw [z]; exact e_lt
        · rw [List.mem_singleton.mp z]; exact it_lt
      rw [upd_ne (Nat.ne_of_lt lt)]
      exact (hf b hb).1
  done := by
    rintro X rfl rfl rfl hc i pins s σ H E I hf ⟨⟨old, he⟩, hit, hne, ha1, ha2⟩ ⟨xs, hq, hx⟩
    obtain ⟨its, rv, p, hz⟩ := I.tuple hq
    obtain ⟨f0, f1, f2, f3, f4, f5⟩ := hf it (by simp)
    have hsz : its.toArray.size = xs.length := by rw [List.size_toArray, rv.length]
    have D := Draws.tuple (prog := X.prog) (w := X.w) (A := X.A.in1) (I.ok.hd hc) it a ha1 its.toArray
    have T : s.TypeIs (.ref e) "enumerate" := ⟨_, he, rfl⟩
    have hx' : its.toArray[i]? = none := by
      rw [Array.getElem?_eq_none_iff, hsz]; exact hx
    unfold pyNext
    refine wpAny_bind (wpAny_attempt (wpAny_callSpecial?_slot (name := Str.ofString "__next__") T F.slot_enumerate_next (wpAny_call_entry F.slot_enumerate_next T F.entry_enumerate_next ?_ (F.args_enumerate_next_1 _))))
    show wpAny _ _ (field (.ref e) 2 >>= _) _ _ _
    refine wpAny_bind (wpAny_field he rfl (x := .ref it) rfl (wpAny_bind (wpAny_nextOf_tuple_end (I.ok.hd hc) hit p hx' fun h1 x he1 hx1 => ?_)))
    obtain ⟨o, ho, hcl⟩ := hx1
    refine wpAny_bind (wpAny_isInstance (T := "StopIteration") (b := true) ⟨o, ho, hcl⟩ isSubtype_stop (wpAny_pure ⟨rfl, ?_⟩))
    exact I.turned (t' := s.toks) (fun b ob hb q => he1 b ob hb q) f0 f1 f3 f4 f5
  self := fun A i s Q E ⟨⟨_, he⟩, _⟩ h => wpAny_pyIter_enum he h
def iEnumT (K : PySem.W.Frag) (ta : TA) : TI := fun σ H R => ta σ H fun vs H1 => ∃ a xs, vs = [.ref a] ∧ SqT K H1 a xs ∧ R (Jet K a) H1
theorem pi_enumT {X : Cx} {e : Expr} {ta : TA} {p pos tpos : Pos} {elts : List Expr} {kk : Nat} (hg : Gl X "enumerate") (hm : X.mg "enumerate" = none) (ha : PA X [e] ta) (hs : starEach [e] X.env = [(false, eval e X.env)] := by rfl) :
    PI X (.Tuple elts kk tpos) (.Call (.Name "enumerate" p) [e] [] pos) (iEnumT X.K ta) := ⟨fun pins s σ H R I h => by
  refine Call_ (ld_blt I hg hm boot_enumerate (PyProof.Rows.callWith_type1 (thn (ha.run pos pins s σ H _ I h) fun us s1 ⟨vs, H1, I1, r1, a, xs, ex, hq, q⟩ => ?_) hs rfl))
  subst ex
  cases r1 with
  | cons r rr =>
    cases rr
    cases r
    obtain ⟨its, rv, p', hz⟩ := I1.tuple hq
    have a_lt : a < s1.heap.objs.size := p'.lt
    refine call_enumT p' fun h2 ⟨he, hit, hk⟩ => wpAny_pyIter_enum he ?_
    have I2 : Inv X pins σ H1 { s1 with heap := h2 } := I1.kept (t' := s1.toks) hk
    refine ⟨s1.heap.objs.size + 1, [s1.heap.objs.size + 1, s1.heap.objs.size], _, _, H1, rfl, I2, turn_enumT a (s1.heap.objs.size + 1) s1.heap.objs.size, ⟨⟨.none, he⟩, hit, Nat.succ_ne_self _, Nat.ne_of_lt a_lt, Nat.ne_of_lt (Nat.lt_succ_of_lt a_lt)⟩, fun b hb => ?_, q⟩
    have hle : s1.heap.objs.size ≤ b := by
      rcases List.mem_cons.mp hb with z | z
      · rw [z]; exact Nat.le_succ _
      · rw [List.mem_singleton.mp z]; exact Nat.le_refl _
    exact I1.fpOk hle (I1.hok.fresh hle)⟩
theorem walk_enumT {K : PySem.W.Frag} {a : Addr} {xs : List V} : Walk (Jet K a) xs.length (fun H => SqT K H a xs) (YPair (fun i => some (.int (i : Nat))) (fun i => xs[i]?)) :=
  ⟨fun i _ hi q => ⟨xs, q, hi⟩, fun _ q => ⟨xs, q, Nat.le_refl _⟩, fun i H v H' _ q ⟨T, x, h1, h2, h3, h4⟩ => ⟨T, .int (i : Nat), x, h1, h2, h3, rfl, h4 xs q⟩⟩
theorem wk_enumT {X : Cx} {Γ : GEnv} {os : List Own} {e : Expr} {P : PKA} {p pos tpos : Pos} {elts : List Expr} {kk : Nat} (hg : Gl X "enumerate") (hm : X.mg "enumerate" = none) (h : A X Γ os [e] fun Gs os1 => ∃ Fs, Gs = [fT Fs] ∧ P (pairs2 (nums Fs.length) Fs) os1)
    (hs : starEach [e] X.env = [(false, eval e X.env)] := by rfl) : Wk X Γ os (.Tuple elts kk tpos) (.Call (.Name "enumerate" p) [e] [] pos) P := fun σ H R ok g =>
  uI.of (pi_enumT hg hm pa_u hs) (h σ H _ ok fun vs H1 Gs os1 p s1 r1 => by
    obtain ⟨Fs, rfl, p⟩ := p
    obtain ⟨x, rfl, a, ws, rfl, hl, rs⟩ := arg1 r1
    refine ⟨a, ws, rfl, hl.sq, g _ H1 _ os1 p s1 (WalkOf.of walk_enumT (by simp [pairs2, nums, rs.length]) (fun os' H' s => (hl.step s.keep s.new).sq) ?_)⟩
    rintro os' H' s i F x H2 e1 ⟨T, u, v, rfl, hT, rfl, e2, e3⟩
    have hi : i < Fs.length := by rw [rs.length]; exact (List.getElem?_eq_some_iff.mp e3).1
    have hG : Fs[i]? = some Fs[i] := by simp [hi]
    have q : F = fT [fInt (i : Int), Fs[i]] := by
      unfold pairs2 at e1
      rw [List.getElem?_map, List.getElem?_zip_eq_some (z := (fInt (i : Int), Fs[i])) |>.mpr ⟨by unfold nums; rw [List.getElem?_map, List.getElem?_range hi]; rfl, hG⟩] at e1
      exact (Option.some.inj e1).symm
    rw [q]
    cases e2
    exact pair_new s.ow s.nd hT rfl ((rs.go s).at' hG e3))
end G
namespace G
open PySem L2 TL PySem.Spec PyProof.Rows
def cntR : List Str → Nat
  | [] => 0
  | x :: xs => if xs.any (· == x) then cntR xs else cntR xs + 1
/-- how many unlike ones -/
def cnt (xs : List Str) : Nat := cntR xs.reverse
theorem cnt_snoc (xs : List Str) (x : Str) : cnt (xs ++ [x]) = if xs.any (· == x) then cnt xs else cnt xs + 1 := by
  unfold cnt
  have e : (xs ++ [x]).reverse = x :: xs.reverse := by simp
  rw [e]
  show (if xs.reverse.any (· == x) then cntR xs.reverse else cntR xs.reverse + 1) = _
  rw [List.any_reverse]
theorem cntR_le : ∀ xs : List Str, cntR xs ≤ xs.length
  | [] => Nat.le_refl _
  | x :: xs => by
    have := cntR_le xs
    unfold cntR
    split <;> simp <;> omega
theorem cnt_le (xs : List Str) : cnt xs ≤ xs.length := by
  have := cntR_le xs.reverse
  rwa [List.length_reverse] at this
theorem cntR_eq : ∀ xs : List Str, cntR xs = xs.length ↔ xs.Nodup
  | [] => by simp [cntR]
  | x :: xs => by
    have le := cntR_le xs
    have ih := cntR_eq xs
    unfold cntR
    rw [List.nodup_cons]
    by_cases h : x ∈ xs
    · have : xs.any (· == x) = true := by simpa using h
      rw [if_pos this]
      constructor
      · intro e; simp at e; omega
      · intro e; exact absurd h e.1
    · have : ¬ xs.any (· == x) = true := by simpa using h
      rw [if_neg this]
      simp [h, ih]
theorem cnt_eq (xs : List Str) : cnt xs = xs.length ↔ xs.Nodup := by
  unfold cnt
  have := cntR_eq xs.reverse
  rw [List.length_reverse] at this
  exact this.trans (List.reverse_perm xs).nodup_iff
section
variable {prog : Program} {w : World} {A : Around} {R : Result → Shared → Prop} {it : Addr} {fp wr : List Addr} {Gg : Array GenState → Array GenState → Prop} {n : Nat} {P : Nat → Value → Prop} {St : Nat → Shared → Prop}
abbrev SetN (prog : Program) (w : World) (h : Heap) (S : Addr) (xs : List Str) : Prop := h.SetOf (PySem.strKind prog w) S (fun z => xs.any (· == z)) (cnt xs)
theorem SetN.at' {h h' : Heap} {S : Addr} {xs : List Str} (x : SetN prog w h S xs) (k : ∀ o, h.get? S = some o → h'.get? S = some o) : SetN prog w h' S xs :=
  let ⟨o, es, ep, tb, ho, rest⟩ := x
  ⟨o, es, ep, tb, k o ho, rest⟩
theorem set_loop (W : WalksS prog w A.in1 it fp wr Gg n P St) (S : Addr) (hS : S ∉ fp) (xs : List Str) (hl : xs.length = n) (hb : n < 4000) (hv : ∀ i v, P i v → ∃ t, v = .str (xs.getD i Str.empty) t) :
    ∀ (k i : Nat) (s : Shared), i + k = n → St i s → SetN prog w s.heap S (xs.take i) →
      (∀ s2, Moved (S :: wr) Gg s s2 → SetN prog w s2.heap S xs → R (.ok (.ret .none)) s2) →
      codeAny (model prog w) A (.builtin "set.update.loop" ⟨[.ref S, .ref it], []⟩) R s := by
  have out : S ∉ wr := fun h => hS (W.sub _ h)
  have sub : ∀ b ∈ wr, b ∈ S :: wr := fun b => List.mem_cons_of_mem _
  intro k
  induction k with
  | zero =>
    rintro i s rfl st hSet hR
    have full : xs.take (i + 0) = xs := List.take_of_length_le (by omega)
    refine codeAny_builtin PyProof.Rows.F.entry_set_update_loop ?_
    rw [Around.under_plainId PyProof.Rows.F.plain_set_update_loop _]
    show wpAny _ A.in1 (pyNext (.ref it) >>= _) _ _ s
    refine wpAny_bind (W.done s _ _ st fun s2 mv => ?_)
    show wpAny _ A.in1 (ret Value.none) _ _ s2
    refine wpAny_pure (hR s2 (mv.mono sub) ?_)
    have := hSet.at' fun o ho => mv.heap S o out ho
    rw [show i = i + 0 from rfl, full] at this
    exact this
  | succ k ih =>
    rintro i s e st hSet hR
    have lt : i < n := by omega
    refine codeAny_builtin PyProof.Rows.F.entry_set_update_loop ?_
    rw [Around.under_plainId PyProof.Rows.F.plain_set_update_loop _]
    show wpAny _ A.in1 (pyNext (.ref it) >>= _) _ _ s
    refine wpAny_bind (W.item i s _ _ lt st fun v s2 hP st2 mv => ?_)
    obtain ⟨t, rfl⟩ := hv i v hP
    have set2 := hSet.at' fun o ho => mv.heap S o out ho
    show wpAny _ A.in1 (holding [Value.str (xs.getD i Str.empty) t] (setAdd S (.str (xs.getD i Str.empty) t)) >>= _) _ _ s2
    refine wpAny_bind (wpAny_holding ?_)
    unfold setAdd
    refine wpAny_holding (wpAny_bind ((PySem.strKind prog w).pyHash (k := xs.getD i Str.empty) (strKind_is _ _ _ _) ?_))
    have room : cnt (xs.take i) + 1 < scanBound := by
      have := cnt_le (xs.take i)
      rw [List.length_take] at this
      unfold scanBound; omega
    refine wpAny_setAddHashed_of (knd := PySem.strKind prog w) (s := { s2 with toks := s2.toks + 1 }) (strKind_is _ _ _ _) rfl set2 room fun h3 sb set3 => ?_
    have hx : xs[i]? = some (xs.getD i Str.empty) := by
      rw [List.getD_eq_getElem?_getD, List.getElem?_eq_getElem (by omega)]; rfl
    have more : xs.take (i + 1) = xs.take i ++ [xs.getD i Str.empty] := take_more hx
    have set4 : SetN prog w h3 S (xs.take (i + 1)) := by
      rw [more]
      refine SetOf_congr set3 (fun z => ?_) ?_
      · show ((xs.take i).any (· == z) || decide (z = _)) = (xs.take i ++ [_]).any (· == z)
        rw [List.any_append]
        by_cases q : z = xs.getD i Str.empty
        · rw [q]; simp
        · have q' : (xs.getD i Str.empty == z) = false := by
            simpa [beq_iff_eq] using fun y : xs.getD i Str.empty = z => q y.symm
          rw [decide_eq_false q]
          simp only [List.any_cons, List.any_nil, q', Bool.or_false]
      · rw [cnt_snoc]
    refine wpAny_pure ⟨plainId_quiet PyProof.Rows.F.plain_set_update_loop _, ih (i + 1) _ (by omega) (W.frame _ s2 _ _ st2 (Nat.le_succ _) fun b hb' o q => ?_) set4 fun s4 mv4 hS4 => hR s4 ?_ hS4⟩
    · rw [sb.2 b (fun z : b = S => hS (by rw [← z]; exact hb'))]; exact q
    · exact Moved.trans W.gtrans ((mv.mono sub).then_heap (Nat.le_succ _) fun b o hb' q => by
        rw [sb.2 b (fun z : b = S => hb' (by rw [z]; exact List.mem_cons_self))]; exact q) mv4
end
end G
namespace G
open PySem L2 TL PySem.Spec PyProof.Rows
section
variable {prog : Program} {w : World} {A : Around} {E : Value → Shared → Prop} {s : Shared}
abbrev setO0 (led : Bool) : Obj := { cls := .type "set", dict := none, data := .set #[] 0 (.fresh 0 0 led) }
theorem call_set_strs {l : Addr} {its : Array Value} {xs : List Str} {Q : Value → Shared → Prop} (calm : A.handled = none) (hl : s.heap.IsList l its) (hi : PyProof.Rows.StrsAre its.toList xs) (few : xs.length < 4000)
    (hQ : ∀ (h2 : Heap) (tk : Nat), SetN prog w h2 s.heap.objs.size xs ∧ (∀ b o, b < s.heap.objs.size → s.heap.get? b = some o → h2.get? b = some o) → Q (.ref s.heap.objs.size) { s with heap := h2, toks := tk }) :
    wpAny (model prog w) A (call (.type "set") [.ref l]) Q E s := by
  obtain ⟨cl0, tl0, mro0⟩ := PySem.F.called_set.mro
  have made0 := PySem.F.called_set.made
  have sub0 := PySem.F.called_set.sub
  refine wpAny_call (codeAny_of_tree ?_)
  show wpAny _ _ (callAny (.type "set") _) _ _ _
  refine wpAny_pure ⟨Code.quiet_builtin _ (by decide +kernel), codeAny_builtin PySem.F.entry_type_call ?_⟩
  rw [Around.under_plain (weight_type_call_type "set" [.ref l] []) rfl]
  have nt := PySem.F.called_set.notType
  have cc := PySem.F.called_set.canCreate
  have ct := PySem.F.typeCall_set_1 (.ref l)
  repeat (any_goals (first | assumption | wp_step))
  refine codeAny_mono (code_set_new_1 (.ref l) (E := E) (Q₁ := fun ob s₁ => ∃ led : Bool, ob = .ref s.heap.objs.size ∧ s₁ = { s with heap := s.heap.push (setO0 led) }) fun led => ⟨led, rfl, rfl⟩) fun r s₁ hr => ?_
  match r, hr with
  | .error e, hr => exact hr
  | .ok (.ret ob), hr =>
    obtain ⟨led, rfl, rfl⟩ := hr
    have at0 : (s.heap.push (setO0 led)).get? s.heap.objs.size = some (setO0 led) := Heap.get?_push_size _ rfl
    have isSet : Shared.TypeIs { s with heap := s.heap.push (setO0 led) } (.ref s.heap.objs.size) "set" := ⟨_, at0, rfl⟩
    have li := PySem.F.called_set.init.lookup
    have bi := PySem.F.called_set.init.bind (.ref s.heap.objs.size)
    repeat (any_goals (first | assumption | wp_step))
    refine codeAny_mono (codeAny_call_builtin (R := wants (fun r s₂ => r = .none ∧ ∃ h2 tk, s₂ = { s with heap := h2, toks := tk } ∧ SetN prog w h2 s.heap.objs.size xs ∧
        (∀ b o, b < s.heap.objs.size → s.heap.get? b = some o → h2.get? b = some o)) E) PySem.F.called_set.init.plain PySem.F.entry_set_init (check_set_init_1 isSet ?_)) fun r₂ s₂ hr₂ => ?_
    · obtain ⟨⟨oc, od, odat, osl⟩, hol, hcl, nl, hdl⟩ := hl
      cases (show oc = .type "list" from hcl)
      cases (show odat = .seq its nl from hdl)
      have hol2 : (s.heap.push (setO0 led)).get? l = some { cls := .type "list", dict := od, data := .seq its nl, slots := osl } := Heap.get?_push_of_some _ hol
      have sls := PySem.F.sub_list_set
      have slf := PySem.F.sub_list_frozenset
      have nd : (Value.type "list" == Value.type "dict") = false := by decide
      have isL : (s.heap.push (setO0 led)).IsList l its := ⟨_, hol2, rfl, nl, rfl⟩
      unfold Builtin.«set.__init__» noKeywords Builtin.Frozenset.updateFrom
      generalize hPI : pyIter = PI
      wp_walk
      subst hPI
      refine wpAny_pyIter_list isL (wpAny_bind (wpAny_runValue ?_))
      have l_lt : l < s.heap.objs.size := Heap.lt_size hol
      have calm3 : A.in1.in1.in1.handled = none := by simp [calm]
      have neI : l ≠ (s.heap.push (setO0 led)).objs.size := by
        rw [Heap.size_push]; exact Nat.ne_of_lt (Nat.lt_succ_of_lt l_lt)
      have away : s.heap.objs.size ∉ [(s.heap.push (setO0 led)).objs.size, l] := by
        rw [Heap.size_push]
        simp only [List.mem_cons, List.not_mem_nil, or_false, not_or]
        exact ⟨Nat.ne_of_lt (Nat.lt_succ_self _), Nat.ne_of_gt l_lt⟩
      have hsz : xs.length = its.size := by rw [← StrsAre.len_eq hi, Array.length_toList]
      have vals : ∀ (i : Nat) (v : Value), its[i]? = some v → ∃ t, v = .str (xs.getD i Str.empty) t := fun i v hv => SS.strs_at hi i v (by rw [Array.getElem?_toList]; exact hv)
      refine set_loop ((Walks.list calm3 _ l neI its).toS) s.heap.objs.size away xs hsz (by omega) vals its.size 0 _ (by omega) ⟨⟨_, Heap.get?_push_size _ rfl, rfl, rfl⟩, (isL.push _)⟩ ?_ ?_
      · have g : ((s.heap.push (setO0 led)).push { cls := .type "list_iterator", data := .fields #[.ref l, .int 0 0] }).get? s.heap.objs.size = some (setO0 led) := Heap.get?_push_of_some _ at0
        exact PyProof.Rows.SetOf_congr ((PyProof.Rows.setObjOf_fresh (knd := PySem.strKind prog w) led).setOf g (by unfold scanBound; omega)) (fun _ => rfl) rfl
      · rintro ⟨h2, g2, d2, tk2, os2⟩ mv hS2
        obtain rfl : g2 = s.gens := mv.gens
        obtain rfl : d2 = s.drawn := mv.drawn
        obtain rfl : os2 = s.os := mv.os
        show wpAny _ _ _ _ _ _
        refine wpAny_pure ?_
        show wpAny _ _ (ret Value.none) _ _ _
        refine wpAny_pure ⟨rfl, h2, tk2, rfl, hS2, fun b o hb e => ?_⟩
        have b1 : b ≠ s.heap.objs.size := Nat.ne_of_lt hb
        have b2 : b ≠ (s.heap.push (setO0 led)).objs.size := by rw [Heap.size_push]; exact Nat.ne_of_lt (Nat.lt_succ_of_lt hb)
        refine mv.heap b o ?_ (Heap.get?_push_of_some _ (Heap.get?_push_of_some _ e))
        simp only [List.mem_cons, List.not_mem_nil, or_false, not_or]
        exact ⟨b1, b2⟩
    · match r₂, hr₂ with
      | .error e, hr₂ => exact hr₂
      | .ok (.ret r), hr₂ =>
        obtain ⟨rfl, h2, tk, rfl, hS2, hk⟩ := hr₂
        repeat (any_goals (first | assumption | wp_step))
        exact hQ _ _ ⟨hS2, hk⟩
      | .ok .next, hr₂ => exact hr₂.elim
      | .ok .brk, hr₂ => exact hr₂.elim
      | .ok .cont, hr₂ => exact hr₂.elim
  | .ok .next, hr => exact hr.elim
  | .ok .brk, hr => exact hr.elim
  | .ok .cont, hr => exact hr.elim
end
/-- len(set(xs)), a list of texts -/
theorem pe_lenSetN {X : Cx} {a : Expr} {ta : TE} {p p2 q pos : Pos} (hc : X.calm = true) (hg : Gl X "len") (hm : X.mg "len" = none) (hg2 : Gl X "set") (hm2 : X.mg "set" = none) (ha : PE X a ta)
    (na : starEach [a] X.env = (false, eval a X.env) :: starEach [] X.env := by rfl) :
    PE X (.Call (.Name "len" p) [.Call (.Name "set" p2) [a] [] q] [] pos) (fun σ H Q => ta σ H fun x H1 => ∃ l, ∃ xs : List Str, x = .ref l ∧ SqL X.K H1 l (xs.map V.str) ∧ xs.length < 4000 ∧ Q (.int (cnt xs : Nat)) H1) := ⟨fun pins s σ H Q I h => by
  refine Call_ (ld_blt I hg hm boot_len (PyProof.Rows.callWith_builtin1 (PyProof.Rows.args_cons ?_ rfl) rfl rfl))
  refine Call_ (ld_blt I hg2 hm2 boot_set (PyProof.Rows.callWith_type1 (PyProof.Rows.args_cons (thn (ha.run pins s σ H _ I h) fun v s1 ⟨x, H1, I1, r1, l, xs, ex, hq, few, q1⟩ => PyProof.Rows.args_nil ?_) na) na rfl))
  subst ex
  cases r1
  obtain ⟨its, r, pl, hz⟩ := I1.list hq
  refine call_set_strs (I1.ok.hd hc) pl.isList (by simpa using strsAre_of r) few fun h2 tk ⟨hS, hk⟩ => PyProof.Rows.args_nil ?_
  obtain ⟨o, es, ep, t, ho, hex, hd, _, _, _, hf, hn⟩ := hS
  have I2 : Inv X pins σ H1 { s1 with heap := h2, toks := tk } := I1.kept fun b o e => hk b o (Heap.lt_size e) e
  have le := cnt_le xs
  exact call_len_set ho hex hd hf (by rw [hn]; omega) ⟨.int (cnt xs : Nat), H1, I2.tok _, ⟨_, by rw [hn]⟩, q1⟩⟩
theorem e_lenSet {X : Cx} {Γ : GEnv} {os : List Own} {a : Expr} {Post : PK1} {p p2 q pos : Pos} (hc : X.calm = true) (hg : Gl X "len") (hm : X.mg "len" = none) (hg2 : Gl X "set") (hm2 : X.mg "set" = none)
    (h : E X Γ os a fun F os1 => ∃ xs : List Str, F = fL (xs.map fStr) ∧ xs.length < 4000 ∧ Post (fInt (cnt xs : Nat)) os1)
    (na : starEach [a] X.env = (false, eval a X.env) :: starEach [] X.env := by rfl) : E X Γ os (.Call (.Name "len" p) [.Call (.Name "set" p2) [a] [] q] [] pos) Post := fun σ H Q ok g =>
  uE.of (pe_lenSetN hc hg hm hg2 hm2 pe_u na) (h σ H _ ok fun v H1 F os1 p s1 r1 => by
    obtain ⟨xs, rfl, few, p⟩ := p
    obtain ⟨l, vs, rfl, hl, rv⟩ := r1
    rw [reps_str rv] at hl
    exact ⟨l, xs, rfl, hl.sq, few, g _ H1 _ os1 p s1 rfl⟩)
end G
namespace G
open PySem L2 TL
section
variable {X : Cx} {Γ : GEnv} {os : List Own} {e a b c : Expr} {es : List Expr} {Post : PK1} {P : PKB} {p pos kpos : Pos} {x : Str} {K : PySem.W.Frag}
theorem e_bltn {n : String} (hg : Gl X x) (hm : X.mg x = none) (hv : bootBuiltins x = some (.type n)) (hp : Post (fV (.ty n)) os) (hn : x ≠ "__name__" := by decide) (hd : (x == ("__debug__" : Str)) = false := by decide) : E X Γ os (.Name x pos) Post := e_c (pe_bltn (v := .ty n) hg hm hv rfl hn hd) hp
theorem e_globS {s : Str} (hg : Gl X x) (hm : ∃ t, X.mg x = some (.str s t)) (hp : Post (fStr s) os) (hd : (x == ("__debug__" : Str)) = false := by decide) : E X Γ os (.Name x pos) Post := by
  obtain ⟨t, hm⟩ := hm
  exact e_c (pe_glob (v := .str s) hg hm ⟨t, rfl⟩ hd) hp
theorem e_globI {i : Int} (hg : Gl X x) (hm : ∃ t, X.mg x = some (.int i t)) (hp : Post (fInt i) os) (hd : (x == ("__debug__" : Str)) = false := by decide) : E X Γ os (.Name x pos) Post := by
  obtain ⟨t, hm⟩ := hm
  exact e_c (pe_glob (v := .int i) hg hm ⟨t, rfl⟩ hd) hp
def TyV (K : PySem.W.Frag) (os : List Own) (F : Fact) (t : Value) : Prop := ∀ H v, (∀ o ∈ os, o.ok K (ms os) H) → F.r K (ms os) H v → TyX K H v t
theorem tyf_S {z : Str} : TyV K os (fStr z) (.type "str") := fun H v _ e => by cases (show v = .str z from e); exact .base (.str z)
theorem tyf_I {i : Int} : TyV K os (fInt i) (.type "int") := fun H v _ e => by cases (show v = .int i from e); exact .base (.int i)
theorem tyf_B {i : Bool} : TyV K os (fBl i) (.type "bool") := fun H v _ e => by cases (show v = .bl i from e); exact .base (.bl i)
theorem tyf_T {Fs : List Fact} : TyV K os (fT Fs) (.type "tuple") := fun H v _ e => by
  obtain ⟨a, vs, rfl, h, _⟩ := e
  rcases h with ⟨_, h | ⟨o, h⟩⟩ | ⟨o, its, n, h1, h2, _⟩
  · exact .base (.tup h)
  · exact .fTuple h
  · exact .kTuple h1 h2
theorem tyf_L {Fs : List Fact} : TyV K os (fL Fs) (.type "list") := fun H v _ e => by
  obtain ⟨a, vs, rfl, h, _⟩ := e
  exact .base (.lst h.2)
theorem o_isi {F : Fact} {n m : String} {r : Bool} (ty : TyV K os F (.type n)) (hk : kitB n m = some r) (h : Post (fBl r) os) : OpA K os (rIsi K) [F, fV (.ty m)] Post := fun xs H Q ow nd rs gv => by
  obtain ⟨y, z, rfl, ry, rz⟩ := arg2 rs
  cases (show z = .ty m from rz)
  exact ⟨y, .ty m, _, _, r, rfl, .ty m, ty H y ow ry, kit_ty hk, gv.now h ow nd rfl⟩
theorem t_chain {op op' : CmpOp} {r r' : R2} (ho : OpR X (compareOp op) r) (ho' : OpR X (compareOp op') r')
    (h : E X Γ os a fun F os1 => E X Γ os1 b fun G os2 => Op2 X.K os2 r F G fun B os3 => ∃ k, B = fBl k ∧ (k = true → E X Γ os3 c fun C os4 => Op2 X.K os4 r' G C fun B' os5 => ∃ k', B' = fBl k' ∧ P k' os5) ∧ (k = false → P false os3))
    (hm : lastMarks [op, op'] [b, c] = false := by with_unfolding_all rfl) : T X Γ os (.Compare a [op, op'] [b, c] pos) P := fun σ H Q ok g =>
  uT.of (pt_chain ho ho' pe_u pe_u pe_u hm) (h σ H _ ok fun v H1 F os1 p1 s1 r1 => p1 σ H1 _ (ok.step s1) fun w H2 G os2 p2 s2 r2 => p2 v w H2 _ s2.ow s2.nd (F.go r1 s2) r2 fun z H3 B os3 p3 s3 r3 => by
    obtain ⟨k, rfl, p3⟩ := p3
    refine ⟨k, r3, ?_⟩
    cases k with
    | false => rw [if_neg (by decide)]; exact ⟨false, rfl, g false H3 os3 (p3.2 rfl) ((s1.trans s2).trans s3)⟩
    | true =>
      rw [if_pos rfl]
      refine p3.1 rfl σ H3 _ (((ok.step s1).step s2).step s3) fun u H4 C os4 p4 s4 r4 => ?_
      refine p4 w u H4 _ s4.ow s4.nd (G.go (G.go r2 s3) s4) r4 fun y H5 B' os5 p5 s5 r5 => ?_
      obtain ⟨k', rfl, p5⟩ := p5
      exact ⟨k', r5, g k' H5 os5 p5 ((((s1.trans s2).trans s3).trans s4).trans s5)⟩)
structure FnAt (P : Program) (w : World) (K : PySem.W.Frag) (mg : Str → Option Value) (base : Heap) (k : Nat) (f : Addr) (fs : FS) : Prop where
  ex : ∃ CX fd ps, FnOk P w K mg base CX k f fd ps (spOf K fs) ∧ PySem.W.keepIn K (.ref f) = true ∧ Binds K fd ps [] ∧ (CX = CX0 ∨ CX = L2.CX P w)
theorem e_fn {k : Nat} {ps : List Str} {fs : FS} (D : Df X.prog X.w X.K X.mg X.base k x ps fs) (hg : Gl X x) (h : ∀ f, FnAt X.prog X.w X.K X.mg X.base k f fs → Post (fRef f) os) (hd : (x == ("__debug__" : Str)) = false := by decide) : E X Γ os (.Name x pos) Post := by
  obtain ⟨CX, f, fd, F, hm, hk, hb, hc⟩ := D.ex
  exact e_c (pe_glob (v := .ref f) hg hm rfl hd) (h f ⟨CX, fd, ps, F, hk, hb, hc⟩)
theorem e_callF (i : Nat) {f : Addr} {k : Nat} {fs : FS} (D : FnAt X.prog X.w X.K X.mg X.base k f fs) (hr : Room k X.A) (hN : X.N[i]? = some x) (hv : Vis X.env.scope x) (hf : Γ[i]? = some (some (fRef f))) (h : A X Γ os (e :: es) fun Fs os1 => fs Fs os1 Post)
    (hdb : (x == ("__debug__" : Str)) = false := by decide) (hcd : (x == ("__classdict__" : Str)) = false := by decide)
    (he : starEach (e :: es) X.env = (false, eval e X.env) :: starEach es X.env := by rfl) (hpl : (backTo pos (starEach es X.env)).any (·.1) = false := by rfl) : E X Γ os (.Call (.Name x p) (e :: es) [] pos) Post := fun σ H Q ok g => by
  obtain ⟨CX, fd, ps, F, hk, hb, hc⟩ := D.ex
  obtain ⟨v, ev, rv⟩ := ok.sl i _ hf
  cases (show v = .ref f from rv)
  refine uE.of (pe_callL (i := i) F hr hN hv hk hb .nil (passAny hc) pa_u hdb hcd he hpl) ⟨ev, h σ H _ ok fun vs H1 Fs os1 p1 s1 r1 => ?_⟩
  refine ⟨Fs, os1, Post, p1, ?_, s1.ow, s1.nd, g.step s1⟩
  rw [List.append_nil]; exact r1
theorem e_callI {fe : Expr} {C f : Addr} {fd : FuncData} {ps : List Str} {k : Nat} {fs : FS} (c : StX.CallO X.K C f) (D : Fd X.prog X.w X.K X.mg X.base k f fd ps fs) (hr : Room k X.A) (hb : Binds X.K fd ps [])
    (h : E X Γ os fe fun F os1 => (∃ ns, InsF X.K os1 C ns F) ∧ A X Γ os1 (e :: es) fun Fs os2 => (∃ ns, InsF X.K os2 C ns F) ∧ fs (F :: Fs) os2 Post)
    (ht : eval (.Call fe (e :: es) [] pos) X.env = (do callWith pos (← eval fe X.env) [] (backTo pos (starEach (e :: es) X.env)) (backToKw pos (keywordEach [] X.env))) := by rfl)
    (he : starEach (e :: es) X.env = (false, eval e X.env) :: starEach es X.env := by rfl) (hpl : (backTo pos (starEach es X.env)).any (·.1) = false := by rfl) : E X Γ os (.Call fe (e :: es) [] pos) Post := fun σ H Q ok g => by
  obtain ⟨CX, F0, hc⟩ := D.ex
  refine uE.of (StX.pe_callO pe_u c (F0.raw hb .nil) hr (passAny hc) pa_u ht he hpl) (h σ H _ ok fun v H1 F os1 p s1 r1 => ?_)
  obtain ⟨⟨ns0, hi0⟩, p⟩ := p
  obtain ⟨a, _, _, rfl, _⟩ := hi0 H1 v s1.ow r1
  refine ⟨a, rfl, p σ H1 _ (ok.step s1) fun ws H2 Fs os2 p2 s2 r2 => ?_⟩
  obtain ⟨⟨ns, hi⟩, p2⟩ := p2
  obtain ⟨a2, dx, vs, e2, ha⟩ := hi H2 (.ref a) s2.ow (Fact.go r1 s2)
  cases e2
  exact ⟨.inr ⟨dx, _, ha⟩, F :: Fs, os2, Post, p2, .cons (Fact.go r1 s2) (by show Reps _ _ _ _ (ws ++ []); rw [List.append_nil]; exact r2), s2.ow, s2.nd, g.step (s1.trans s2)⟩
theorem e_makeK {C f : Addr} {fd : FuncData} {ps : List Str} {k : Nat} {fs : FS} {kw : Str} {v : Expr} {g' : List Value → List Value → List Value} {gV : List V → List V → List V} (M : Mk X.K C f) (D : Fd X.prog X.w X.K X.mg X.base k f fd ps fs) (hr : Room (k + 1) X.A) (hg : Gl X x) (hm : X.mg x = some (.ref C))
    (hb : KBn X.K fd ps 2 [kw] g' gV) (hgV : ∀ a b c, gV [a, b] [c] = [a, b, c])
    (h : E X Γ os e fun F os1 => E X Γ os1 v fun G os2 => ∀ o dx, fs [fRef o, F, G] (.ins C dx o [] [] :: os2) fun R os3 => R = fNon ∧ ∃ dx ns Fs os4, os3 = .ins C dx o ns Fs :: os4 ∧ Post (fI C ns Fs) os4)
    (hall : (backToKw pos (keywordEach [⟨some kw, v, kpos⟩] X.env)).all (·.1.isSome) = true := by rfl) (hks : (backToKw pos (keywordEach [⟨some kw, v, kpos⟩] X.env)).filterMap (·.1) = [kw] := by rfl) (hdb : (x == ("__debug__" : Str)) = false := by decide)
    (he : starEach [e] X.env = (false, eval e X.env) :: starEach [] X.env := by rfl) (hpl : ((backTo pos (starEach [e] X.env)).any (·.1) || (backToKw pos (keywordEach [⟨some kw, v, kpos⟩] X.env)).any (·.1.isNone)) = false := by rfl) :
    E X Γ os (.Call (.Name x p) [e] [⟨some kw, v, kpos⟩] pos) Post := fun σ H Q ok g => by
  obtain ⟨CX, F0, hc⟩ := D.ex
  refine uE.of (pe_makeK (n := 1) M F0 hr hg hm hb (passAny hc) (pa_cons pe_u pa_nil he) (pk_cons pe_u pk_nil) hall hks hdb he hpl) (h σ H _ ok fun u H1 F os1 p s1 r1 => p σ H1 _ (ok.step s1) fun z H2 G os2 p2 s2 r2 => ?_)
  refine ⟨rfl, rfl, fun o dx ho hdx hne => ?_⟩
  rw [hgV]
  have ow := s2.ow
  have nd := s2.nd
  have sA := Step.laid (o := .own o) ow nd hdx
  have ho2 : upd H2 dx (.own o) o = none := by rw [upd_ne (fun z => hne z.symm)]; exact ho
  have sB := Step.laid (o := .ins C dx []) sA.ow sA.nd ho2
  have nw := owned_ne sA.ow ho2
  have sC : Step X.K os2 (.ins C dx o [] [] :: os2) (upd H2 dx (.own o)) (upd (upd H2 dx (.own o)) o (.ins C dx [])) := by
    refine ⟨sB.keep, fun a ha => ?_, fun u hu => ?_, List.nodup_cons.mpr ⟨nw, nd⟩⟩
    · rcases List.mem_cons.mp ha with z | z
      · rw [z]; exact .inr ho2
      · exact .inl z
    · rcases List.mem_cons.mp hu with z | z
      · rw [z]; exact ⟨[], upd_same, .nil⟩
      · refine Own.ok_step (sA.ow u z) (by obtain ⟨q, e⟩ := Own.ok_tr (sA.ow u z); rw [upd_ne (ne_of_none e ho2)]) sB.keep fun a ha => ?_
        rcases List.mem_cons.mp ha with z | z
        · rw [z]; exact .inr ho2
        · exact .inl z
  have sall := (s1.trans s2).trans (sA.trans sC)
  refine ⟨[fRef o, F, G], _, _, p2 o dx, .cons rfl (.cons (Fact.go (Fact.go r1 s2) (sA.trans sC)) (.cons (Fact.go r2 (sA.trans sC)) .nil)), sC.ow, sC.nd, ?_⟩
  rintro v3 H3 R os3 ⟨rfl, dx', ns, Fs, os4, rfl, p4⟩ s3 r3
  refine ⟨r3, ?_⟩
  obtain ⟨s4, r4⟩ := frzI_ok s3.ow s3.nd
  exact g _ H3 _ os4 p4 ((sall.trans s3).trans s4) r4
end
theorem kb_all {K : PySem.W.Frag} {x qual kw : Str} {st : Stmt} {f : Addr} {fd : FuncData} {ps : List Str} (F : Fun K x qual st f fd)
    (h : ∀ (kV doc pm : Value) (an : Option Addr) (cdv ct a b c : Value), bindArgs (PySem.W.fnOf x qual (defArgs st) (defBody st) (defScope st) .none kV doc pm an cdv ct) ⟨[a, b], [(kw, c)]⟩ = pure (ps.zip [a, b, c])) :
    KBn K fd ps 2 [kw] (fun us ws => us ++ ws) (fun vs zs => vs ++ zs) := by
  obtain ⟨oc, od, kV, doc, pm, an, cdv, ct, osl, rfl, lk, hcd⟩ := F.ex
  refine ⟨fun s us ws X l1 l2 => ?_, fun r1 r2 => r1.append r2⟩
  match us, ws, l1, l2 with
  | [a, b], [c], _, _ => exact .of_eq (h kV doc pm an cdv ct a b c)
/-- methods: a def at f -/
theorem fd_ok {P : Program} {w : World} {K : PySem.W.Frag} {mg : Str → Option Value} {base : Heap} {x qual : Str} {st : Stmt} {f : Addr} {fd : FuncData} {N ps : List Str} {k : Nat} {fs : FS} (F : Fun K x qual st f fd) (Sc : FnScope N ps (defScope st)) (len : ∀ Fs os Post, fs Fs os Post → Fs.length = ps.length)
    (h : bodyOk P w K mg base qual st N k fs) : Fd P w K mg base (k + 1) f fd ps fs := ⟨⟨CX0, def_ok F Sc len fun cdv => h cdv f, .inl rfl⟩⟩
theorem Fd.mono {P : Program} {w : World} {K : PySem.W.Frag} {mg : Str → Option Value} {base : Heap} {f : Addr} {fd : FuncData} {ps : List Str} {k k' : Nat} {fs : FS} (D : Fd P w K mg base k f fd ps fs) (h : k ≤ k') : Fd P w K mg base k' f fd ps fs := by
  obtain ⟨CX, F, c⟩ := D.ex
  exact ⟨CX, F.mono h, c⟩
/-- a text of small letters -/
def Low (z : List Nat) : Prop := ∀ c ∈ z, 97 ≤ c ∧ c ≤ 122
theorem low_lower {z : List Nat} (h : Low z) : Txt.lower (ss z) = ss z := PySem.W.KXs.lower_still fun c hc => by
  rw [ss_cps] at hc
  have := h c hc
  omega
end G
namespace G
open PySem L2 TL
abbrev Pr := List Nat × List Nat
/-- the pair that is taken at the head of rest -/
def IsAt (b : Bool) (ps : List Pr) (rest : List Nat) : Option Nat → Prop
  | none => ∀ p ∈ ps, ¬ p.1 <+: rest
  | some i => ∃ p, ps[i]? = some p ∧ p.1 <+: rest ∧ ∀ j q, ps[j]? = some q → q.1 <+: rest → if b = true then q.1.length ≤ p.1.length ∧ (j < i → q.1.length < p.1.length) else i ≤ j
theorem IsAt.uniq {b : Bool} {ps : List Pr} {rest : List Nat} {r r' : Option Nat} (h : IsAt b ps rest r) (h' : IsAt b ps rest r') : r = r' := by
  cases r with
  | none =>
    cases r' with
    | none => rfl
    | some i =>
      obtain ⟨p, e, m, _⟩ := h'
      exact absurd m (h p (List.mem_of_getElem? e))
  | some i =>
    obtain ⟨p, e, m, a⟩ := h
    cases r' with
    | none => exact absurd m (h' p (List.mem_of_getElem? e))
    | some j =>
      obtain ⟨q, e', m', a'⟩ := h'
      have h1 := a j q e' m'
      have h2 := a' i p e m
      cases b with
      | true =>
        rw [if_pos rfl] at h1 h2
        congr 1
        rcases Nat.lt_trichotomy i j with z | z | z
        · have := h2.2 z; omega
        · exact z
        · have := h1.2 z; omega
      | false =>
        rw [if_neg (by decide)] at h1 h2
        congr 1; omega
abbrev Piece := Option Nat × List Nat × List Nat
/-- how a text is taken to pieces -/
inductive Flows (b : Bool) (ps : List Pr) : List Nat → List Piece → Prop
  | nil : Flows b ps [] []
  | one {c : Nat} {t : List Nat} {qs : List Piece} : IsAt b ps (c :: t) none → Flows b ps t qs → Flows b ps (c :: t) ((none, [c], [c]) :: qs)
  | put {z : List Nat} {i : Nat} {p : Pr} {qs : List Piece} : z ≠ [] → IsAt b ps z (some i) → ps[i]? = some p → Flows b ps (z.drop p.1.length) qs → Flows b ps z ((some i, z.take p.1.length, p.2) :: qs)
theorem Flows.uniq {b : Bool} {ps : List Pr} {z : List Nat} {qs : List Piece} (h : Flows b ps z qs) : ∀ {qs' : List Piece}, Flows b ps z qs' → qs = qs' := by
  induction h with
  | nil =>
    intro qs' h'
    cases h' with
    | nil => rfl
    | put hz => exact absurd rfl hz
  | one ha _ ih =>
    intro qs' h'
    cases h' with
    | one _ h2 => rw [ih h2]
    | put _ hb => cases ha.uniq hb
  | put hz ha hp _ ih =>
    intro qs' h'
    cases h' with
    | nil => exact absurd rfl hz
    | one hb => cases ha.uniq hb
    | put _ hb hp' h2 =>
      cases ha.uniq hb
      rw [hp] at hp'
      cases hp'
      rw [ih h2]
/-- what is written -/
def outQ (qs : List Piece) : List Nat := (qs.map (·.2.2)).flatten
/-- good pairs -/
structure GoodP (ps : List Pr) : Prop where
  n1 : 1 ≤ ps.length
  n3 : ps.length ≤ 3
  ok : ∀ p ∈ ps, 1 ≤ p.1.length ∧ p.1.length ≤ 3 ∧ Low p.1 ∧ p.2.length ≤ 3 ∧ Low p.2
  nd : (ps.map (·.1)).Nodup
theorem GoodP.at_ {ps : List Pr} (h : GoodP ps) {i : Nat} {p : Pr} (e : ps[i]? = some p) : 1 ≤ p.1.length ∧ p.1.length ≤ 3 ∧ Low p.1 ∧ p.2.length ≤ 3 ∧ Low p.2 := h.ok p (List.mem_of_getElem? e)
theorem IsAt.le {b : Bool} {ps : List Pr} {rest : List Nat} {i : Nat} {p : Pr} (h : IsAt b ps rest (some i)) (e : ps[i]? = some p) : p.1.length ≤ rest.length := by
  obtain ⟨q, e', m, _⟩ := h
  rw [e] at e'
  cases e'
  exact m.length_le
theorem starts_ss (a b : List Nat) : Txt.startswith (ss a) (ss b) = decide (b <+: a) := by
  unfold Txt.startswith
  rw [PySem.StrLaws.subAt_eq, ss_cps, ss_cps, ss_len, ss_len, Bool.eq_iff_iff, Bool.and_eq_true, decide_eq_true_iff, decide_eq_true_iff, beq_iff_eq, List.prefix_iff_eq_take, List.drop_zero]
  constructor
  · rintro ⟨_, h⟩; exact h.symm
  · intro h
    refine ⟨?_, h.symm⟩
    have := congrArg List.length h
    rw [List.length_take] at this
    omega
/-- none, or this number -/
def fOpt : Option Nat → Fact
  | none => fNon
  | some i => fInt (i : Int)
def fPiece (q : Piece) : Fact := fT [fOpt q.1, fS q.2.1, fS q.2.2]
/-- an exchange -/
abbrev OWN : List Str := ["own_pairs", "own_way"]
abbrev fX (C : Addr) (x : Lore) : Fact := fI C OWN [fT (x.1.map fPair), fStr (wayS x.2)]
def fs_isTuple : FS := fun Fs os Post => ∃ (Gs : List Fact) (n : Nat), Fs = [fT Gs, fInt (n : Int)] ∧ Gs.length = n ∧ Post (fBl true) os
def fs_isText : FS := fun Fs os Post => ∃ z : List Nat, Fs = [fS z] ∧ z.length ≤ 100000 ∧ Low z ∧ Post (fBl true) os
def fs_isPut : FS := fun Fs os Post => ∃ z : List Nat, Fs = [fS z] ∧ z.length ≤ 3 ∧ Low z ∧ Post (fBl true) os
def fs_isWord : FS := fun Fs os Post => ∃ z : List Nat, Fs = [fS z] ∧ 1 ≤ z.length ∧ z.length ≤ 3 ∧ Low z ∧ Post (fBl true) os
def fs_check : FS := fun Fs os Post => ∃ z : List Nat, Fs = [fS z] ∧ z.length ≤ 100000 ∧ Low z ∧ Post fNon os
def fs_pairs : FS := fun Fs os Post => ∃ ps : List Pr, Fs = [fT (ps.map fPair)] ∧ GoodP ps ∧ Post (fBl true) os
def fs_at (C : Addr) (b : Bool) : FS := fun Fs os Post => ∃ (x : Lore) (z : List Nat), Fs = [fX C x, fS z, fBl true] ∧ GoodP x.1 ∧ z.length ≤ 100000 ∧ ∀ r, IsAt b x.1 z r → Post (fOpt r) os
def fs_flow (C : Addr) : FS := fun Fs os Post => ∃ (x : Lore) (z : List Nat), Fs = [fX C x, fS z, fBl true] ∧ GoodP x.1 ∧ z.length ≤ 1000 ∧ Low z ∧ ∀ qs, Flows x.2 x.1 z qs → qs.length ≤ 1000 → (∀ q ∈ qs, q.2.2.length ≤ 3) → Post (fT [fL (qs.map fPiece), fS []]) os
def fs_joined : FS := fun Fs os Post => ∃ qs : List Piece, Fs = [fL (qs.map fPiece)] ∧ qs.length ≤ 1000 ∧ (∀ q ∈ qs, q.2.2.length ≤ 3) ∧ Post (fS (outQ qs)) os
def fs_init (C : Addr) : FS := fun Fs os Post => ∃ (o dx : Addr) (x : Lore) (os0 : List Own), Fs = [fRef o, fT (x.1.map fPair), fStr (wayS x.2)] ∧ os = .ins C dx o [] [] :: os0 ∧ GoodP x.1 ∧ Post fNon (.ins C dx o OWN [fT (x.1.map fPair), fStr (wayS x.2)] :: os0)
def fs_get (C : Addr) (i : Nat) : FS := fun Fs os Post => ∃ (Gs : List Fact) (G : Fact), Fs = [fI C OWN Gs] ∧ Gs[i]? = some G ∧ Post G os
def fs_callX (C : Addr) : FS := fun Fs os Post => ∃ (x : Lore) (z : List Nat), Fs = [fX C x, fS z] ∧ GoodP x.1 ∧ z.length ≤ 1000 ∧ Low z ∧ ∀ qs, Flows x.2 x.1 z qs → qs.length ≤ 1000 → (∀ q ∈ qs, q.2.2.length ≤ 3) → Post (fS (outQ qs)) os
end G
namespace G
open PySem L2 TL
section
variable {X : Cx} {Γ : GEnv} {os : List Own} {e : Expr} {Post : PK1} {P P' : PKB}
theorem o_eq_opt {K : PySem.W.Frag} {r : Option Nat} (h : Post (fBl false) os) : Op2 K os (rEqU K) (fOpt r) (fInt (-1)) Post := by
  cases r with
  | none => exact o_eq_ni h
  | some i => exact o_eq_int (by rw [decide_eq_false (by omega)]; exact h)
end
theorem enum_at {Fs : List Fact} {i : Nat} {F : Fact} (h : (pairs2 (nums Fs.length) Fs)[i]? = some F) : ∃ G, Fs[i]? = some G ∧ F = fT [fInt (i : Int), G] := by
  unfold pairs2 at h
  obtain ⟨q, hq, rfl⟩ := map_at h
  rw [List.getElem?_zip_eq_some] at hq
  obtain ⟨h1, h2⟩ := hq
  unfold nums at h1
  obtain ⟨j, hj, e⟩ := map_at h1
  have hi : i < Fs.length := (List.getElem?_eq_some_iff.mp h2).1
  rw [List.getElem?_range hi] at hj
  cases hj
  refine ⟨q.2, h2, ?_⟩
  rw [e]
theorem enum_len (Fs : List Fact) : (pairs2 (nums Fs.length) Fs).length = Fs.length := by simp [pairs2, nums]
def alphabet : Str := "abcdefghijklmnopqrstuvwxyz"
theorem alpha_all : ((List.range 26).all fun i => decide (97 + i ∈ alphabet.cps.toList)) = true := by decide +kernel
theorem in_alpha {c : Nat} (h : 97 ≤ c ∧ c ≤ 122) : c ∈ alphabet.cps.toList := by
  have := List.all_eq_true.mp alpha_all (c - 97) (List.mem_range.mpr (by omega))
  rw [decide_eq_true_iff] at this
  rwa [show 97 + (c - 97) = c by omega] at this
theorem chars_at {z : List Nat} {i : Nat} {F : Fact} (h : (chars (ss z))[i]? = some F) : ∃ c, c ∈ z ∧ F = fStr ⟨#[c]⟩ := by
  unfold chars at h
  rw [ss_cps] at h
  obtain ⟨c, hc, rfl⟩ := map_at h
  exact ⟨c, List.mem_of_getElem? hc, rfl⟩
theorem chars_len (z : List Nat) : (chars (ss z)).length = z.length := by simp [chars, ss_cps]
theorem rep_snoc {α : Type} (n : Nat) (b : α) : List.replicate (n + 1) b = List.replicate n b ++ [b] := List.replicate_succ'
theorem cut_from {z : List Nat} {a : Nat} (h : a ≤ z.length) : cutS (ss z) (some (a : Int)) none = ss (z.drop a) := by
  rw [cutS_ss, HT.sIx_nat, HT.sIx_none, Nat.min_eq_left h]
  congr 1
  rw [List.take_of_length_le]
  rw [List.length_drop]; omega
theorem cut_both {z : List Nat} {a n : Nat} (h : a + n ≤ z.length) : cutS (ss z) (some (a : Int)) (some ((a : Int) + (n : Int))) = ss ((z.drop a).take n) := by
  rw [cutS_ss, show ((a : Int) + (n : Int)) = ((a + n : Nat) : Int) by omega, HT.sIx_nat, HT.sIx_nat, Nat.min_eq_left h, Nat.min_eq_left (by omega), show a + n - a = n by omega]
theorem cut_to {z : List Nat} {n : Nat} : cutS (ss z) none (some (n : Int)) = ss (z.take n) := by
  rw [cutS_ss, HT.sIx_nat, HT.sIx_none, List.drop_zero, Nat.sub_zero]
  congr 1
  by_cases h : n ≤ z.length
  · rw [Nat.min_eq_left h]
  · rw [Nat.min_eq_right (by omega), List.take_of_length_le (Nat.le_refl _), List.take_of_length_le (by omega)]
end G
namespace G
/-- the longest so far -/
def Lg (ps : List Pr) (z : List Nat) (i : Nat) (r : Option Nat) (m : Nat) : Prop := match r with
  | none => m = 0 ∧ ∀ j q, j < i → ps[j]? = some q → ¬ q.1 <+: z
  | some k => ∃ p, ps[k]? = some p ∧ p.1 <+: z ∧ m = p.1.length ∧ k < i ∧ ∀ j q, j < i → ps[j]? = some q → q.1 <+: z → q.1.length ≤ p.1.length ∧ (j < k → q.1.length < p.1.length)
section
variable {ps : List Pr} {z : List Nat} {i m : Nat} {r : Option Nat} {q : Pr}
theorem Lg.start : Lg ps z 0 none 0 := ⟨rfl, fun j q hj => absurd hj (Nat.not_lt_zero _)⟩
theorem Lg.take (h : Lg ps z i r m) (hq : ps[i]? = some q) (hb : q.1 <+: z ∧ m < q.1.length) : Lg ps z (i + 1) (some i) q.1.length := by
  refine ⟨q, hq, hb.1, rfl, Nat.lt_succ_self _, fun j u hj hu hm => ?_⟩
  rcases Nat.lt_succ_iff_lt_or_eq.mp hj with e | e
  · cases r with
    | none => exact absurd hm (h.2 j u e hu)
    | some k =>
      obtain ⟨p, hp, _, rfl, hk, ha⟩ := h
      have := (ha j u e hu hm).1
      exact ⟨by omega, fun _ => by omega⟩
  · rw [e, hq] at hu
    cases hu
    exact ⟨Nat.le_refl _, fun h => by omega⟩
theorem Lg.skip (h : Lg ps z i r m) (hq : ps[i]? = some q) (h1 : 1 ≤ q.1.length) (hb : q.1 <+: z → q.1.length ≤ m) : Lg ps z (i + 1) r m := by
  cases r with
  | none =>
    refine ⟨h.1, fun j u hj hu hm => ?_⟩
    rcases Nat.lt_succ_iff_lt_or_eq.mp hj with e | e
    · exact h.2 j u e hu hm
    · rw [e, hq] at hu
      cases hu
      have := hb hm
      have := h.1
      omega
  | some k =>
    obtain ⟨p, hp, hp2, rfl, hk, ha⟩ := h
    refine ⟨p, hp, hp2, rfl, by omega, fun j u hj hu hm => ?_⟩
    rcases Nat.lt_succ_iff_lt_or_eq.mp hj with e | e
    · exact ha j u e hu hm
    · rw [e, hq] at hu
      cases hu
      exact ⟨hb hm, fun h => by omega⟩
theorem Lg.fin (h : Lg ps z ps.length r m) : IsAt true ps z r := by
  cases r with
  | none =>
    intro p hp hm
    obtain ⟨j, hj⟩ := List.getElem?_of_mem hp
    exact h.2 j p (List.getElem?_eq_some_iff.mp hj).1 hj hm
  | some k =>
    obtain ⟨p, hp, hp2, rfl, hk, ha⟩ := h
    refine ⟨p, hp, hp2, fun j u hu hm => ?_⟩
    rw [if_pos rfl]
    exact ha j u (List.getElem?_eq_some_iff.mp hu).1 hu hm
end
theorem out_bound {qs : List Piece} (h1 : qs.length ≤ 1000) (h2 : ∀ q ∈ qs, q.2.2.length ≤ 3) : ((((qs.map (·.2.2)).map ss).map (·.length)).sum + ((qs.map (·.2.2)).map ss).length * ("" : PySem.Str).length) ≤ 1000000 := by
  have e : ("" : PySem.Str).length = 0 := rfl
  have g : ∀ l : List Piece, (∀ q ∈ l, q.2.2.length ≤ 3) → (((l.map (·.2.2)).map ss).map (·.length)).sum ≤ 3 * l.length := by
    intro l
    induction l with
    | nil => intro _; simp
    | cons q l ih =>
      intro h
      have a := h q List.mem_cons_self
      have b := ih fun u hu => h u (List.mem_cons_of_mem _ hu)
      simp only [List.map_cons, List.sum_cons, List.length_cons, ss_len] at b ⊢
      omega
  have := g qs h2
  rw [e]
  omega
end G
namespace G
open PySem L2
section
variable {X : Cx} {Γ : GEnv} {os : List Own} {e : Expr} {Post Post' : PK1} {P P' : PKB}
theorem t_mono (h : T X Γ os e P) (m : ∀ F os', P F os' → P' F os') : T X Γ os e P' := T.mono h m
theorem e_mono (h : E X Γ os e Post) (m : ∀ F os', Post F os' → Post' F os') : E X Γ os e Post' := E.mono h m
end
end G
namespace G
open PySem L2 TL
theorem way_long (b : Bool) : decide (wayS b = ("longest" : Str)) = b := by cases b <;> decide +kernel
section
variable {b : Bool} {ps : List Pr} {z : List Nat} {a i : Nat} {p : Pr} {qs : List Piece}
theorem step_one (ha : a < z.length) (h : IsAt b ps (z.drop a) none) (f : Flows b ps (z.drop (a + 1)) qs) : Flows b ps (z.drop a) ((none, (z.drop a).take 1, [z[a]]) :: qs) := by
  rw [List.drop_eq_getElem_cons ha] at h ⊢
  exact .one h f
theorem step_put (ha : a < z.length) (h : IsAt b ps (z.drop a) (some i)) (hp : ps[i]? = some p) (f : Flows b ps (z.drop (a + p.1.length)) qs) : Flows b ps (z.drop a) ((some i, (z.drop a).take p.1.length, p.2) :: qs) := by
  refine .put (fun e => ?_) h hp (by rw [List.drop_drop]; exact f)
  have := congrArg List.length e
  rw [List.length_drop, List.length_nil] at this
  omega
end
end G
namespace G
open PySem L2 TL
theorem relab_look {g : Str × NameKind → Str × NameKind} (hg : ∀ p, (g p).1 = p.1 ∧ (p.2 = .cell ∨ p.2 = .free → (g p).2 = .cell ∨ (g p).2 = .free)) : ∀ {names : List (Str × NameKind)} {x : Str} {k : NameKind}, names.lookup x = some k → (k = .cell ∨ k = .free) →
    (names.map g).lookup x = some .cell ∨ (names.map g).lookup x = some .free
  | [], _, _, h, _ => by simp at h
  | (n, k') :: r, x, k, h, hk => by
    obtain ⟨g1, g2⟩ := hg (n, k')
    rw [List.map_cons, show g (n, k') = (n, (g (n, k')).2) from Prod.ext g1 rfl, List.lookup_cons]
    rw [List.lookup_cons] at h
    cases e : x == n with
    | true =>
      rw [e] at h
      cases h
      exact (g2 hk).elim (fun q => .inl (congrArg some q)) fun q => .inr (congrArg some q)
    | false => rw [e] at h; exact relab_look hg h hk
def relabF (env : Env) : Str × NameKind → Str × NameKind := fun (n, k) => if (k == NameKind.free && env.scope.kind == ScopeKind.function && env.kindOf n == some NameKind.cell) = true then (n, NameKind.cell) else (n, k)
theorem relabF_ok (env : Env) (p : Str × NameKind) : (relabF env p).1 = p.1 ∧ (p.2 = .cell ∨ p.2 = .free → (relabF env p).2 = .cell ∨ (relabF env p).2 = .free) := by
  obtain ⟨n, k⟩ := p
  unfold relabF
  dsimp only
  split
  · exact ⟨rfl, fun _ => .inl rfl⟩
  · exact ⟨rfl, fun h => h⟩
theorem blk_relab {N : List Str} {scope0 scope : Scope} {own : List (Str × Nat)} (env : Env) (ok : BlkOk N scope0 scope own) : BlkOk N (relabel scope0 env) scope own :=
  ⟨ok.kind, ok.uniq, ok.ix, fun y hy e => (ok.free y hy e).elim (fun h => relab_look (relabF_ok env) h (.inl rfl)) fun h => relab_look (relabF_ok env) h (.inr rfl), ok.own⟩
section
variable {X : Cx} {Γ : GEnv} {os : List Own} {tg iter elt cnd : Expr} {Post : PK1} {pos : Pos} {scope scope0 : Scope} {own : List (Str × Nat)} {B0 : BA}
/-- a comprehension that stands in another -/
theorem e_lc_in (hc : X.calm = true) (hN : X.N.Nodup) (own : List (Str × Nat)) (ok : BlkOk X.N scope0 scope own)
    (h : Wk (bk X scope0 B0) Γ os tg iter fun Its os1 => ∃ Iv : Nat → List Fact → List Own → Prop, Iv 0 [] os1 ∧
      (∀ (i : Nat) F acc os' D, Its[i]? = some F → Iv i acc os' → acc.length ≤ i → ∀ B : BA, Tg (bk (bk X scope0 B0) scope B) (wipeG Γ (own.map (·.2))) (.lst D acc :: os') (own.map (·.2)) tg F fun Γ2 =>
        ∀ B : BA, E (bk (bk X scope0 B0) scope B) Γ2 (.lst D acc :: os') elt fun G os3 => ∃ os4, os3 = .lst D acc :: os4 ∧ Iv (i + 1) (acc ++ [G]) os4) ∧
        Its.length ≤ 1000000 ∧ ∀ acc os', acc.length ≤ Its.length → Iv Its.length acc os' → Post (fL acc) os')
    (hs : ∀ x, foldedSetIterable iter (bk X scope0 B0).env x = pure x := by intro _; rfl) : E (bk X scope0 B0) Γ os (.ListComp elt [⟨tg, iter, [], 0⟩] scope pos) Post :=
  e_lc (X := bk X scope0 B0) hc hN own (blk_relab _ ok) h hs
end
def isM (ps : List Pr) (z : List Nat) (j : Nat) : Bool := match ps[j]? with
  | some p => decide (p.1 <+: z)
  | none => false
def MF (ps : List Pr) (z : List Nat) (i : Nat) : List Nat := (List.range i).filter (isM ps z)
def szI (ps : List Pr) (j : Nat) : Int := match ps[j]? with
  | some p => (p.1.length : Int)
  | none => 0
def fNat (j : Nat) : Fact := fInt (j : Int)
section
variable {ps : List Pr} {z : List Nat} {i j : Nat} {p : Pr}
theorem isM_at (h : ps[j]? = some p) : isM ps z j = decide (p.1 <+: z) := by unfold isM; rw [h]
theorem MF_yes (h : isM ps z i = true) : MF ps z (i + 1) = MF ps z i ++ [i] := by
  unfold MF; rw [List.range_succ, List.filter_append, List.filter_cons_of_pos h]; rfl
theorem MF_no (h : isM ps z i = false) : MF ps z (i + 1) = MF ps z i := by
  unfold MF; rw [List.range_succ, List.filter_append, List.filter_cons_of_neg (by rw [h]; decide), List.filter_nil, List.append_nil]
theorem mem_MF {n : Nat} (h : j ∈ MF ps z n) : j < n ∧ isM ps z j = true := by
  unfold MF at h
  rw [List.mem_filter, List.mem_range] at h
  exact h
theorem MF_mem {n : Nat} (h : j < n) (h2 : isM ps z j = true) : j ∈ MF ps z n := by
  unfold MF
  rw [List.mem_filter, List.mem_range]
  exact ⟨h, h2⟩
theorem MF_at {n : Nat} (h : j ∈ MF ps z n) : ∃ p, ps[j]? = some p ∧ p.1 <+: z := by
  have := (mem_MF h).2
  unfold isM at this
  cases e : ps[j]? with
  | none => rw [e] at this; cases this
  | some p => rw [e] at this; exact ⟨p, rfl, by simpa using this⟩
theorem MF_lt (n : Nat) : (MF ps z n).Pairwise (· < ·) := List.pairwise_lt_range.filter _
/-- of the found ones the longest -/
def isTop (ps : List Pr) (M : List Nat) (j : Nat) : Bool := M.all fun i => decide (szI ps i ≤ szI ps j)
theorem top_eq {M : List Nat} {m : Int} (hj : j ∈ M) (hm : m ∈ M.map (szI ps)) (hy : ∀ y ∈ M.map (szI ps), y ≤ m) : decide (szI ps j = m) = isTop ps M j := by
  unfold isTop
  rw [Bool.eq_iff_iff, decide_eq_true_iff, List.all_eq_true]
  obtain ⟨i, hi, rfl⟩ := List.mem_map.mp hm
  constructor
  · intro e k hk
    rw [decide_eq_true_iff, e]
    exact hy _ (List.mem_map.mpr ⟨k, hk, rfl⟩)
  · intro h
    have h1 := h i hi
    rw [decide_eq_true_iff] at h1
    have h2 := hy _ (List.mem_map.mpr ⟨j, hj, rfl⟩)
    omega
theorem at_first : IsAt false ps z (MF ps z ps.length).head? := by
  cases e : MF ps z ps.length with
  | nil =>
    intro p hp hm
    obtain ⟨j, hj⟩ := List.getElem?_of_mem hp
    have : j ∈ MF ps z ps.length := MF_mem (List.getElem?_eq_some_iff.mp hj).1 (by rw [isM_at hj]; exact decide_eq_true hm)
    rw [e] at this
    cases this
  | cons i M =>
    obtain ⟨p, hp, hm⟩ := MF_at (show i ∈ MF ps z ps.length by rw [e]; exact List.mem_cons_self)
    refine ⟨p, hp, hm, fun j q hq hqm => ?_⟩
    rw [if_neg (by decide)]
    have h : j ∈ MF ps z ps.length := MF_mem (List.getElem?_eq_some_iff.mp hq).1 (by rw [isM_at hq]; exact decide_eq_true hqm)
    rw [e] at h
    have hs := MF_lt (ps := ps) (z := z) ps.length
    rw [e] at hs
    rcases List.mem_cons.mp h with h | h
    · omega
    · have := (List.pairwise_cons.mp hs).1 j h
      omega
theorem at_long : IsAt true ps z ((MF ps z ps.length).filter (isTop ps (MF ps z ps.length))).head? := by
  cases e : (MF ps z ps.length).filter (isTop ps (MF ps z ps.length)) with
  | nil =>
    -- a list that is not empty has a longest one
    have gen : ∀ M : List Nat, M ≠ [] → ∃ j ∈ M, ∀ i ∈ M, szI ps i ≤ szI ps j := by
      intro M
      induction M with
      | nil => intro h; exact absurd rfl h
      | cons a M ih =>
        intro _
        cases M with
        | nil => exact ⟨a, List.mem_cons_self, fun i hi => by rw [List.mem_singleton.mp hi]; exact Int.le_refl _⟩
        | cons b M =>
          obtain ⟨j, hj, h⟩ := ih (by simp)
          by_cases c : szI ps a ≤ szI ps j
          · exact ⟨j, List.mem_cons_of_mem _ hj, fun i hi => (List.mem_cons.mp hi).elim (fun q => by rw [q]; exact c) (h i)⟩
          · exact ⟨a, List.mem_cons_self, fun i hi => (List.mem_cons.mp hi).elim (fun q => by rw [q]; exact Int.le_refl _) fun q => by have := h i q; omega⟩
    intro p hp hm
    obtain ⟨k, hk⟩ := List.getElem?_of_mem hp
    have hne : MF ps z ps.length ≠ [] := List.ne_nil_of_mem (MF_mem (List.getElem?_eq_some_iff.mp hk).1 (by rw [isM_at hk]; exact decide_eq_true hm))
    obtain ⟨j, hj, h⟩ := gen _ hne
    have : j ∈ (MF ps z ps.length).filter (isTop ps (MF ps z ps.length)) := List.mem_filter.mpr ⟨hj, by unfold isTop; rw [List.all_eq_true]; intro i hi; exact decide_eq_true (h i hi)⟩
    rw [e] at this
    cases this
  | cons i M =>
    have hi : i ∈ (MF ps z ps.length).filter (isTop ps (MF ps z ps.length)) := by rw [e]; exact List.mem_cons_self
    obtain ⟨h1, h2⟩ := List.mem_filter.mp hi
    obtain ⟨p, hp, hm⟩ := MF_at h1
    refine ⟨p, hp, hm, fun j q hq hqm => ?_⟩
    rw [if_pos rfl]
    have h : j ∈ MF ps z ps.length := MF_mem (List.getElem?_eq_some_iff.mp hq).1 (by rw [isM_at hq]; exact decide_eq_true hqm)
    unfold isTop at h2
    rw [List.all_eq_true] at h2
    have h3 := h2 j h
    rw [decide_eq_true_iff] at h3
    unfold szI at h3
    rw [hq, hp] at h3
    have h3 : (q.1.length : Int) ≤ (p.1.length : Int) := h3
    refine ⟨by omega, fun hlt => ?_⟩
    -- one as long that stands before would be taken
    refine Nat.lt_of_not_le fun hge => ?_
    have ht : isTop ps (MF ps z ps.length) j = true := by
      unfold isTop
      rw [List.all_eq_true]
      intro k hk
      have h4 := h2 k hk
      rw [decide_eq_true_iff] at h4 ⊢
      have e1 : szI ps i = (p.1.length : Int) := by unfold szI; rw [hp]
      have e2 : szI ps j = (q.1.length : Int) := by unfold szI; rw [hq]
      omega
    have hmem : j ∈ (MF ps z ps.length).filter (isTop ps (MF ps z ps.length)) := List.mem_filter.mpr ⟨h, ht⟩
    rw [e] at hmem
    have hs := (MF_lt (ps := ps) (z := z) ps.length).filter (isTop ps (MF ps z ps.length))
    rw [e] at hs
    rcases List.mem_cons.mp hmem with q1 | q1
    · omega
    · have := (List.pairwise_cons.mp hs).1 j q1
      omega
theorem pre_eq (a b : List Nat) : decide (ss (b.take a.length) = ss a) = decide (a <+: b) := by
  rw [Bool.eq_iff_iff, decide_eq_true_iff, decide_eq_true_iff, ss_eq, List.prefix_iff_eq_take]
  exact ⟨Eq.symm, Eq.symm⟩
theorem filter_take {α : Type} {f : α → Bool} {l : List α} {i : Nat} {x : α} (h : l[i]? = some x) : (l.take (i + 1)).filter f = (l.take i).filter f ++ (if f x then [x] else []) := by
  rw [take_more h, List.filter_append]
  congr 1
  cases e : f x with
  | true => rw [List.filter_cons_of_pos e]; rfl
  | false => rw [List.filter_cons_of_neg (by rw [e]; decide)]; rfl
end
theorem outQ_snoc (qs : List Piece) (q : Piece) : outQ (qs ++ [q]) = outQ qs ++ q.2.2 := by
  unfold outQ
  rw [List.map_append, List.flatten_append]
  simp
theorem Flows.low {b : Bool} {ps : List Pr} {z : List Nat} {qs : List Piece} (h : Flows b ps z qs) (hg : GoodP ps) : Low z → Low (outQ qs) := by
  induction h with
  | nil => intro _ c hc; cases hc
  | @one c t qs _ _ ih =>
    intro hl d hd
    rcases List.mem_append.mp (show d ∈ [c] ++ outQ qs from hd) with q | q
    · rw [List.mem_singleton.mp q]; exact hl c List.mem_cons_self
    · exact ih (fun u hu => hl u (List.mem_cons_of_mem _ hu)) d q
  | @put z i p qs _ _ hp _ ih =>
    intro hl d hd
    rcases List.mem_append.mp (show d ∈ p.2 ++ outQ qs from hd) with q | q
    · exact (hg.at_ hp).2.2.2.2 d q
    · exact ih (fun u hu => hl u (List.mem_of_mem_drop hu)) d q
theorem out_le {qs : List Piece} (h : ∀ q ∈ qs, q.2.2.length ≤ 3) : (outQ qs).length ≤ 3 * qs.length := by
  induction qs with
  | nil => exact Nat.le_refl _
  | cons q qs ih =>
    have a := h q List.mem_cons_self
    have b := ih fun u hu => h u (List.mem_cons_of_mem _ hu)
    show (q.2.2 ++ outQ qs).length ≤ _
    rw [List.length_append, List.length_cons]
    omega
theorem repr_le {z : List Nat} (h : Low z) (hz : z.length ≤ 10000) : (reprText (ss z)).length ≤ 1000000 := by
  have := PySem.StrLaws.reprText_len (ss z) fun c hc => by
    rw [ss_cps] at hc
    have := h c hc
    have : (16 : Nat) ^ 8 = 4294967296 := by decide
    omega
  rw [ss_len] at this
  omega
theorem lore_good {cs : List Nat} {x : Lore} (hc : IsLetters cs) (h : IsLore cs 3 3 x) : GoodP x.1 := by
  have hl : ∀ c ∈ cs, 97 ≤ c ∧ c ≤ 122 := fun c hc' => by
    rcases hc.2.2.2 c hc' with e | e | e | e | e <;> omega
  refine ⟨h.ne, by have := h.le; omega, fun p hp => ?_, h.nd⟩
  obtain ⟨h1, h2, h3, h4, h5⟩ := h.ok p hp
  exact ⟨h1, by omega, fun c hc => hl c (h3 c hc), by omega, fun c hc => hl c (h5 c hc)⟩
def fs_pot : FS := fun Fs os Post => ∃ (ns : List Int) (k : Int), Fs = [fScr ns, fInt k] ∧ 0 ≤ k ∧ k < 1000 ∧ ∀ l, Post (fRef l) (potO l 0 :: os)
def fs_exch (C : Addr) : FS := fun Fs os Post => ∃ x : Lore, Fs = [fLore x] ∧ GoodP x.1 ∧ Post (fX C x) os
def fs_pairAt : FS := fun Fs os Post => ∃ (x : Lore) (z : List Nat), Fs = [fLore x, fS z] ∧ GoodP x.1 ∧ z.length ≤ 1000 ∧ ∀ r, IsAt x.2 x.1 z r → Post (fOpt r) os
def fs_once : FS := fun Fs os Post => ∃ (x : Lore) (z : List Nat), Fs = [fLore x, fS z] ∧ GoodP x.1 ∧ z.length ≤ 1000 ∧ ∀ qs, Flows x.2 x.1 z qs → Post (fS (outQ qs)) os
def fs_text : FS1 := fun Fs o Post => ∃ (l : Addr) (k : Int) (cs : List Nat) (n : Int), Fs = [fRef l, fL (cs.map fC), fInt n] ∧ o = potO l k ∧ cs.length < 1000 ∧ Low cs ∧ 0 ≤ n ∧ n ≤ 50 ∧ 0 ≤ k ∧ k ≤ 700000 ∧ ∀ w : List Nat, Low w → w.length ≤ 100 → Post (fS w) (potO l (k + 100))
theorem fs_text_mono : ∀ Fs o P Q, (∀ F o', P F o' → Q F o') → fs_text Fs o P → fs_text Fs o Q := fun Fs o P Q h ⟨l, k, cs, n, a, b, c, d, e, f, g, i, q⟩ => ⟨l, k, cs, n, a, b, c, d, e, f, g, i, fun w h1 h2 => h _ _ (q w h1 h2)⟩
def fs_made : FS1 := fun Fs o Post => ∃ (l : Addr) (k : Int) (x : Lore), Fs = [fRef l, fLore x] ∧ o = potO l k ∧ GoodP x.1 ∧ 0 ≤ k ∧ k ≤ 700000 ∧ ∀ w : List Nat, Low w → w.length ≤ 100 → Post (fS w) (potO l (k + 100))
theorem fs_made_mono : ∀ Fs o P Q, (∀ F o', P F o' → Q F o') → fs_made Fs o P → fs_made Fs o Q := fun Fs o P Q h ⟨l, k, x, a, b, c, d, e, q⟩ => ⟨l, k, x, a, b, c, d, e, fun w h1 h2 => h _ _ (q w h1 h2)⟩
/-- a part of the law: true, some n draws -/
def fs_part (n b : Int) : FS1 := fun Fs o Post => ∃ (l : Addr) (k : Int), Fs = [fRef l] ∧ o = potO l k ∧ 0 ≤ k ∧ k ≤ b ∧ Post (fBl true) (potO l (k + n))
theorem fs_part_mono (n b : Int) : ∀ Fs o P Q, (∀ F o', P F o' → Q F o') → fs_part n b Fs o P → fs_part n b Fs o Q := fun Fs o P Q h ⟨l, k, a, b', c, d, q⟩ => ⟨l, k, a, b', c, d, h _ _ q⟩
def fs_law : FS := fun Fs os Post => ∃ ns : List Int, Fs = [fScr ns] ∧ ns.length ≤ 63 ∧ Post (fBl true) os
theorem own_ok {m B : Int} {b : Bool} (h : 0 < B) (h2 : B.natAbs < 2 ^ 1000) : 0 ≤ (m % B) * (if b = true then 1 else 0) ∧ ((m % B) * (if b = true then 1 else 0)).natAbs < 2 ^ 1000 := by
  have h0 := Int.emod_nonneg m (show B ≠ 0 by omega)
  have h1 := Int.emod_lt_of_pos m h
  cases b with
  | true => simp only [if_true, Int.mul_one]; refine ⟨h0, ?_⟩; omega
  | false => simp only [Bool.false_eq_true, if_false, Int.mul_zero]; exact ⟨Int.le_refl _, by show 0 < 2 ^ 1000; exact Nat.pow_pos (by decide)⟩
end G
namespace G
open PySem L2 TL
theorem mf_small {ps : List Pr} {z : List Nat} (h : GoodP ps) : (MF ps z ps.length).length ≤ 1000000 := by
  have h1 : (MF ps z ps.length).length ≤ (List.range ps.length).length := List.length_filter_le ..
  have := h.n3
  rw [List.length_range] at h1
  omega
theorem szI_at {ps : List Pr} {j : Nat} {p : Pr} (h : ps[j]? = some p) : szI ps j = (p.1.length : Int) := by unfold szI; rw [h]
theorem eqv_nil : PyData.eqv (.list []) (.list []) = true := by rfl
theorem eqv_cons (d : PyData) (l : List PyData) : PyData.eqv (.list (d :: l)) (.list []) = false := by rfl
end G
namespace G
open PySem L2 TL
theorem low_letters {cs : List Nat} (h : IsLetters cs) : Low cs := fun c hc => by
  rcases h.2.2.2 c hc with e | e | e | e | e <;> omega
theorem made_in {x : Lore} (hg : GoodP x.1) {G : Fact} (h : G ∈ [fStr "q"] ++ (x.1.map fun p => fS p.1) ++ (x.1.map fun p => fS p.2) ++ (x.1.map fun p => fS (p.1.take 1)) ++ (x.1.map fun p => fS (p.1.drop 1))) : ∃ w, G = fS w ∧ (Low w ∧ w.length ≤ 3) := by
  simp only [List.mem_append, List.mem_map, List.mem_singleton] at h
  rcases h with (((h | ⟨p, hp, rfl⟩) | ⟨p, hp, rfl⟩) | ⟨p, hp, rfl⟩) | ⟨p, hp, rfl⟩
  · exact ⟨[113], h, fun c hc => by rw [List.mem_singleton.mp hc]; decide, by decide⟩
  · obtain ⟨a, b, c, d, e⟩ := hg.ok p hp; exact ⟨p.1, rfl, c, b⟩
  · obtain ⟨a, b, c, d, e⟩ := hg.ok p hp; exact ⟨p.2, rfl, e, d⟩
  · obtain ⟨a, b, c, d, e⟩ := hg.ok p hp; exact ⟨_, rfl, fun u hu => c u (List.mem_of_mem_take hu), by rw [List.length_take]; omega⟩
  · obtain ⟨a, b, c, d, e⟩ := hg.ok p hp; exact ⟨_, rfl, fun u hu => c u (List.mem_of_mem_drop hu), by rw [List.length_drop]; omega⟩
theorem sum_le {ws : List (List Nat)} (h : ∀ w ∈ ws, Low w ∧ w.length ≤ 3) : ((ws.map ss).map (·.length)).sum ≤ 3 * ws.length ∧ ws.flatten.length ≤ 3 * ws.length := by
  induction ws with
  | nil => exact ⟨Nat.le_refl _, Nat.le_refl _⟩
  | cons w ws ih =>
    obtain ⟨a, b⟩ := ih fun u hu => h u (List.mem_cons_of_mem _ hu)
    have c := (h w List.mem_cons_self).2
    refine ⟨?_, ?_⟩
    · simp only [List.map_cons, List.sum_cons, List.length_cons, ss_len] at a ⊢
      omega
    · simp only [List.flatten_cons, List.length_append, List.length_cons] at b ⊢
      omega
theorem made_bound {ws : List (List Nat)} (hl : ws.length ≤ 30) (h : ∀ w ∈ ws, Low w ∧ w.length ≤ 3) : (((ws.map ss).map (·.length)).sum + (ws.map ss).length * ("" : PySem.Str).length) ≤ 1000000 := by
  have e : ("" : PySem.Str).length = 0 := rfl
  have := (sum_le h).1
  rw [e]; omega
theorem flat_low {ws : List (List Nat)} (h : ∀ w ∈ ws, Low w ∧ w.length ≤ 3) : Low ws.flatten := fun c hc => by
  obtain ⟨w, hw, hcw⟩ := List.mem_flatten.mp hc
  exact (h w hw).1 c hcw
theorem flat_len {ws : List (List Nat)} (hl : ws.length ≤ 30) (h : ∀ w ∈ ws, Low w ∧ w.length ≤ 3) : ws.flatten.length ≤ 100 := by
  have := (sum_le h).2
  omega
theorem text_in {ws1 ws2 : List (List Nat)} (h1 : ∀ w ∈ ws1, Low w ∧ w.length ≤ 100) (h2 : ∀ w ∈ ws2, Low w ∧ w.length ≤ 100) {F : Fact} (h : F ∈ ws1.map fS ++ ws2.map fS ++ [fStr ""]) : ∃ w, F = fS w ∧ Low w ∧ w.length ≤ 100 := by
  simp only [List.mem_append, List.mem_map, List.mem_singleton] at h
  rcases h with (⟨w, hw, rfl⟩ | ⟨w, hw, rfl⟩) | h
  · exact ⟨w, rfl, h1 w hw⟩
  · exact ⟨w, rfl, h2 w hw⟩
  · exact ⟨[], h, fun c hc => absurd hc (by simp), by decide⟩
end G
namespace G
open PySem L2 TL
theorem cmul_b {i : Int} {b : Bool} : CMul i (if b = true then 1 else 0) := .inr (by cases b <;> decide)
theorem lay_ints : ∀ l : List Nat, PyData.canLayAll0 (l.map fun (j : Nat) => PyData.int (j : Int)) = true ∧ PyData.depthAll (l.map fun (j : Nat) => PyData.int (j : Int)) ≤ 1
  | [] => ⟨rfl, by decide⟩
  | j :: l => by
    obtain ⟨h1, h2⟩ := lay_ints l
    refine ⟨?_, ?_⟩
    · show (PyData.canLay0 (.int (j : Int)) && PyData.canLayAll0 (l.map fun (j : Nat) => PyData.int (j : Int))) = true
      rw [h1]; rfl
    · show max (PyData.depth (.int (j : Int))) (PyData.depthAll (l.map fun (j : Nat) => PyData.int (j : Int))) ≤ 1
      exact Nat.max_le.mpr ⟨by show PyData.depth (.int (j : Int)) ≤ 1; unfold PyData.depth; decide, h2⟩
theorem shaped_ints (l : List Nat) : SeqAt.shaped (.list (l.map fun (j : Nat) => PyData.int (j : Int))) = true := by
  obtain ⟨h1, h2⟩ := lay_ints l
  refine Bool.and_eq_true_iff.mpr ⟨h1, decide_eq_true ?_⟩
  show PyData.depth (.list (l.map fun (j : Nat) => PyData.int (j : Int))) ≤ 64
  unfold PyData.depth
  omega
end G
namespace G
open PySem PySem.Spec PyProof.Rows L2 TL
/-- len(x) of an own instance -/
def rLenI (K : PySem.W.Frag) (C : Addr) (sp : Sp) (E : XK) : List V → Hp → VK → Prop := fun xs H Q => ∃ a dx fs, xs = [V.ref a] ∧ H a = some (.ins C dx fs) ∧ sp [.ref a] H (fun z H' => ∃ i : Int, z = .int i ∧ (0 ≤ i ∧ i < 2 ^ 63) ∧ Q z H') E
theorem call_lenI {X : Cx} {CX : CXT} {C g : Addr} {n : Nat} {sp : Sp} {E : XK} (hs : PySem.W.findIn X.K (.ref C) "__len__" = some (some (.ref g))) (hf : PySem.W.isFn X.K (.ref g) = true) (F : FnR X.prog X.w X.K X.mg X.base CX n g sp) (hr : Room (n + 1) X.A) (hx : Passes CX X E) :
    CallR X (.builtin "len") (rLenI X.K C sp E) := by
  intro pins s σ H xs us Q I r h
  obtain ⟨a, dx, fs, rfl, ha, q⟩ := h
  obtain ⟨u, rfl, ru⟩ := r.one
  cases (show u = Value.ref a from ru)
  obtain ⟨ox, od, J, _⟩ := StX.insC_at I (.inr ⟨dx, fs, ha⟩)
  obtain ⟨m, hF⟩ := I.fr
  refine PySem.W.len_K hF I.ok.mod.kin J hs hf (wpAny_mono (wpAny_call (SlX.run_at (us := [.ref a]) (ws := [.ref a]) F (show Room n X.A.in1 from Room.in1 hr) I.env0.in1 hx I (.cons rfl .nil) q)) (fun w s' z => ?_) fun _ _ x => x)
  obtain ⟨z', H', I', rz, i, ei, hb, qz⟩ := z
  subst ei
  obtain ⟨t, e⟩ := (show ∃ t, w = Value.int i t from rz)
  cases e
  exact ⟨hb, .int i, H', I'.tok _, ⟨_, rfl⟩, qz⟩
section
variable {X : Cx} {Γ : GEnv} {os : List Own} {e o : Expr} {es : List Expr} {Post : PK1} {p pos : Pos} {x : Str}
theorem e_lenI {C f : Addr} {fd : FuncData} {ps : List Str} {k : Nat} {fs : FS} (hs : PySem.W.findIn X.K (.ref C) "__len__" = some (some (.ref f))) (hf : PySem.W.isFn X.K (.ref f) = true) (D : Fd X.prog X.w X.K X.mg X.base k f fd ps fs) (hr : Room (k + 1) X.A) (hb : Binds X.K fd ps [])
    (hg : Gl X "len") (hm : X.mg "len" = none) (h : E X Γ os o fun F os1 => (∃ ns, InsF X.K os1 C ns F) ∧ fs [F] os1 fun G os2 => ∃ i : Int, G = fInt i ∧ (0 ≤ i ∧ i < 2 ^ 63) ∧ Post G os2)
    (he : starEach [o] X.env = (false, eval o X.env) :: starEach [] X.env := by rfl) : E X Γ os (.Call (.Name "len" p) [o] [] pos) Post := fun σ H Q ok g => by
  obtain ⟨CX, F0, hc⟩ := D.ex
  refine uE.of (pe_callB (call_lenI hs hf (F0.raw hb .nil) hr (passAny hc)) hg hm boot_len (pa_cons pe_u pa_nil he) (by decide) (by decide) he rfl) (h σ H _ ok fun v H1 F os1 p s1 r1 => ?_)
  obtain ⟨⟨ns, hi⟩, p⟩ := p
  obtain ⟨a, dx, vs, rfl, ha⟩ := hi H1 v s1.ow r1
  refine ⟨a, dx, _, rfl, ha, [F], os1, _, p, .cons r1 .nil, s1.ow, s1.nd, ?_⟩
  rintro z H2 G os2 ⟨i, rfl, hb2, p2⟩ s2 r2
  exact ⟨i, r2, hb2, g _ H2 _ os2 p2 (s1.trans s2) r2⟩
/-- what stands when __init__ begins -/
theorem made_ok {K : PySem.W.Frag} {os2 : List Own} {H2 : Hp} {C o dx : Addr} (ow : ∀ u ∈ os2, u.ok K (ms os2) H2) (nd : (ms os2).Nodup) (ho : H2 o = none) (hdx : H2 dx = none) (hne : dx ≠ o) :
    Step K os2 (.ins C dx o [] [] :: os2) H2 (upd (upd H2 dx (.own o)) o (.ins C dx [])) := by
  have sA := Step.laid (o := .own o) ow nd hdx
  have ho2 : upd H2 dx (.own o) o = none := by rw [upd_ne (fun z => hne z.symm)]; exact ho
  have sB := Step.laid (o := .ins C dx []) sA.ow sA.nd ho2
  have nw := owned_ne sA.ow ho2
  have sC : Step K os2 (.ins C dx o [] [] :: os2) (upd H2 dx (.own o)) (upd (upd H2 dx (.own o)) o (.ins C dx [])) := by
    refine ⟨sB.keep, fun a ha => ?_, fun u hu => ?_, List.nodup_cons.mpr ⟨nw, nd⟩⟩
    · rcases List.mem_cons.mp ha with z | z
      · rw [z]; exact .inr ho2
      · exact .inl z
    · rcases List.mem_cons.mp hu with z | z
      · rw [z]; exact ⟨[], upd_same, .nil⟩
      · refine Own.ok_step (sA.ow u z) (by obtain ⟨q, e⟩ := Own.ok_tr (sA.ow u z); rw [upd_ne (ne_of_none e ho2)]) sB.keep fun a ha => ?_
        rcases List.mem_cons.mp ha with z | z
        · rw [z]; exact .inr ho2
        · exact .inl z
  exact sA.trans sC
abbrev MadeP (C o : Addr) (Post : PK1) : PK1 := fun R os3 => R = fNon ∧ ∃ dx ns Fs os4, os3 = .ins C dx o ns Fs :: os4 ∧ Post (fI C ns Fs) os4
theorem e_make {C f : Addr} {fd : FuncData} {ps : List Str} {k : Nat} {fs : FS} (M : Mk X.K C f) (D : Fd X.prog X.w X.K X.mg X.base k f fd ps fs) (hr : Room (k + 1) X.A) (hg : Gl X x) (hm : X.mg x = some (.ref C)) (hb : Binds X.K fd ps [])
    (h : A X Γ os (e :: es) fun Fs os1 => ∀ o dx, fs (fRef o :: Fs) (.ins C dx o [] [] :: os1) (MadeP C o Post)) (hdb : (x == ("__debug__" : Str)) = false := by decide)
    (he : starEach (e :: es) X.env = (false, eval e X.env) :: starEach es X.env := by rfl) (hpl : (backTo pos (starEach es X.env)).any (·.1) = false := by rfl) : E X Γ os (.Call (.Name x p) (e :: es) [] pos) Post := fun σ H Q ok g => by
  obtain ⟨CX, F0, hc⟩ := D.ex
  refine uE.of (pe_make M F0 hr hg hm hb .nil (passAny hc) pa_u hdb he hpl) (h σ H _ ok fun vs H1 Fs os1 p s1 r1 => ?_)
  intro o dx ho hdx hne
  have sC := made_ok (C := C) s1.ow s1.nd ho hdx hne
  refine ⟨fRef o :: Fs, _, _, p o dx, .cons rfl (by rw [List.append_nil]; exact r1.go sC), sC.ow, sC.nd, ?_⟩
  rintro v3 H3 R os3 ⟨rfl, dx', ns, Fs', os4, rfl, p4⟩ s3 r3
  refine ⟨r3, ?_⟩
  obtain ⟨s4, r4⟩ := frzI_ok s3.ow s3.nd
  exact g _ H3 _ os4 p4 (((s1.trans sC).trans s3).trans s4) r4
/-- C(), all by its defaults -/
theorem e_make0 {C f : Addr} {fd : FuncData} {ps : List Str} {k : Nat} {fs : FS} {dvs : List V} {ds : List Value} {Gs : List Fact} (M : Mk X.K C f) (D : Fd X.prog X.w X.K X.mg X.base k f fd ps fs) (hr : Room (k + 1) X.A) (hg : Gl X x) (hm : X.mg x = some (.ref C))
    (hb : Binds X.K fd ps ds) (hd : Vals dvs ds) (hG : ∀ ms H, Reps X.K ms H Gs dvs) (h : ∀ o dx, fs (fRef o :: Gs) (.ins C dx o [] [] :: os) (MadeP C o Post)) (hdb : (x == ("__debug__" : Str)) = false := by decide) : E X Γ os (.Call (.Name x p) [] [] pos) Post := fun σ H Q ok g => by
  obtain ⟨CX, F0, hc⟩ := D.ex
  refine uE.of (pe_make0 M F0 hr hg hm hb hd (passAny hc) hdb) ?_
  intro o dx ho hdx hne
  have sC := made_ok (C := C) ok.ow ok.nd ho hdx hne
  refine ⟨fRef o :: Gs, _, _, h o dx, .cons rfl (hG _ _), sC.ow, sC.nd, ?_⟩
  rintro v3 H3 R os3 ⟨rfl, dx', ns, Fs', os4, rfl, p4⟩ s3 r3
  refine ⟨r3, ?_⟩
  obtain ⟨s4, r4⟩ := frzI_ok s3.ow s3.nd
  exact g _ H3 _ os4 p4 ((sC.trans s3).trans s4) r4
end
theorem tyf_I' {K : PySem.W.Frag} {os : List Own} {C : Addr} {ns : List Str} {Fs : List Fact} (cl : Cls K C) (S : SlX.SIsi K C) : TyV K os (fI C ns Fs) (.ref C) := fun H v _ e => by
  obtain ⟨a, dx, vs, rfl, _, h, _⟩ := e
  exact .base (.ins h cl S.ca S.cn S.ct S.cm)
theorem o_isiC {K : PySem.W.Frag} {os : List Own} {Post : PK1} {F : Fact} {t : Value} {C : Addr} {r : Bool} (ty : TyV K os F t) (hk : PySem.W.kitOne K t (.ref C) = some r) (h : Post (fBl r) os) : OpA K os (rIsi K) [F, fRef C] Post := fun xs H Q ow nd rs gv => by
  obtain ⟨y, z, rfl, ry, rz⟩ := arg2 rs
  cases (show z = .ref C from rz)
  exact ⟨y, .ref C, _, _, r, rfl, .own C, ty H y ow ry, hk, gv.now h ow nd rfl⟩
theorem kit_same {K : PySem.W.Frag} {C : Addr} : PySem.W.kitOne K (.ref C) (.ref C) = some true := by
  unfold PySem.W.kitOne
  rw [if_pos (by simp)]
end G
namespace G
open PySem PySem.Spec PyProof.Rows L2 TL
section
variable {X : Cx} {Γ : GEnv} {os : List Own} {a b c e : Expr} {Post : PK1} {pos p2 : Pos} {lo hi : Option Expr}
theorem e_chain {op op' : CmpOp} {r r' : R2} (ho : OpR X (compareOp op) r) (ho' : OpR X (compareOp op') r')
    (h : E X Γ os a fun F os1 => E X Γ os1 b fun G os2 => Op2 X.K os2 r F G fun B os3 => ∃ k, B = fBl k ∧ (k = true → E X Γ os3 c fun C os4 => Op2 X.K os4 r' G C Post) ∧ (k = false → Post (fBl false) os3))
    (hm : lastMarks [op, op'] [b, c] = false := by with_unfolding_all rfl) : E X Γ os (.Compare a [op, op'] [b, c] pos) Post := fun σ H Q ok g =>
  uE.of (pe_chain ho ho' pe_u pe_u pe_u hm) (h σ H _ ok fun v H1 F os1 p1 s1 r1 => p1 σ H1 _ (ok.step s1) fun w H2 G os2 p2 s2 r2 => p2 v w H2 _ s2.ow s2.nd (F.go r1 s2) r2 fun z H3 B os3 p3 s3 r3 => by
    obtain ⟨k, rfl, p3⟩ := p3
    refine ⟨k, r3, ?_⟩
    cases k with
    | false => rw [if_neg (by decide)]; exact g _ H3 _ os3 (p3.2 rfl) ((s1.trans s2).trans s3) rfl
    | true =>
      rw [if_pos rfl]
      refine p3.1 rfl σ H3 _ (((ok.step s1).step s2).step s3) fun u H4 C os4 p4 s4 r4 => ?_
      exact p4 w u H4 _ s4.ow s4.nd (G.go (G.go r2 s3) s4) r4 (g.step (((s1.trans s2).trans s3).trans s4)))
theorem e_sliceT (h : E X Γ os e fun F os1 => EO X Γ os1 lo fun l os2 => EO X Γ os2 hi fun u os3 => ∃ Fs, F = fT Fs ∧ Post (fT (cutF Fs l u)) os3) : E X Γ os (.Subscript e (.Slice lo hi none p2) pos) Post := fun σ H Q ok g =>
  uE.of (pe_slice sl_tupA pe_u po_u po_u) (h σ H _ ok fun v H1 F os1 p s1 r1 => p σ H1 _ (ok.step s1) fun l H2 os2 p2 s2 => p2 σ H2 _ ((ok.step s1).step s2) fun u H3 os3 p3 s3 => by
    obtain ⟨Fs, rfl, p3⟩ := p3
    obtain ⟨x, vs, rfl, hx, rv⟩ := Fact.go (Fact.go r1 s2) s3
    have s := (s1.trans s2).trans s3
    refine ⟨x, vs, rfl, hx.sq, fun hw => ?_, fun _ p hp => (g.step s).laid p3 s3.ow s3.nd hp fun hn s4 => ⟨p, _, rfl, .inl ⟨hn, .inl upd_same⟩, ?_⟩⟩
    · refine g _ H3 _ os3 p3 s ⟨x, vs, rfl, hx, ?_⟩
      have e1 : cutF Fs l u = Fs := by
        unfold cutF
        rw [rv.length, hw.1, hw.2]
        simp [rv.length]
        exact List.take_of_length_le (Nat.le_of_eq rv.length)
      rw [e1]; exact rv
    · unfold cutV cutF
      rw [rv.length]
      exact ((rv.go s4).drop _).take _)
end
theorem cutF_nat {Fs : List Fact} {i j : Nat} (h : i ≤ j) (h2 : j ≤ Fs.length) : cutF Fs (some (i : Int)) (some (j : Int)) = (Fs.drop i).take (j - i) := by
  unfold cutF
  rw [HT.sIx_nat, HT.sIx_nat, Nat.min_eq_left h2, Nat.min_eq_left (by omega)]
/-- a def with defaults -/
theorem fd_okD {P : Program} {w : World} {K : PySem.W.Frag} {mg : Str → Option Value} {base : Heap} {x qual : Str} {st : Stmt} {f : Addr} {fd : FuncData} {N ps : List Str} {k : Nat} {fs : FS} {dvs : List V} {kws : List (Str × V)} (F : FunD K x qual (defArgs st) (defBody st) (defScope st) dvs kws f fd)
    (Sc : FnScope N ps (defScope st)) (len : ∀ Fs os Post, fs Fs os Post → Fs.length = ps.length) (h : bodyOk P w K mg base qual st N k fs) : Fd P w K mg base (k + 1) f fd ps fs := by
  refine ⟨⟨CX0, ?_, .inl rfl⟩⟩
  refine F.ok Sc (fun vs H Q E q => ?_) (fun cdv A outer s H vs Q E hr q => ?_)
  · obtain ⟨Fs, os, Post, h1, h2, _⟩ := q
    rw [← h2.length]; exact len _ _ _ h1
  · obtain ⟨Fs, os, Post, h1, h2, h3, h4, h5⟩ := q
    refine ⟨_, PSs.nox pss_u, h cdv f A outer s H E hr Fs os Post h1 (L2.start N vs) H _ (ok_start h2 h3 h4) ⟨h5, ?_, fun _ _ _ _ z => z.elim, fun _ _ _ _ z => z.elim⟩⟩
    intro σ' H' Γ' os' p s _
    exact h5 _ H' _ os' p s rfl
end G
namespace G
open PySem L2 TL
/-- what a row makes of a text, step by step -/
inductive Runs : List Lore → List Nat → List Nat → Prop
  | nil {z : List Nat} : Runs [] z z
  | cons {x : Lore} {xs : List Lore} {z r : List Nat} {qs : List Piece} : Flows x.2 x.1 z qs → Runs xs (outQ qs) r → Runs (x :: xs) z r
theorem Runs.uniq {xs : List Lore} {z r : List Nat} (h : Runs xs z r) : ∀ {r' : List Nat}, Runs xs z r' → r = r' := by
  induction h with
  | nil => intro r' h'; cases h'; rfl
  | cons f _ ih =>
    intro r' h'
    cases h' with
    | cons f' h2 => cases f.uniq f'; exact ih h2
theorem Runs.app {xs ys : List Lore} {z r r' : List Nat} (h : Runs xs z r) (h' : Runs ys r r') : Runs (xs ++ ys) z r' := by
  induction h with
  | nil => exact h'
  | cons f _ ih => exact .cons f (ih h')
theorem Flows.len {b : Bool} {ps : List Pr} {z : List Nat} {qs : List Piece} (h : Flows b ps z qs) (hg : GoodP ps) : qs.length ≤ z.length := by
  induction h with
  | nil => exact Nat.le_refl _
  | one _ _ ih => simp only [List.length_cons]; omega
  | @put z i p qs hz _ hp _ ih =>
    have h1 := (hg.at_ hp).1
    have h2 : 0 < z.length := List.length_pos_iff.mpr hz
    rw [List.length_drop] at ih
    simp only [List.length_cons]
    omega
/-- all steps are good -/
def GoodR (xs : List Lore) : Prop := xs.length ≤ 4 ∧ ∀ x ∈ xs, GoodP x.1
/-- a text is short enough for what is to come -/
def Short (n : Nat) (z : List Nat) : Prop := z.length * 3 ^ n ≤ 1000
theorem Short.le {n : Nat} {z : List Nat} (h : Short n z) : z.length ≤ 1000 := Nat.le_trans (Nat.le_mul_of_pos_right _ (Nat.pow_pos (by decide))) h
theorem Short.next {n : Nat} {b : Bool} {ps : List Pr} {z : List Nat} {qs : List Piece} (h : Short (n + 1) z) (f : Flows b ps z qs) (hg : GoodP ps) (h3 : ∀ q ∈ qs, q.2.2.length ≤ 3) : Short n (outQ qs) := by
  have h1 := f.len hg
  have h2 := out_le h3
  have h4 : (outQ qs).length ≤ 3 * z.length := by omega
  have h5 : (outQ qs).length * 3 ^ n ≤ 3 * z.length * 3 ^ n := Nat.mul_le_mul_right _ h4
  have h6 : 3 * z.length * 3 ^ n = z.length * 3 ^ (n + 1) := by rw [Nat.pow_succ, Nat.mul_comm 3, Nat.mul_assoc, Nat.mul_comm 3]
  unfold Short at h ⊢
  omega
theorem Flows.puts {b : Bool} {ps : List Pr} {z : List Nat} {qs : List Piece} (h : Flows b ps z qs) (hg : GoodP ps) : ∀ q ∈ qs, q.2.2.length ≤ 3 := by
  induction h with
  | nil => intro q hq; cases hq
  | one _ _ ih => intro q hq; rcases List.mem_cons.mp hq with e | e; · rw [e]; show 1 ≤ 3; decide
                  · exact ih q e
  | @put z i p qs hz _ hp _ ih => intro q hq; rcases List.mem_cons.mp hq with e | e; · rw [e]; exact (hg.at_ hp).2.2.2.1
                                  · exact ih q e
abbrev OWR : List Str := ["own_steps"]
abbrev fR (R C : Addr) (xs : List Lore) : Fact := fI R OWR [fT (xs.map (fX C))]
def fs_isInt : FS := fun Fs os Post => ∃ i : Int, Fs = [fInt i] ∧ Post (fBl true) os
def fs_between : FS := fun Fs os Post => ∃ i lo hi : Int, Fs = [fInt i, fInt lo, fInt hi] ∧ lo ≤ i ∧ i ≤ hi ∧ Post (fBl true) os
def fs_initR (R C : Addr) : FS := fun Fs os Post => ∃ (o dx : Addr) (xs : List Lore) (os0 : List Own), Fs = [fRef o, fT (xs.map (fX C))] ∧ os = .ins R dx o [] [] :: os0 ∧ xs.length ≤ 4 ∧ Post fNon (.ins R dx o OWR [fT (xs.map (fX C))] :: os0)
def fs_callR (R C : Addr) : FS := fun Fs os Post => ∃ (xs : List Lore) (z : List Nat), Fs = [fR R C xs, fS z] ∧ GoodR xs ∧ Low z ∧ Short xs.length z ∧ ∀ r, Runs xs z r → Low r → r.length ≤ 1000 → Post (fS r) os
def fs_lenR (R C : Addr) : FS := fun Fs os Post => ∃ xs : List Lore, Fs = [fR R C xs] ∧ Post (fInt (xs.length : Int)) os
def fs_piece (R C : Addr) : FS := fun Fs os Post => ∃ (xs : List Lore) (i j : Nat), Fs = [fR R C xs, fInt (i : Int), fInt (j : Int)] ∧ xs.length ≤ 4 ∧ i ≤ j ∧ j ≤ xs.length ∧ Post (fR R C ((xs.drop i).take (j - i))) os
def fs_lores : FS1 := fun Fs o Post => ∃ (l : Addr) (k : Int) (cs : List Nat) (steps most size : Int), Fs = [fRef l, fL (cs.map fC), fInt steps, fInt most, fInt size] ∧ o = potO l k ∧ 0 < cs.length ∧ cs.length < 1000 ∧ 1 ≤ steps ∧ steps ≤ 10 ∧ 1 ≤ most ∧ most ≤ 10 ∧ 1 ≤ size ∧ size ≤ 10 ∧ 0 ≤ k ∧ k ≤ 600000 ∧
  ∀ xs : List Lore, 1 ≤ xs.length → (xs.length : Int) ≤ steps → (∀ x ∈ xs, IsLore cs most size x) → Post (fL (xs.map fLore)) (potO l (k + 3000))
theorem fs_lores_mono : ∀ Fs o P Q, (∀ F o', P F o' → Q F o') → fs_lores Fs o P → fs_lores Fs o Q := fun Fs o P Q h ⟨l, k, cs, st, most, size, a, b, c, d, e, f, g, i, j, m, n, p, q⟩ => ⟨l, k, cs, st, most, size, a, b, c, d, e, f, g, i, j, m, n, p, fun z h1 h2 h3 => h _ _ (q z h1 h2 h3)⟩
def fs_row (R C : Addr) : FS := fun Fs os Post => ∃ xs : List Lore, Fs = [fL (xs.map fLore)] ∧ GoodR xs ∧ Post (fR R C xs) os
def fs_oneBy : FS := fun Fs os Post => ∃ (xs : List Lore) (z : List Nat), Fs = [fL (xs.map fLore), fS z] ∧ GoodR xs ∧ Low z ∧ Short xs.length z ∧ ∀ r, Runs xs z r → Post (fS r) os
theorem lore_good2 {cs : List Nat} {most size : Int} {x : Lore} (hc : IsLetters cs) (h : IsLore cs most size x) (hm : most ≤ 3) (hs : size ≤ 3) : GoodP x.1 := by
  have hl : ∀ c ∈ cs, 97 ≤ c ∧ c ≤ 122 := fun c hc' => by
    rcases hc.2.2.2 c hc' with e | e | e | e | e <;> omega
  refine ⟨h.ne, by have := h.le; omega, fun p hp => ?_, h.nd⟩
  obtain ⟨h1, h2, h3, h4, h5⟩ := h.ok p hp
  exact ⟨h1, by omega, fun c hc => hl c (h3 c hc), by omega, fun c hc => hl c (h5 c hc)⟩
theorem Runs.last {xs : List Lore} {z r w : List Nat} {x : Lore} {qs : List Piece} {i : Nat} (hx : xs[i]? = some x) (f : Flows x.2 x.1 w qs) (h : ∀ r, Runs (xs.drop i) w r → Runs xs z r) : ∀ r, Runs (xs.drop (i + 1)) (outQ qs) r → Runs xs z r := fun r hr => by
  refine h r ?_
  have hi := (List.getElem?_eq_some_iff.mp hx).1
  have e := (List.getElem?_eq_some_iff.mp hx).2
  rw [List.drop_eq_getElem_cons hi, e]
  exact .cons f hr
end G
namespace G
open PySem L2 TL
def fs_textB : FS1 := fun Fs o Post => ∃ (l : Addr) (k : Int) (cs : List Nat) (n : Int), Fs = [fRef l, fL (cs.map fC), fInt n] ∧ o = potO l k ∧ cs.length < 1000 ∧ Low cs ∧ 0 ≤ n ∧ n ≤ 50 ∧ 0 ≤ k ∧ k ≤ 700000 ∧ ∀ w : List Nat, Low w → w.length ≤ n.toNat → Post (fS w) (potO l (k + 100))
theorem fs_textB_mono : ∀ Fs o P Q, (∀ F o', P F o' → Q F o') → fs_textB Fs o P → fs_textB Fs o Q := fun Fs o P Q h ⟨l, k, cs, n, a, b, c, d, e, f, g, i, q⟩ => ⟨l, k, cs, n, a, b, c, d, e, f, g, i, fun w h1 h2 => h _ _ (q w h1 h2)⟩
theorem Short.mono {n m : Nat} {z : List Nat} (h : Short n z) (hm : m ≤ n) : Short m z := Nat.le_trans (Nat.mul_le_mul_left _ (Nat.pow_le_pow_right (by decide) hm)) h
theorem short10 {n : Nat} {z : List Nat} (hz : z.length ≤ 10) (hn : n ≤ 4) : Short n z := by
  have h1 : 3 ^ n ≤ 3 ^ 4 := Nat.pow_le_pow_right (by decide) hn
  have h2 : z.length * 3 ^ n ≤ 10 * 3 ^ 4 := Nat.mul_le_mul hz h1
  unfold Short
  omega
theorem Runs.low {xs : List Lore} {z r : List Nat} (h : Runs xs z r) : ∀ {k : Nat}, (∀ x ∈ xs, GoodP x.1) → Low z → Short (xs.length + k) z → Low r ∧ Short k r := by
  induction h with
  | nil => intro k _ hl hs; exact ⟨hl, by simpa using hs⟩
  | @cons x xs z r qs f _ ih =>
    intro k hg hl hs
    have g := hg x List.mem_cons_self
    refine ih (fun y hy => hg y (List.mem_cons_of_mem _ hy)) (f.low g hl) ?_
    refine Short.next (n := xs.length + k) (by rw [show xs.length + k + 1 = (x :: xs).length + k by simp; omega]; exact hs) f g (f.puts g)
theorem GoodR.piece {xs : List Lore} (h : GoodR xs) (i j : Nat) : GoodR ((xs.drop i).take j) := ⟨by rw [List.length_take, List.length_drop]; have := h.1; omega, fun x hx => h.2 x (List.mem_of_mem_drop (List.mem_of_mem_take hx))⟩
theorem pieces_run {xs : List Lore} {z u v : List Nat} {a : Nat} (ha : a ≤ xs.length) (h1 : Runs ((xs.drop 0).take (a - 0)) z u) (h2 : Runs ((xs.drop a).take (xs.length - a)) u v) : Runs xs z v := by
  rw [List.drop_zero, Nat.sub_zero] at h1
  rw [List.take_of_length_le (by rw [List.length_drop]; exact Nat.le_refl _)] at h2
  have := h1.app h2
  rwa [List.take_append_drop] at this
theorem repr_low {z : List Nat} (h : Low z) (hs : Short 0 z) : (PySem.reprText (ss z)).length ≤ 1000000 := repr_le h (by have := hs.le; omega)
end G
namespace G
open PySem L2
def top (i : Nat) : Stmt := PySem.Challenge.pw_onebyone_k08_whole_rows_one_by_one.main.body.getD i (.Pass ⟨0, 0, 0, 0⟩)

abbrev s_law_pot : Stmt := top 40
theorem sc_law_pot : FnScope ["_law_script", "_law_k", "_law_cell", "_law_own", "_law_small"] ["_law_script", "_law_k"] (defScope s_law_pot) := ⟨rfl, rfl, rfl, by decide +kernel, rfl, by decide +kernel, by decide +kernel⟩

abbrev s_law_take : Stmt := top 41
theorem sc_law_take : FnScope ["_law_pot_here", "_law_upto", "_law_digit", "_law_prime", "_law_mixed"] ["_law_pot_here", "_law_upto"] (defScope s_law_take) := ⟨rfl, rfl, rfl, by decide +kernel, rfl, by decide +kernel, by decide +kernel⟩

abbrev s_law_of : Stmt := top 42
theorem sc_law_of : FnScope ["_law_pot_here", "_law_some_here"] ["_law_pot_here", "_law_some_here"] (defScope s_law_of) := ⟨rfl, rfl, rfl, by decide +kernel, rfl, by decide +kernel, by decide +kernel⟩

abbrev s_law_some : Stmt := top 43
theorem sc_law_some : FnScope ["_law_pot_here", "_law_pool", "_law_many", "_law_left", "_law_found", "_law_turn"] ["_law_pot_here", "_law_pool", "_law_many"] (defScope s_law_some) := ⟨rfl, rfl, rfl, by decide +kernel, rfl, by decide +kernel, by decide +kernel⟩

abbrev s_law_letters : Stmt := top 44
theorem sc_law_letters : FnScope ["_law_pot_here"] ["_law_pot_here"] (defScope s_law_letters) := ⟨rfl, rfl, rfl, by decide +kernel, rfl, by decide +kernel, by decide +kernel⟩

abbrev s_law_word : Stmt := top 45
theorem sc_law_word : FnScope ["_law_pot_here", "_law_letters_here", "_law_most", "_law_turn"] ["_law_pot_here", "_law_letters_here", "_law_most"] (defScope s_law_word) := ⟨rfl, rfl, rfl, by decide +kernel, rfl, by decide +kernel, by decide +kernel⟩

abbrev s_law_put : Stmt := top 46
theorem sc_law_put : FnScope ["_law_pot_here", "_law_letters_here", "_law_most", "_law_turn"] ["_law_pot_here", "_law_letters_here", "_law_most"] (defScope s_law_put) := ⟨rfl, rfl, rfl, by decide +kernel, rfl, by decide +kernel, by decide +kernel⟩

abbrev s_law_lore : Stmt := top 47
theorem sc_law_lore : FnScope ["_law_pot_here", "_law_letters_here", "_law_most", "_law_size", "_law_pairs", "_law_turn", "_law_find", "_law_put_here", "_law_pair"] ["_law_pot_here", "_law_letters_here", "_law_most", "_law_size"] (defScope s_law_lore) := ⟨rfl, rfl, rfl, by decide +kernel, rfl, by decide +kernel, by decide +kernel⟩

abbrev s_law_exchange : Stmt := top 49
theorem sc_law_exchange : FnScope ["_law_lore_here"] ["_law_lore_here"] (defScope s_law_exchange) := ⟨rfl, rfl, rfl, by decide +kernel, rfl, by decide +kernel, by decide +kernel⟩

abbrev s_law_pair_at : Stmt := top 51
theorem sc_law_pair_at : FnScope ["_law_lore_here", "_law_rest", "_law_numbers", "_law_sizes", "_law_at", "_law_pair", "_law_size"] ["_law_lore_here", "_law_rest"] (defScope s_law_pair_at) := ⟨rfl, rfl, rfl, by decide +kernel, rfl, by decide +kernel, by decide +kernel⟩

abbrev s_law_at_once : Stmt := top 52
theorem sc_law_at_once : FnScope ["_law_lore_here", "_law_text_here", "_law_found", "_law_at", "_law_pair", "_law_number"] ["_law_lore_here", "_law_text_here"] (defScope s_law_at_once) := ⟨rfl, rfl, rfl, by decide +kernel, rfl, by decide +kernel, by decide +kernel⟩

abbrev s_law_text : Stmt := top 54
theorem sc_law_text : FnScope ["_law_pot_here", "_law_letters_here", "_law_most", "_law_some_here", "_law_turn"] ["_law_pot_here", "_law_letters_here", "_law_most"] (defScope s_law_text) := ⟨rfl, rfl, rfl, by decide +kernel, rfl, by decide +kernel, by decide +kernel⟩

abbrev s_law_lores : Stmt := top 48
theorem sc_law_lores : FnScope ["_law_pot_here", "_law_letters_here", "_law_steps", "_law_most", "_law_size", "_law_turn"] ["_law_pot_here", "_law_letters_here", "_law_steps", "_law_most", "_law_size"] (defScope s_law_lores) := ⟨rfl, rfl, rfl, by decide +kernel, rfl, by decide +kernel, by decide +kernel⟩

abbrev s_law_row : Stmt := top 50
theorem sc_law_row : FnScope ["_law_lores_here", "_law_lore_here"] ["_law_lores_here"] (defScope s_law_row) := ⟨rfl, rfl, rfl, by decide +kernel, rfl, by decide +kernel, by decide +kernel⟩

abbrev s_law_one_by_one : Stmt := top 53
theorem sc_law_one_by_one : FnScope ["_law_lores_here", "_law_text_here", "_law_lore_here"] ["_law_lores_here", "_law_text_here"] (defScope s_law_one_by_one) := ⟨rfl, rfl, rfl, by decide +kernel, rfl, by decide +kernel, by decide +kernel⟩

abbrev s_law_row_right : Stmt := top 55
theorem sc_law_row_right : FnScope ["_law_pot_here", "_law_letters_here", "_law_lores_here", "_law_row_here", "_law_at", "_law_turn", "_law_text_here", "_law_first", "_law_last"] ["_law_pot_here"] (defScope s_law_row_right) := ⟨rfl, rfl, rfl, by decide +kernel, rfl, by decide +kernel, by decide +kernel⟩

abbrev s_law_right : Stmt := top 56
theorem sc_law_right : FnScope ["_law_pot_here", "_law_turn"] ["_law_pot_here"] (defScope s_law_right) := ⟨rfl, rfl, rfl, by decide +kernel, rfl, by decide +kernel, by decide +kernel⟩

abbrev s_law : Stmt := top 57
theorem sc_law : FnScope ["_law_script", "_law_k"] ["_law_script"] (defScope s_law) := ⟨rfl, rfl, rfl, by decide +kernel, rfl, by decide +kernel, by decide +kernel⟩

abbrev s_is_tuple : Stmt := top 13
theorem sc_is_tuple : FnScope ["value", "many"] ["value", "many"] (defScope s_is_tuple) := ⟨rfl, rfl, rfl, by decide +kernel, rfl, by decide +kernel, by decide +kernel⟩

abbrev s_is_text : Stmt := top 14
theorem sc_is_text : FnScope ["value", "letter"] ["value"] (defScope s_is_text) := ⟨rfl, rfl, rfl, by decide +kernel, rfl, by decide +kernel, by decide +kernel⟩

abbrev s_is_put : Stmt := top 15
theorem sc_is_put : FnScope ["value"] ["value"] (defScope s_is_put) := ⟨rfl, rfl, rfl, by decide +kernel, rfl, by decide +kernel, by decide +kernel⟩

abbrev s_is_word : Stmt := top 16
theorem sc_is_word : FnScope ["value"] ["value"] (defScope s_is_word) := ⟨rfl, rfl, rfl, by decide +kernel, rfl, by decide +kernel, by decide +kernel⟩

abbrev s_check_text : Stmt := top 17
theorem sc_check_text : FnScope ["value"] ["value"] (defScope s_check_text) := ⟨rfl, rfl, rfl, by decide +kernel, rfl, by decide +kernel, by decide +kernel⟩

abbrev s_first_at : Stmt := top 22
theorem sc_first_at : FnScope ["exchange", "rest", "is_end", "number", "find", "put"] ["exchange", "rest", "is_end"] (defScope s_first_at) := ⟨rfl, rfl, rfl, by decide +kernel, rfl, by decide +kernel, by decide +kernel⟩

abbrev s_longest_at : Stmt := top 23
theorem sc_longest_at : FnScope ["exchange", "rest", "is_end", "best", "size", "number", "find", "put"] ["exchange", "rest", "is_end"] (defScope s_longest_at) := ⟨rfl, rfl, rfl, by decide +kernel, rfl, by decide +kernel, by decide +kernel⟩

abbrev s_flow : Stmt := top 24
theorem sc_flow : FnScope ["exchange", "letters", "is_end", "small", "pieces", "at", "look", "number", "find", "put"] ["exchange", "letters", "is_end"] (defScope s_flow) := ⟨rfl, rfl, rfl, by decide +kernel, rfl, by decide +kernel, by decide +kernel⟩

abbrev s_joined : Stmt := top 25
theorem sc_joined : FnScope ["pieces", "number", "found", "written"] ["pieces"] (defScope s_joined) := ⟨rfl, rfl, rfl, by decide +kernel, rfl, by decide +kernel, by decide +kernel⟩

abbrev s_are_pairs : Stmt := top 33
theorem sc_are_pairs : FnScope ["value", "pair", "find", "put"] ["value"] (defScope s_are_pairs) := ⟨rfl, rfl, rfl, by decide +kernel, rfl, by decide +kernel, by decide +kernel⟩

abbrev s_is_integer : Stmt := top 11
theorem sc_is_integer : FnScope ["value"] ["value"] (defScope s_is_integer) := ⟨rfl, rfl, rfl, by decide +kernel, rfl, by decide +kernel, by decide +kernel⟩

abbrev s_is_between : Stmt := top 12
theorem sc_is_between : FnScope ["value", "low", "high"] ["value", "low", "high"] (defScope s_is_between) := ⟨rfl, rfl, rfl, by decide +kernel, rfl, by decide +kernel, by decide +kernel⟩

structure Txt (K : PySem.W.Frag) (mg : Str → Option Value) : Prop where
  d_law_pot : DefIn K mg "_law_pot" "_law_pot" s_law_pot ["_law_script", "_law_k"]
  d_law_take : DefIn K mg "_law_take" "_law_take" s_law_take ["_law_pot_here", "_law_upto"]
  d_law_of : DefIn K mg "_law_of" "_law_of" s_law_of ["_law_pot_here", "_law_some_here"]
  d_law_some : DefIn K mg "_law_some" "_law_some" s_law_some ["_law_pot_here", "_law_pool", "_law_many"]
  d_law_letters : DefIn K mg "_law_letters" "_law_letters" s_law_letters ["_law_pot_here"]
  d_law_word : DefIn K mg "_law_word" "_law_word" s_law_word ["_law_pot_here", "_law_letters_here", "_law_most"]
  d_law_put : DefIn K mg "_law_put" "_law_put" s_law_put ["_law_pot_here", "_law_letters_here", "_law_most"]
  d_law_lore : DefIn K mg "_law_lore" "_law_lore" s_law_lore ["_law_pot_here", "_law_letters_here", "_law_most", "_law_size"]
  d_law_exchange : DefIn K mg "_law_exchange" "_law_exchange" s_law_exchange ["_law_lore_here"]
  d_law_pair_at : DefIn K mg "_law_pair_at" "_law_pair_at" s_law_pair_at ["_law_lore_here", "_law_rest"]
  d_law_at_once : DefIn K mg "_law_at_once" "_law_at_once" s_law_at_once ["_law_lore_here", "_law_text_here"]
  d_law_text : DefIn K mg "_law_text" "_law_text" s_law_text ["_law_pot_here", "_law_letters_here", "_law_most"]
  d_law_lores : DefIn K mg "_law_lores" "_law_lores" s_law_lores ["_law_pot_here", "_law_letters_here", "_law_steps", "_law_most", "_law_size"]
  d_law_row : DefIn K mg "_law_row" "_law_row" s_law_row ["_law_lores_here"]
  d_law_one_by_one : DefIn K mg "_law_one_by_one" "_law_one_by_one" s_law_one_by_one ["_law_lores_here", "_law_text_here"]
  d_law_row_right : DefIn K mg "_law_row_right" "_law_row_right" s_law_row_right ["_law_pot_here"]
  d_law_right : DefIn K mg "_law_right" "_law_right" s_law_right ["_law_pot_here"]
  d_is_tuple : DefIn K mg "is_tuple" "is_tuple" s_is_tuple ["value", "many"]
  d_is_text : DefIn K mg "is_text" "is_text" s_is_text ["value"]
  d_is_put : DefIn K mg "is_put" "is_put" s_is_put ["value"]
  d_is_word : DefIn K mg "is_word" "is_word" s_is_word ["value"]
  d_check_text : DefIn K mg "check_text" "check_text" s_check_text ["value"]
  d_first_at : DefIn K mg "first_at" "first_at" s_first_at ["exchange", "rest", "is_end"]
  d_longest_at : DefIn K mg "longest_at" "longest_at" s_longest_at ["exchange", "rest", "is_end"]
  d_flow : DefIn K mg "flow" "flow" s_flow ["exchange", "letters", "is_end"]
  d_joined : DefIn K mg "joined" "joined" s_joined ["pieces"]
  d_are_pairs : DefIn K mg "are_pairs" "are_pairs" s_are_pairs ["value"]
  d_is_integer : DefIn K mg "is_integer" "is_integer" s_is_integer ["value"]
  d_is_between : DefIn K mg "is_between" "is_between" s_is_between ["value", "low", "high"]
  c_LETTERS : ∃ t, mg "LETTERS" = some (.str "abcdefghijklmnopqrstuvwxyz" t)
  c_MOST_LETTERS : ∃ t, mg "MOST_LETTERS" = some (.int 3 t)
  c_FIRST : ∃ t, mg "FIRST" = some (.str "first" t)
  c_LONGEST : ∃ t, mg "LONGEST" = some (.str "longest" t)
  c_OPEN : ∃ t, mg "OPEN" = some (.int (-1) t)
  c_PAIR : ∃ t, mg "PAIR" = some (.int 2 t)
  c_MOST_PAIRS : ∃ t, mg "MOST_PAIRS" = some (.int 3 t)
  c_MOST_STEPS : ∃ t, mg "MOST_STEPS" = some (.int 4 t)
  n_int : mg "int" = none
  n_len : mg "len" = none
  n_abs : mg "abs" = none
  n_max : mg "max" = none
  n_min : mg "min" = none
  n_range : mg "range" = none
  n_all : mg "all" = none
  n_list : mg "list" = none
  n_tuple : mg "tuple" = none
  n_repr : mg "repr" = none
  n_enumerate : mg "enumerate" = none
  n_isinstance : mg "isinstance" = none
  n_set : mg "set" = none
  n_str : mg "str" = none
  n_bool : mg "bool" = none

end G
namespace G
open PySem L2 TL

local macro_rules | `(tactic| walk_at "mem") => `(tactic| (first | exact List.mem_cons_self | exact List.mem_cons_of_mem _ List.mem_cons_self | exact List.mem_cons_of_mem _ (List.mem_cons_of_mem _ List.mem_cons_self) | exact List.mem_cons_of_mem _ (List.mem_cons_of_mem _ (List.mem_cons_of_mem _ List.mem_cons_self))))
local macro_rules | `(tactic| walk_at "o_isinstance") => `(tactic| (first | refine o_isi (r := true) tyf_S (by decide +kernel) ?_ | refine o_isi (r := true) tyf_T (by decide +kernel) ?_ | refine o_isi (r := true) tyf_L (by decide +kernel) ?_ | refine o_isi (r := true) tyf_I (by decide +kernel) ?_ | refine o_isi (r := true) tyf_B (by decide +kernel) ?_ | refine o_isi (r := false) tyf_S (by decide +kernel) ?_ | refine o_isi (r := false) tyf_T (by decide +kernel) ?_ | refine o_isi (r := false) tyf_L (by decide +kernel) ?_ | refine o_isi (r := false) tyf_I (by decide +kernel) ?_ | refine o_isi (r := false) tyf_B (by decide +kernel) ?_))
local macro_rules | `(tactic| walk_at "o_startswith") => `(tactic| (refine o_starts ?_; rw [starts_ss]))
local macro_rules | `(tactic| walk_at "sz") => `(tactic| (first | omega | (simp <;> omega) | decide))
local macro_rules | `(tactic| walk_at "len") => `(tactic| (first | decide | omega | (simp only [List.length_map]; omega) | (simp; done) | (simp; omega)))
local macro_rules | `(tactic| walk_at "num") => `(tactic| (first | omega | (simp <;> omega) | decide))
local macro_rules | `(tactic| walk_at "o_add") => `(tactic| (first | refine o_add_int ?_ | refine o_add_str (by walk_at "sz") ?_ | refine o_add_lst (by walk_at "sz") ?_ | refine o_add_tup (by walk_at "sz") ?_))
local macro_rules | `(tactic| walk_at "o_iadd") => `(tactic| (first | refine o_iadd_int ?_ | refine o_iadd_str (by walk_at "sz") ?_))
local macro_rules | `(tactic| walk_at "o_sub") => `(tactic| refine o_sub ?_)
local macro_rules | `(tactic| walk_at "o_mul") => `(tactic| refine o_mul (by first | exact .inl (by omega) | exact .inr (by omega)) ?_)
local macro_rules | `(tactic| walk_at "o_mod") => `(tactic| refine o_mod (by first | omega | decide) ?_)
local macro_rules | `(tactic| walk_at "o_eq") => `(tactic| (first | refine o_eq_str ?_ | refine o_eq_int ?_ | refine o_eq_bl ?_))
local macro_rules | `(tactic| walk_at "o_ne") => `(tactic| (first | refine o_ne_str ?_ | refine o_ne_int ?_ | refine o_ne_bl ?_))
local macro_rules | `(tactic| walk_at "o_lt") => `(tactic| refine o_lt ?_)
local macro_rules | `(tactic| walk_at "o_le") => `(tactic| refine o_le ?_)
local macro_rules | `(tactic| walk_at "o_gt") => `(tactic| refine o_gt ?_)
local macro_rules | `(tactic| walk_at "o_ge") => `(tactic| refine o_ge ?_)
local macro_rules | `(tactic| walk_at "o_int") => `(tactic| (first | refine o_int_i ?_ | refine o_int_b ?_))
local macro_rules | `(tactic| walk_at "o_len") => `(tactic| (first | refine o_len_L ?_ | refine o_len_T ?_ | refine o_len_S (by walk_at "sz") ?_ | refine o_len_scr ?_))
local macro_rules | `(tactic| walk_at "o_abs") => `(tactic| refine o_abs ?_)
local macro_rules | `(tactic| walk_at "o_max") => `(tactic| refine o_max2 ?_)
local macro_rules | `(tactic| walk_at "o_min") => `(tactic| refine o_min2 ?_)
local macro_rules | `(tactic| walk_at "ty") => `(tactic| (first | exact ty_str | exact ty_L | exact ty_own List.mem_cons_self | exact ty_own (List.mem_cons_of_mem _ List.mem_cons_self) | exact ty_own (List.mem_cons_of_mem _ (List.mem_cons_of_mem _ List.mem_cons_self))))

theorem prime_at (c : Int) : ∃ v : Int, atI [fInt 2147483647, fInt 2147483629, fInt 2147483587, fInt 2147483579, fInt 2147483563] (c % 5) = some (fInt v) ∧ 2147483562 < v ∧ v < 2147483648 := by
  have h0 : 0 ≤ c % 5 := Int.emod_nonneg _ (by decide)
  have h1 : c % 5 < 5 := Int.emod_lt_of_pos _ (by decide)
  rcases (show c % 5 = 0 ∨ c % 5 = 1 ∨ c % 5 = 2 ∨ c % 5 = 3 ∨ c % 5 = 4 by omega) with e | e | e | e | e <;> rw [e] <;> exact ⟨_, rfl, by decide, by decide⟩
theorem pot_sq {c d k : Int} (h : 0 ≤ c ∧ c ≤ k) (h' : 0 ≤ d ∧ d ≤ k) (hk : k ≤ 1000001) : 0 ≤ 104801 * c * d ∧ 104801 * c * d ≤ 1000000000000000000 := by
  refine ⟨Int.mul_nonneg (by omega) h'.1, ?_⟩
  have h1 : 104801 * c * d ≤ 104801 * 1000001 * 1000001 := Int.mul_le_mul (by omega) (by omega) h'.1 (by omega)
  omega
theorem ok_take {P : Program} {w : World} {K : PySem.W.Frag} {mg : Str → Option Value} {base : Heap} (T : Txt K mg) : Df P w K mg base 2 "_law_take" ["_law_pot_here", "_law_upto"] (fsI fs_take) := by
  refine df_okI T.d_law_take sc_law_take fs_take_mono (fun Fs o Post ⟨l, n, k, e, _⟩ => by rw [e]; rfl) ?_
  rintro cdv f A outer s H XE hr Fs os Post ⟨o, os0, rfl, l, n, k, rfl, rfl, h0, h1, hk0, hk1, kP⟩
  refine s_cons ?_
  refine s1_if ?_
  refine t_cmp op_gt (nomark _) ?_
  refine E.sub ?_
  refine e_ix ix_seq (fun _ _ => rfl) ?_
  refine e_var 0 rfl (.inl rfl) rfl ?_
  refine e_int ?_
  refine o_ix_own List.mem_cons_self rfl ?_
  refine ⟨_, rfl, fun a ha => ?_⟩
  refine e_int ?_
  walk_at "o_gt"
  refine ⟨_, rfl, ?_⟩
  refine ⟨fun b0 => ?_, fun b0 => ?_⟩
  · skip
    clear b0
    refine s_cons ?_
    refine s1_set 2 sc_law_take.nd rfl (.inl rfl) ?_
    refine e_bin op_mod ?_
    refine e_callTy call_int' rfl T.n_int (by decide +kernel) ?_
    refine a_cons ?_
    refine E.sub ?_
    refine e_ix ix_seq (fun _ _ => rfl) ?_
    refine e_var 0 rfl (.inl rfl) rfl ?_
    refine e_int ?_
    refine o_ix_own List.mem_cons_self rfl ?_
    refine ⟨_, rfl, fun a ha => ?_⟩
    refine a_nil ?_
    walk_at "o_int"
    refine e_var 1 rfl (.inl rfl) rfl ?_
    refine o_modL (by omega) fun m hm0 hm1 => ?_
    refine s_cons ?_
    refine s1_setO 0 ?_
    refine e_bin op_fdivW ?_
    refine E.sub ?_
    refine e_ix ix_seq (fun _ _ => rfl) ?_
    refine e_var 0 rfl (.inl rfl) rfl ?_
    refine e_int ?_
    refine o_ix_own List.mem_cons_self rfl ?_
    refine ⟨_, rfl, fun a ha => ?_⟩
    refine e_var 1 rfl (.inl rfl) rfl ?_
    refine o_div (wide_div h0 (b := 20) (by omega) (by decide) (by decide)) ?_
    refine e_var 0 rfl (.inl rfl) rfl ?_
    refine e_int ?_
    refine ⟨_, _, _, _, rfl, rfl, rfl, rfl, ?_⟩
    refine S.put 0 rfl (Gs := [fNn, fSm, fCt (k + 1)]) (.cons (Fle.nn (div_nn ha h0)) (.cons Fle.refl (.cons (Fle.ct2 (by omega)) .nil))) ?_
    refine s_cons ?_
    refine s1_ret ?_
    refine e_var 2 rfl (.inl rfl) rfl ?_
    exact kP _ (by omega) (by omega) rfl
  · skip
    clear b0
    refine s_nil ?_
    refine s_cons ?_
    refine s1_setO 0 ?_
    refine e_bin op_addU ?_
    refine E.sub ?_
    refine e_ix ix_seq (fun _ _ => rfl) ?_
    refine e_var 0 rfl (.inl rfl) rfl ?_
    refine e_int ?_
    refine o_ix_own List.mem_cons_self rfl ?_
    refine ⟨_, rfl, fun c hc => ?_⟩
    refine e_int ?_
    walk_at "o_add"
    refine e_var 0 rfl (.inl rfl) rfl ?_
    refine e_int ?_
    refine ⟨_, _, _, _, rfl, rfl, rfl, rfl, ?_⟩
    refine S.put 0 rfl (Gs := [fNn, fSm, fCt (k + 1)]) (.cons Fle.refl (.cons Fle.refl (.cons (Fle.ct (by omega)) .nil))) ?_
    refine s_cons ?_
    refine s1_set 3 sc_law_take.nd rfl (.inl rfl) ?_
    refine e_ix ix_seq (fun _ _ => rfl) ?_
    refine e_lst ?_
    refine a_cons ?_
    refine e_int ?_
    refine a_cons ?_
    refine e_int ?_
    refine a_cons ?_
    refine e_int ?_
    refine a_cons ?_
    refine e_int ?_
    refine a_cons ?_
    refine e_int ?_
    refine a_nil ?_
    refine ⟨by first | decide | (simp; done), ?_⟩
    refine e_bin op_mod ?_
    refine e_callTy call_int' rfl T.n_int (by decide +kernel) ?_
    refine a_cons ?_
    refine E.sub ?_
    refine e_ix ix_seq (fun _ _ => rfl) ?_
    refine e_var 0 rfl (.inl rfl) rfl ?_
    refine e_int ?_
    refine o_ix_own List.mem_cons_self rfl ?_
    refine ⟨_, rfl, fun c1 hc1 => ?_⟩
    refine a_nil ?_
    walk_at "o_int"
    refine e_int ?_
    refine o_mod (by decide) ?_
    obtain ⟨pr, hpr, hp1, hp2⟩ := prime_at c1
    refine o_ix_L hpr ?_
    refine s_cons ?_
    refine s1_set 4 sc_law_take.nd rfl (.inl rfl) ?_
    refine e_bin op_mod ?_
    refine e_callTy call_int' rfl T.n_int (by decide +kernel) ?_
    refine a_cons ?_
    refine e_bin op_powW ?_
    refine e_callTy call_int' rfl T.n_int (by decide +kernel) ?_
    refine a_cons ?_
    refine e_bin op_addU ?_
    refine e_bin op_addU ?_
    refine E.sub ?_
    refine e_ix ix_seq (fun _ _ => rfl) ?_
    refine e_var 0 rfl (.inl rfl) rfl ?_
    refine e_int ?_
    refine o_ix_own List.mem_cons_self rfl ?_
    refine ⟨_, rfl, fun b hb => ?_⟩
    refine e_bin op_mul ?_
    refine e_bin op_mul ?_
    refine e_int ?_
    refine E.sub ?_
    refine e_ix ix_seq (fun _ _ => rfl) ?_
    refine e_var 0 rfl (.inl rfl) rfl ?_
    refine e_int ?_
    refine o_ix_own List.mem_cons_self rfl ?_
    refine ⟨_, rfl, fun c2 hc2 => ?_⟩
    refine o_mul (.inl (by omega)) ?_
    refine E.sub ?_
    refine e_ix ix_seq (fun _ _ => rfl) ?_
    refine e_var 0 rfl (.inl rfl) rfl ?_
    refine e_int ?_
    refine o_ix_own List.mem_cons_self rfl ?_
    refine ⟨_, rfl, fun c3 hc3 => ?_⟩
    have hcc := pot_sq (c := c2) (d := c3) (k := k + 1) hc2 hc3 (by omega)
    refine o_mul (.inl (by omega)) ?_
    walk_at "o_add"
    refine e_int ?_
    walk_at "o_add"
    refine a_nil ?_
    walk_at "o_int"
    refine e_int ?_
    refine o_pow (pow3 (by omega) (by omega)) ?_
    refine a_nil ?_
    walk_at "o_int"
    refine e_var 3 rfl (.inl rfl) rfl ?_
    refine o_modL (by omega) fun m hm0 hm1 => ?_
    refine s_cons ?_
    refine s1_set 4 sc_law_take.nd rfl (.inl rfl) ?_
    refine e_bin op_mod ?_
    refine e_callTy call_int' rfl T.n_int (by decide +kernel) ?_
    refine a_cons ?_
    refine e_bin op_mul ?_
    refine e_var 4 rfl (.inl rfl) rfl ?_
    refine e_bin op_addU ?_
    refine e_bin op_mod ?_
    refine e_callTy call_int' rfl T.n_int (by decide +kernel) ?_
    refine a_cons ?_
    refine e_var 4 rfl (.inl rfl) rfl ?_
    refine a_nil ?_
    walk_at "o_int"
    refine e_int ?_
    refine o_modL (by omega) fun m hm0 hm1 => ?_
    refine e_bin op_mul ?_
    refine e_int ?_
    refine E.sub ?_
    refine e_ix ix_seq (fun _ _ => rfl) ?_
    refine e_var 0 rfl (.inl rfl) rfl ?_
    refine e_int ?_
    refine o_ix_own List.mem_cons_self rfl ?_
    refine ⟨_, rfl, fun c4 hc4 => ?_⟩
    refine o_mul (.inl (by omega)) ?_
    walk_at "o_add"
    refine o_mul (.inl (by omega)) ?_
    refine a_nil ?_
    walk_at "o_int"
    refine e_int ?_
    refine o_modL (by omega) fun m hm0 hm1 => ?_
    refine s_cons ?_
    refine s1_ret ?_
    refine e_bin op_mod ?_
    refine e_callTy call_int' rfl T.n_int (by decide +kernel) ?_
    refine a_cons ?_
    refine e_bin op_fdivW ?_
    refine e_var 4 rfl (.inl rfl) rfl ?_
    refine e_int ?_
    refine o_div (wide_div (by decide) (b := 20) (by decide) (by decide) (by decide)) ?_
    refine a_nil ?_
    walk_at "o_int"
    refine e_var 1 rfl (.inl rfl) rfl ?_
    refine o_modL (by omega) fun m hm0 hm1 => ?_
    exact kP _ (by omega) (by omega) rfl
theorem ok_of {P : Program} {w : World} {K : PySem.W.Frag} {mg : Str → Option Value} {base : Heap} (T : Txt K mg) (D__law_take : Df P w K mg base 2 "_law_take" ["_law_pot_here", "_law_upto"] (fsI fs_take)) :
    Df P w K mg base 3 "_law_of" ["_law_pot_here", "_law_some_here"] (fsI fs_of) := by
  refine df_okI T.d_law_of sc_law_of fs_of_mono (fun Fs o Post ⟨l, k, Gs, e, _⟩ => by rw [e]; rfl) ?_
  rintro cdv f A outer s H XE hr Fs os Post ⟨o, os0, rfl, l, k, Gs, rfl, rfl, h0, h1, hk0, hk1, kP⟩
  refine s_cons ?_
  refine s1_ret ?_
  refine e_ix ix_seq (fun _ _ => rfl) ?_
  refine e_var 1 rfl (.inl rfl) rfl ?_
  refine e_call D__law_take (hr.mono (by decide)) rfl ?_
  refine a_cons ?_
  refine e_var 0 rfl (.inl rfl) rfl ?_
  refine a_cons ?_
  refine e_callB call_lenU rfl T.n_len (by decide +kernel) ?_
  refine a_cons ?_
  refine e_var 1 rfl (.inl rfl) rfl ?_
  refine a_nil ?_
  walk_at "o_len"
  refine a_nil ?_
  refine ⟨_, 0, rfl, l, _, k, rfl, rfl, by omega, by omega, hk0, hk1, fun m hm0 hm1 _ => ?_⟩
  obtain ⟨G, hG⟩ := list_at Gs hm0 hm1
  refine o_ix_L hG ?_
  exact kP _ (mem_at hG) rfl

end G
namespace G
open PySem L2 TL

local macro_rules | `(tactic| walk_at "mem") => `(tactic| (first | exact List.mem_cons_self | exact List.mem_cons_of_mem _ List.mem_cons_self | exact List.mem_cons_of_mem _ (List.mem_cons_of_mem _ List.mem_cons_self) | exact List.mem_cons_of_mem _ (List.mem_cons_of_mem _ (List.mem_cons_of_mem _ List.mem_cons_self))))
local macro_rules | `(tactic| walk_at "o_isinstance") => `(tactic| (first | refine o_isi (r := true) tyf_S (by decide +kernel) ?_ | refine o_isi (r := true) tyf_T (by decide +kernel) ?_ | refine o_isi (r := true) tyf_L (by decide +kernel) ?_ | refine o_isi (r := true) tyf_I (by decide +kernel) ?_ | refine o_isi (r := true) tyf_B (by decide +kernel) ?_ | refine o_isi (r := false) tyf_S (by decide +kernel) ?_ | refine o_isi (r := false) tyf_T (by decide +kernel) ?_ | refine o_isi (r := false) tyf_L (by decide +kernel) ?_ | refine o_isi (r := false) tyf_I (by decide +kernel) ?_ | refine o_isi (r := false) tyf_B (by decide +kernel) ?_))
local macro_rules | `(tactic| walk_at "o_startswith") => `(tactic| (refine o_starts ?_; rw [starts_ss]))
local macro_rules | `(tactic| walk_at "sz") => `(tactic| (first | omega | (simp <;> omega) | decide))
local macro_rules | `(tactic| walk_at "len") => `(tactic| (first | decide | omega | (simp only [List.length_map]; omega) | (simp; done) | (simp; omega)))
local macro_rules | `(tactic| walk_at "num") => `(tactic| (first | omega | (simp <;> omega) | decide))
local macro_rules | `(tactic| walk_at "o_add") => `(tactic| (first | refine o_add_int ?_ | refine o_add_str (by walk_at "sz") ?_ | refine o_add_lst (by walk_at "sz") ?_ | refine o_add_tup (by walk_at "sz") ?_))
local macro_rules | `(tactic| walk_at "o_iadd") => `(tactic| (first | refine o_iadd_int ?_ | refine o_iadd_str (by walk_at "sz") ?_))
local macro_rules | `(tactic| walk_at "o_sub") => `(tactic| refine o_sub ?_)
local macro_rules | `(tactic| walk_at "o_mul") => `(tactic| refine o_mul (by first | exact .inl (by omega) | exact .inr (by omega)) ?_)
local macro_rules | `(tactic| walk_at "o_mod") => `(tactic| refine o_mod (by first | omega | decide) ?_)
local macro_rules | `(tactic| walk_at "o_eq") => `(tactic| (first | refine o_eq_str ?_ | refine o_eq_int ?_ | refine o_eq_bl ?_))
local macro_rules | `(tactic| walk_at "o_ne") => `(tactic| (first | refine o_ne_str ?_ | refine o_ne_int ?_ | refine o_ne_bl ?_))
local macro_rules | `(tactic| walk_at "o_lt") => `(tactic| refine o_lt ?_)
local macro_rules | `(tactic| walk_at "o_le") => `(tactic| refine o_le ?_)
local macro_rules | `(tactic| walk_at "o_gt") => `(tactic| refine o_gt ?_)
local macro_rules | `(tactic| walk_at "o_ge") => `(tactic| refine o_ge ?_)
local macro_rules | `(tactic| walk_at "o_int") => `(tactic| (first | refine o_int_i ?_ | refine o_int_b ?_))
local macro_rules | `(tactic| walk_at "o_len") => `(tactic| (first | refine o_len_L ?_ | refine o_len_T ?_ | refine o_len_S (by walk_at "sz") ?_ | refine o_len_scr ?_))
local macro_rules | `(tactic| walk_at "o_abs") => `(tactic| refine o_abs ?_)
local macro_rules | `(tactic| walk_at "o_max") => `(tactic| refine o_max2 ?_)
local macro_rules | `(tactic| walk_at "o_min") => `(tactic| refine o_min2 ?_)
local macro_rules | `(tactic| walk_at "ty") => `(tactic| (first | exact ty_str | exact ty_L | exact ty_own List.mem_cons_self | exact ty_own (List.mem_cons_of_mem _ List.mem_cons_self) | exact ty_own (List.mem_cons_of_mem _ (List.mem_cons_of_mem _ List.mem_cons_self))))

theorem perm_pop {α : Type} {ys rest : List α} {m : Nat} {y : α} (hy : rest[m]? = some y) : ((ys ++ [y]) ++ rest.eraseIdx m).Perm (ys ++ rest) := by
  rw [List.append_assoc]
  refine List.Perm.append_left ys ?_
  have hl := (List.getElem?_eq_some_iff.mp hy).1
  have e := (List.getElem?_eq_some_iff.mp hy).2
  have e2 : rest = rest.take m ++ y :: rest.drop (m + 1) := by rw [← e, List.getElem_cons_drop, List.take_append_drop]
  rw [List.eraseIdx_eq_take_drop_succ]
  conv => rhs; rw [e2]
  exact (List.perm_middle (l₁ := rest.take m)).symm
theorem map_erase {α β : Type} (f : α → β) : ∀ (xs : List α) (k : Nat), (xs.eraseIdx k).map f = (xs.map f).eraseIdx k
  | [], _ => rfl
  | x :: xs, 0 => rfl
  | x :: xs, k + 1 => by simp [map_erase f xs k]
theorem ok_some {P : Program} {w : World} {K : PySem.W.Frag} {mg : Str → Option Value} {base : Heap} (T : Txt K mg) (D__law_take : Df P w K mg base 2 "_law_take" ["_law_pot_here", "_law_upto"] (fsI fs_take)) : Df P w K mg base 3 "_law_some" ["_law_pot_here", "_law_pool", "_law_many"] (fsI fs_some) := by
  refine df_okI T.d_law_some sc_law_some fs_some_mono (fun Fs o Post ⟨l, k, zs, n, e, _⟩ => by rw [e]; rfl) ?_
  rintro cdv f A outer s H XE hr Fs os Post ⟨o, os0, rfl, l, k, zs, n, rfl, rfl, h0, h1, h2, hk0, hk1, kP⟩
  refine s_cons ?_
  refine s1_par (i := 3) (j := 4) rfl sc_law_some.nd rfl rfl (by decide) rfl rfl rfl rfl ?_
  refine a_cons ?_
  refine e_callTy call_listU rfl T.n_list (by decide +kernel) ?_
  refine a_cons ?_
  refine e_var 1 rfl (.inl rfl) rfl ?_
  refine a_nil ?_
  refine o_list_LO fun l1 => ?_
  refine a_cons ?_
  refine e_lstO ?_
  refine a_nil ?_
  refine ⟨by first | decide | (simp; done), fun l0 => ?_⟩
  refine a_nil ?_
  refine ⟨_, _,  rfl, ?_⟩
  refine s_cons ?_
  refine s1_for [5] PassesOwn.never rfl ?_
  refine wk_range1 rfl T.n_range ?_
  refine a_cons ?_
  refine e_var 2 rfl (.inl rfl) rfl ?_
  refine a_nil ?_
  refine ⟨_, rfl, by omega, by omega, ?_⟩
  refine ⟨fun i Γ' os' => ∃ (g : Option Fact) (ys rest : List Str), Γ' = [some (fRef l), some (fL (zs.map fStr)), some (fInt n), some (fRef l1), some (fRef l0), g] ∧ os' = .lst l0 (ys.map fStr) :: .lst l1 (rest.map fStr) :: potO l (k + i) :: os0 ∧ (ys ++ rest).Perm zs ∧ ys.length = i, ⟨none, [], zs, rfl, by rw [show k + ((0 : Nat) : Int) = k by omega]; rfl, List.Perm.refl _, rfl⟩, ?_, ?_⟩
  · skip
    rintro i F Γ' os' hF ⟨g, ys, rest, rfl, rfl, hp, hl⟩
    obtain ⟨hi, rfl⟩ := irange_at hF
    have hpl := hp.length_eq
    rw [List.length_append] at hpl
    refine g_name 5 sc_law_some.nd rfl (.inl rfl) (by decide) ?_
    refine s_cons ?_
    refine s1_expr ?_
    refine e_bm PySem.F.plainAttrs_list PySem.F.slot_list_append PySem.F.type_list_append mt_append ?_
    refine e_var 4 rfl (.inl rfl) rfl ?_
    refine ⟨by walk_at "ty", ?_⟩
    refine a_cons ?_
    refine e_bm PySem.F.plainAttrs_list PySem.F.slot_list_pop PySem.F.type_list_pop mt_popAt ?_
    refine e_var 3 rfl (.inl rfl) rfl ?_
    refine ⟨by walk_at "ty", ?_⟩
    refine a_cons ?_
    refine e_call D__law_take (hr.mono (by decide)) rfl ?_
    refine a_cons ?_
    refine e_var 0 rfl (.inl rfl) rfl ?_
    refine a_cons ?_
    refine e_callB call_lenU rfl T.n_len (by decide +kernel) ?_
    refine a_cons ?_
    refine e_var 3 rfl (.inl rfl) rfl ?_
    refine a_nil ?_
    refine o_len_own (List.mem_cons_of_mem _ List.mem_cons_self) ?_
    rw [List.length_map]
    refine a_nil ?_
    refine ⟨_, 2, rfl, l, _, _, rfl, rfl, ?_, ?_, ?_, ?_, fun m hm0 hm1 _ => ?_⟩
    · omega
    · omega
    · omega
    · omega
    refine a_nil ?_
    obtain ⟨y, hy⟩ : ∃ y, rest[m.toNat]? = some y := ⟨rest[m.toNat]'(by omega), by simp⟩
    refine o_popAt (k := m.toNat) (F := fStr y) 1 rfl (by omega) (by omega) (by rw [List.length_map]; exact seqIx hm0 hm1) (by rw [List.getElem?_map, hy]; rfl) ?_
    refine a_nil ?_
    refine o_append 0 rfl (by rw [List.length_map]; omega) ?_
    refine s_nil ?_
    refine ⟨_, ys ++ [y], rest.eraseIdx m.toNat, rfl, ?_, ?_, by rw [List.length_append, hl]; rfl⟩
    · show Own.lst l0 (ys.map fStr ++ [fStr y]) :: Own.lst l1 ((rest.map fStr).eraseIdx m.toNat) :: potO l (k + (i : Int) + 1) :: os0 = _
      rw [List.map_append, map_erase, show k + ((i + 1 : Nat) : Int) = k + (i : Int) + 1 by omega]
      rfl
    · exact (perm_pop hy).trans hp
  · skip
    rintro Γ' os' ⟨g, ys, rest, rfl, rfl, hp, hl⟩
    rw [irange_len] at hl ⊢
    refine S.le (Γ' := [some (fRef l), some (fL (zs.map fStr)), some (fInt n), some (fRef l1), some (fRef l0), none]) ⟨rfl, ?_⟩ ?_
    · intro j F e
      match j, e with
      | 0, e => exact e
      | 1, e => exact e
      | 2, e => exact e
      | 3, e => exact e
      | 4, e => exact e
      | 5, e => cases e
      | j + 6, e => simp at e
    refine s_frz 4 rfl ?_
    refine S.drop ?_
    rw [show k + ((n.toNat : Nat) : Int) = k + n by omega]
    refine s_cons ?_
    refine s1_ret ?_
    refine e_var 4 rfl (.inl rfl) rfl ?_
    exact kP ys rest hp (by omega) rfl

end G
namespace G
open PySem L2 TL

local macro_rules | `(tactic| walk_at "mem") => `(tactic| (first | exact List.mem_cons_self | exact List.mem_cons_of_mem _ List.mem_cons_self | exact List.mem_cons_of_mem _ (List.mem_cons_of_mem _ List.mem_cons_self) | exact List.mem_cons_of_mem _ (List.mem_cons_of_mem _ (List.mem_cons_of_mem _ List.mem_cons_self))))
local macro_rules | `(tactic| walk_at "o_isinstance") => `(tactic| (first | refine o_isi (r := true) tyf_S (by decide +kernel) ?_ | refine o_isi (r := true) tyf_T (by decide +kernel) ?_ | refine o_isi (r := true) tyf_L (by decide +kernel) ?_ | refine o_isi (r := true) tyf_I (by decide +kernel) ?_ | refine o_isi (r := true) tyf_B (by decide +kernel) ?_ | refine o_isi (r := false) tyf_S (by decide +kernel) ?_ | refine o_isi (r := false) tyf_T (by decide +kernel) ?_ | refine o_isi (r := false) tyf_L (by decide +kernel) ?_ | refine o_isi (r := false) tyf_I (by decide +kernel) ?_ | refine o_isi (r := false) tyf_B (by decide +kernel) ?_))
local macro_rules | `(tactic| walk_at "o_startswith") => `(tactic| (refine o_starts ?_; rw [starts_ss]))
local macro_rules | `(tactic| walk_at "sz") => `(tactic| (first | omega | (simp <;> omega) | decide))
local macro_rules | `(tactic| walk_at "len") => `(tactic| (first | decide | omega | (simp only [List.length_map]; omega) | (simp; done) | (simp; omega)))
local macro_rules | `(tactic| walk_at "num") => `(tactic| (first | omega | (simp <;> omega) | decide))
local macro_rules | `(tactic| walk_at "o_add") => `(tactic| (first | refine o_add_int ?_ | refine o_add_str (by walk_at "sz") ?_ | refine o_add_lst (by walk_at "sz") ?_ | refine o_add_tup (by walk_at "sz") ?_))
local macro_rules | `(tactic| walk_at "o_iadd") => `(tactic| (first | refine o_iadd_int ?_ | refine o_iadd_str (by walk_at "sz") ?_))
local macro_rules | `(tactic| walk_at "o_sub") => `(tactic| refine o_sub ?_)
local macro_rules | `(tactic| walk_at "o_mul") => `(tactic| refine o_mul (by first | exact .inl (by omega) | exact .inr (by omega)) ?_)
local macro_rules | `(tactic| walk_at "o_mod") => `(tactic| refine o_mod (by first | omega | decide) ?_)
local macro_rules | `(tactic| walk_at "o_eq") => `(tactic| (first | refine o_eq_str ?_ | refine o_eq_int ?_ | refine o_eq_bl ?_))
local macro_rules | `(tactic| walk_at "o_ne") => `(tactic| (first | refine o_ne_str ?_ | refine o_ne_int ?_ | refine o_ne_bl ?_))
local macro_rules | `(tactic| walk_at "o_lt") => `(tactic| refine o_lt ?_)
local macro_rules | `(tactic| walk_at "o_le") => `(tactic| refine o_le ?_)
local macro_rules | `(tactic| walk_at "o_gt") => `(tactic| refine o_gt ?_)
local macro_rules | `(tactic| walk_at "o_ge") => `(tactic| refine o_ge ?_)
local macro_rules | `(tactic| walk_at "o_int") => `(tactic| (first | refine o_int_i ?_ | refine o_int_b ?_))
local macro_rules | `(tactic| walk_at "o_len") => `(tactic| (first | refine o_len_L ?_ | refine o_len_T ?_ | refine o_len_S (by walk_at "sz") ?_ | refine o_len_scr ?_))
local macro_rules | `(tactic| walk_at "o_abs") => `(tactic| refine o_abs ?_)
local macro_rules | `(tactic| walk_at "o_max") => `(tactic| refine o_max2 ?_)
local macro_rules | `(tactic| walk_at "o_min") => `(tactic| refine o_min2 ?_)
local macro_rules | `(tactic| walk_at "ty") => `(tactic| (first | exact ty_str | exact ty_L | exact ty_own List.mem_cons_self | exact ty_own (List.mem_cons_of_mem _ List.mem_cons_self) | exact ty_own (List.mem_cons_of_mem _ (List.mem_cons_of_mem _ List.mem_cons_self))))

theorem ok_letters {P : Program} {w : World} {K : PySem.W.Frag} {mg : Str → Option Value} {base : Heap} (T : Txt K mg) (D__law_of : Df P w K mg base 3 "_law_of" ["_law_pot_here", "_law_some_here"] (fsI fs_of)) (D__law_some : Df P w K mg base 3 "_law_some" ["_law_pot_here", "_law_pool", "_law_many"] (fsI fs_some)) : Df P w K mg base 4 "_law_letters" ["_law_pot_here"] (fsI fs_letters) := by
  refine df_okI T.d_law_letters sc_law_letters fs_letters_mono (fun Fs o Post ⟨l, k, e, _⟩ => by rw [e]; rfl) ?_
  rintro cdv f A outer s H XE hr Fs os Post ⟨o, os0, rfl, l, k, rfl, rfl, hk0, hk1, kP⟩
  refine s_cons ?_
  refine s1_ret ?_
  refine E.put 0 ?_
  refine e_call D__law_some (hr.mono (by decide)) rfl ?_
  refine a_cons ?_
  refine e_var 0 rfl (.inl rfl) rfl ?_
  refine a_cons ?_
  refine e_lst ?_
  refine a_cons ?_
  refine e_str ?_
  refine a_cons ?_
  refine e_str ?_
  refine a_cons ?_
  refine e_str ?_
  refine a_cons ?_
  refine e_str ?_
  refine a_cons ?_
  refine e_str ?_
  refine a_nil ?_
  refine ⟨by first | decide | (simp; done), ?_⟩
  refine a_cons ?_
  refine e_call D__law_of (hr.mono (by decide)) rfl ?_
  refine a_cons ?_
  refine e_var 0 rfl (.inl rfl) rfl ?_
  refine a_cons ?_
  refine e_lst ?_
  refine a_cons ?_
  refine e_int ?_
  refine a_cons ?_
  refine e_int ?_
  refine a_cons ?_
  refine e_int ?_
  refine a_cons ?_
  refine e_int ?_
  refine a_nil ?_
  refine ⟨by first | decide | (simp; done), ?_⟩
  refine a_nil ?_
  refine ⟨_, 0, rfl, l, _, _, rfl, rfl, ?_, ?_, ?_, ?_, fun G hG _ => ?_⟩
  · walk_at "len"
  · walk_at "len"
  · omega
  · omega
  obtain ⟨n, rfl, hn⟩ : ∃ n : Int, G = fInt n ∧ (n = 2 ∨ n = 3) := by
    simp only [List.mem_cons, List.not_mem_nil, or_false] at hG
    rcases hG with rfl | rfl | rfl | rfl <;> exact ⟨_, rfl, by decide⟩
  refine a_nil ?_
  refine ⟨_, 0, rfl, l, _, ["a", "b", "c", "x", "z"], n, rfl, rfl, ?_, ?_, ?_, ?_, ?_, fun ys rest hp hl _ => ?_⟩
  · omega
  · show n ≤ 5; omega
  · decide
  · omega
  · omega
  obtain ⟨cs, rfl, hcs⟩ := letters_of hp (by omega) (by omega)
  rw [List.map_map]
  refine ⟨l, _, [fNn, fSm, fCt (k + 4)], rfl, .cons Fle.refl (.cons Fle.refl (.cons (Fle.ct2 (by omega)) .nil)), ?_⟩
  exact kP cs hcs rfl

theorem ok_law_word {P : Program} {w : World} {K : PySem.W.Frag} {mg : Str → Option Value} {base : Heap} (T : Txt K mg) (D__law_take : Df P w K mg base 2 "_law_take" ["_law_pot_here", "_law_upto"] (fsI fs_take)) (D__law_of : Df P w K mg base 3 "_law_of" ["_law_pot_here", "_law_some_here"] (fsI fs_of)) : Df P w K mg base 4 "_law_word" ["_law_pot_here", "_law_letters_here", "_law_most"] (fsI (fs_word 1 0)) := by
  refine df_okI T.d_law_word sc_law_word (fs_word_mono 1 0) (fun Fs o Post ⟨l, k, cs, n, e, _⟩ => by rw [e]; rfl) ?_
  rintro cdv f A outer s H XE hr Fs os Post ⟨o, os0, rfl, l, k, cs, n, rfl, rfl, h0, h1, h2, h3, hk0, hk1, kP⟩
  refine s_cons ?_
  refine s1_ret ?_
  refine E.put 0 ?_
  refine e_bm PySem.F.plainAttrs_str PySem.F.slot_str_join PySem.F.type_str_join mt_join' ?_
  refine e_str ?_
  refine ⟨by walk_at "ty", ?_⟩
  refine a_cons ?_
  refine e_lc rfl sc_law_word.nd [("_law_turn", 3)] (blkOk_by (show blkC ["_law_pot_here", "_law_letters_here", "_law_most", "_law_turn"] (defScope s_law_word) _ [("_law_turn", 3)] = true by decide +kernel)) ?_
  refine wk_range1 rfl T.n_range ?_
  refine a_cons ?_
  refine e_bin op_addU ?_
  refine e_int ?_
  refine e_call D__law_take (hr.mono (by decide)) rfl ?_
  refine a_cons ?_
  refine e_var 0 rfl (.inr (.inl rfl)) rfl ?_
  refine a_cons ?_
  refine e_var 2 rfl (.inl rfl) rfl ?_
  refine a_nil ?_
  refine ⟨_, 0, rfl, l, _, _, rfl, rfl, ?_, ?_, ?_, ?_, fun m hm0 hm1 _ => ?_⟩
  · omega
  · omega
  · omega
  · omega
  walk_at "o_add"
  refine a_nil ?_
  refine ⟨_, rfl, by omega, by omega, ?_⟩
  refine ⟨fun i acc os' => ∃ wd : List Nat, wd.length = i ∧ (∀ c ∈ wd, c ∈ cs) ∧ acc = wd.map fC ∧ os' = potO l (k + 1 + (i : Int)) :: os0, ⟨[], rfl, by simp, rfl, by rw [show k + 1 + ((0 : Nat) : Int) = k + 1 by omega]; rfl⟩, ?_, by rw [irange_len]; omega, ?_⟩
  · skip
    rintro i F acc os' D hF ⟨wd, hwl, hwc, rfl, rfl⟩ hacc B
    obtain ⟨hi, rfl⟩ := irange_at hF
    refine g_name 3 sc_law_word.nd rfl (.inl rfl) (by decide) ?_
    intro B2
    refine e_call D__law_of (hr.mono (by decide)) rfl ?_
    refine a_cons ?_
    refine e_var 0 rfl (.inr (.inl rfl)) rfl ?_
    refine a_cons ?_
    refine e_var 1 rfl (.inr (.inl rfl)) rfl ?_
    refine a_nil ?_
    refine ⟨_, 1, rfl, l, _, _, rfl, rfl, ?_, ?_, ?_, ?_, fun G hG _ => ?_⟩
    · walk_at "len"
    · walk_at "len"
    · omega
    · omega
    obtain ⟨c, hc, rfl⟩ := List.mem_map.mp hG
    refine ⟨_, rfl, wd ++ [c], by simp [hwl], fun x hx => ?_, by rw [List.map_append]; rfl, ?_⟩
    · rcases List.mem_append.mp hx with z | z
      · exact hwc x z
      · rw [List.mem_singleton.mp z]; exact hc
    · rw [show k + 1 + ((i + 1 : Nat) : Int) = k + 1 + (i : Int) + 1 by omega]
      rfl
  · skip
    rintro acc os' hal ⟨wd, hwl, hwc, rfl, rfl⟩
    rw [irange_len] at hwl ⊢
    refine a_nil ?_
    refine o_joinC (by omega) ?_
    refine ⟨l, _, [fNn, fSm, fCt (k + n + 1)], rfl, .cons Fle.refl (.cons Fle.refl (.cons (Fle.ct2 (by omega)) .nil)), ?_⟩
    exact kP wd (by omega) (by omega) hwc rfl

theorem ok_law_put {P : Program} {w : World} {K : PySem.W.Frag} {mg : Str → Option Value} {base : Heap} (T : Txt K mg) (D__law_take : Df P w K mg base 2 "_law_take" ["_law_pot_here", "_law_upto"] (fsI fs_take)) (D__law_of : Df P w K mg base 3 "_law_of" ["_law_pot_here", "_law_some_here"] (fsI fs_of)) : Df P w K mg base 4 "_law_put" ["_law_pot_here", "_law_letters_here", "_law_most"] (fsI (fs_word 0 1)) := by
  refine df_okI T.d_law_put sc_law_put (fs_word_mono 0 1) (fun Fs o Post ⟨l, k, cs, n, e, _⟩ => by rw [e]; rfl) ?_
  rintro cdv f A outer s H XE hr Fs os Post ⟨o, os0, rfl, l, k, cs, n, rfl, rfl, h0, h1, h2, h3, hk0, hk1, kP⟩
  refine s_cons ?_
  refine s1_ret ?_
  refine E.put 0 ?_
  refine e_bm PySem.F.plainAttrs_str PySem.F.slot_str_join PySem.F.type_str_join mt_join' ?_
  refine e_str ?_
  refine ⟨by walk_at "ty", ?_⟩
  refine a_cons ?_
  refine e_lc rfl sc_law_put.nd [("_law_turn", 3)] (blkOk_by (show blkC ["_law_pot_here", "_law_letters_here", "_law_most", "_law_turn"] (defScope s_law_put) _ [("_law_turn", 3)] = true by decide +kernel)) ?_
  refine wk_range1 rfl T.n_range ?_
  refine a_cons ?_
  refine e_call D__law_take (hr.mono (by decide)) rfl ?_
  refine a_cons ?_
  refine e_var 0 rfl (.inr (.inl rfl)) rfl ?_
  refine a_cons ?_
  refine e_bin op_addU ?_
  refine e_var 2 rfl (.inl rfl) rfl ?_
  refine e_int ?_
  walk_at "o_add"
  refine a_nil ?_
  refine ⟨_, 0, rfl, l, _, _, rfl, rfl, ?_, ?_, ?_, ?_, fun m hm0 hm1 _ => ?_⟩
  · omega
  · omega
  · omega
  · omega
  refine a_nil ?_
  refine ⟨_, rfl, by omega, by omega, ?_⟩
  refine ⟨fun i acc os' => ∃ wd : List Nat, wd.length = i ∧ (∀ c ∈ wd, c ∈ cs) ∧ acc = wd.map fC ∧ os' = potO l (k + 1 + (i : Int)) :: os0, ⟨[], rfl, by simp, rfl, by rw [show k + 1 + ((0 : Nat) : Int) = k + 1 by omega]; rfl⟩, ?_, by rw [irange_len]; omega, ?_⟩
  · skip
    rintro i F acc os' D hF ⟨wd, hwl, hwc, rfl, rfl⟩ hacc B
    obtain ⟨hi, rfl⟩ := irange_at hF
    refine g_name 3 sc_law_put.nd rfl (.inl rfl) (by decide) ?_
    intro B2
    refine e_call D__law_of (hr.mono (by decide)) rfl ?_
    refine a_cons ?_
    refine e_var 0 rfl (.inr (.inl rfl)) rfl ?_
    refine a_cons ?_
    refine e_var 1 rfl (.inr (.inl rfl)) rfl ?_
    refine a_nil ?_
    refine ⟨_, 1, rfl, l, _, _, rfl, rfl, ?_, ?_, ?_, ?_, fun G hG _ => ?_⟩
    · walk_at "len"
    · walk_at "len"
    · omega
    · omega
    obtain ⟨c, hc, rfl⟩ := List.mem_map.mp hG
    refine ⟨_, rfl, wd ++ [c], by simp [hwl], fun x hx => ?_, by rw [List.map_append]; rfl, ?_⟩
    · rcases List.mem_append.mp hx with z | z
      · exact hwc x z
      · rw [List.mem_singleton.mp z]; exact hc
    · rw [show k + 1 + ((i + 1 : Nat) : Int) = k + 1 + (i : Int) + 1 by omega]
      rfl
  · skip
    rintro acc os' hal ⟨wd, hwl, hwc, rfl, rfl⟩
    rw [irange_len] at hwl ⊢
    refine a_nil ?_
    refine o_joinC (by omega) ?_
    refine ⟨l, _, [fNn, fSm, fCt (k + n + 1)], rfl, .cons Fle.refl (.cons Fle.refl (.cons (Fle.ct2 (by omega)) .nil)), ?_⟩
    exact kP wd (by omega) (by omega) hwc rfl

end G
namespace G
open PySem L2 TL

local macro_rules | `(tactic| walk_at "mem") => `(tactic| (first | exact List.mem_cons_self | exact List.mem_cons_of_mem _ List.mem_cons_self | exact List.mem_cons_of_mem _ (List.mem_cons_of_mem _ List.mem_cons_self) | exact List.mem_cons_of_mem _ (List.mem_cons_of_mem _ (List.mem_cons_of_mem _ List.mem_cons_self))))
local macro_rules | `(tactic| walk_at "o_isinstance") => `(tactic| (first | refine o_isi (r := true) tyf_S (by decide +kernel) ?_ | refine o_isi (r := true) tyf_T (by decide +kernel) ?_ | refine o_isi (r := true) tyf_L (by decide +kernel) ?_ | refine o_isi (r := true) tyf_I (by decide +kernel) ?_ | refine o_isi (r := true) tyf_B (by decide +kernel) ?_ | refine o_isi (r := false) tyf_S (by decide +kernel) ?_ | refine o_isi (r := false) tyf_T (by decide +kernel) ?_ | refine o_isi (r := false) tyf_L (by decide +kernel) ?_ | refine o_isi (r := false) tyf_I (by decide +kernel) ?_ | refine o_isi (r := false) tyf_B (by decide +kernel) ?_))
local macro_rules | `(tactic| walk_at "o_startswith") => `(tactic| (refine o_starts ?_; rw [starts_ss]))
local macro_rules | `(tactic| walk_at "sz") => `(tactic| (first | omega | (simp <;> omega) | decide))
local macro_rules | `(tactic| walk_at "len") => `(tactic| (first | decide | omega | (simp only [List.length_map]; omega) | (simp; done) | (simp; omega)))
local macro_rules | `(tactic| walk_at "num") => `(tactic| (first | omega | (simp <;> omega) | decide))
local macro_rules | `(tactic| walk_at "o_add") => `(tactic| (first | refine o_add_int ?_ | refine o_add_str (by walk_at "sz") ?_ | refine o_add_lst (by walk_at "sz") ?_ | refine o_add_tup (by walk_at "sz") ?_))
local macro_rules | `(tactic| walk_at "o_iadd") => `(tactic| (first | refine o_iadd_int ?_ | refine o_iadd_str (by walk_at "sz") ?_))
local macro_rules | `(tactic| walk_at "o_sub") => `(tactic| refine o_sub ?_)
local macro_rules | `(tactic| walk_at "o_mul") => `(tactic| refine o_mul (by first | exact .inl (by omega) | exact .inr (by omega)) ?_)
local macro_rules | `(tactic| walk_at "o_mod") => `(tactic| refine o_mod (by first | omega | decide) ?_)
local macro_rules | `(tactic| walk_at "o_eq") => `(tactic| (first | refine o_eq_str ?_ | refine o_eq_int ?_ | refine o_eq_bl ?_))
local macro_rules | `(tactic| walk_at "o_ne") => `(tactic| (first | refine o_ne_str ?_ | refine o_ne_int ?_ | refine o_ne_bl ?_))
local macro_rules | `(tactic| walk_at "o_lt") => `(tactic| refine o_lt ?_)
local macro_rules | `(tactic| walk_at "o_le") => `(tactic| refine o_le ?_)
local macro_rules | `(tactic| walk_at "o_gt") => `(tactic| refine o_gt ?_)
local macro_rules | `(tactic| walk_at "o_ge") => `(tactic| refine o_ge ?_)
local macro_rules | `(tactic| walk_at "o_int") => `(tactic| (first | refine o_int_i ?_ | refine o_int_b ?_))
local macro_rules | `(tactic| walk_at "o_len") => `(tactic| (first | refine o_len_L ?_ | refine o_len_T ?_ | refine o_len_S (by walk_at "sz") ?_ | refine o_len_scr ?_))
local macro_rules | `(tactic| walk_at "o_abs") => `(tactic| refine o_abs ?_)
local macro_rules | `(tactic| walk_at "o_max") => `(tactic| refine o_max2 ?_)
local macro_rules | `(tactic| walk_at "o_min") => `(tactic| refine o_min2 ?_)
local macro_rules | `(tactic| walk_at "ty") => `(tactic| (first | exact ty_str | exact ty_L | exact ty_own List.mem_cons_self | exact ty_own (List.mem_cons_of_mem _ List.mem_cons_self) | exact ty_own (List.mem_cons_of_mem _ (List.mem_cons_of_mem _ List.mem_cons_self))))

theorem ok_lore {P : Program} {w : World} {K : PySem.W.Frag} {mg : Str → Option Value} {base : Heap} (T : Txt K mg) (D__law_take : Df P w K mg base 2 "_law_take" ["_law_pot_here", "_law_upto"] (fsI fs_take)) (D__law_of : Df P w K mg base 3 "_law_of" ["_law_pot_here", "_law_some_here"] (fsI fs_of)) (D__law_word : Df P w K mg base 4 "_law_word" ["_law_pot_here", "_law_letters_here", "_law_most"] (fsI (fs_word 1 0))) (D__law_put : Df P w K mg base 4 "_law_put" ["_law_pot_here", "_law_letters_here", "_law_most"] (fsI (fs_word 0 1))) : Df P w K mg base 5 "_law_lore" ["_law_pot_here", "_law_letters_here", "_law_most", "_law_size"] (fsI fs_lore) := by
  refine df_okI T.d_law_lore sc_law_lore fs_lore_mono (fun Fs o Post ⟨l, k, cs, most, size, e, _⟩ => by rw [e]; rfl) ?_
  rintro cdv f A outer s H XE hr Fs os Post ⟨o, os0, rfl, l, k, cs, most, size, rfl, rfl, hc0, hc1, hm0', hm1', hs0, hs1, hk0, hk1, kP⟩
  refine s_cons ?_
  refine s1_set 4 sc_law_lore.nd rfl (.inl rfl) ?_
  refine e_lstO ?_
  refine a_nil ?_
  refine ⟨by first | decide | (simp; done), fun l0 => ?_⟩
  refine s_cons ?_
  refine s1_for [5] PassesOwn.never rfl ?_
  refine wk_range1 rfl T.n_range ?_
  refine a_cons ?_
  refine e_bin op_addU ?_
  refine e_int ?_
  refine e_call D__law_take (hr.mono (by decide)) rfl ?_
  refine a_cons ?_
  refine e_var 0 rfl (.inl rfl) rfl ?_
  refine a_cons ?_
  refine e_var 2 rfl (.inl rfl) rfl ?_
  refine a_nil ?_
  refine ⟨_, 1, rfl, l, _, _, rfl, rfl, ?_, ?_, ?_, ?_, fun m hm0 hm1 _ => ?_⟩
  · omega
  · omega
  · omega
  · omega
  walk_at "o_add"
  refine a_nil ?_
  refine ⟨_, rfl, by omega, by omega, ?_⟩
  refine ⟨fun i Γ' os' => ∃ (g1 g2 g3 : Option Fact) (ps : List (List Nat × List Nat)) (k' : Int), Γ' = [some (fRef l), some (fL (cs.map fC)), some (fInt most), some (fInt size), some (fRef l0), g1, g2, g3, none] ∧ os' = .lst l0 (ps.map fPair) :: potO l k' :: os0 ∧
      k ≤ k' ∧ k' ≤ k + 1 + 14 * (i : Int) ∧ ps.length ≤ i ∧ (1 ≤ i → 1 ≤ ps.length) ∧ (ps.map (·.1)).Nodup ∧ ∀ p ∈ ps, 1 ≤ p.1.length ∧ (p.1.length : Int) ≤ size ∧ (∀ c ∈ p.1, c ∈ cs) ∧ p.2.length ≤ 2 ∧ ∀ c ∈ p.2, c ∈ cs,
    ⟨none, none, none, [], _, rfl, rfl, by omega, by omega, by simp, by simp, by simp, by simp⟩, ?_, ?_⟩
  · skip
    rintro i F Γ' os' hF ⟨g1, g2, g3, ps, k', rfl, rfl, hk2, hk3, hp1, hp2, hp3, hp4⟩
    obtain ⟨hi, rfl⟩ := irange_at hF
    refine g_name 5 sc_law_lore.nd rfl (.inl rfl) (by decide) ?_
    refine s_cons ?_
    refine s1_par (i := 6) (j := 7) rfl sc_law_lore.nd rfl rfl (by decide) rfl rfl rfl rfl ?_
    refine a_cons ?_
    refine e_call D__law_word (hr.mono (by decide)) rfl ?_
    refine a_cons ?_
    refine e_var 0 rfl (.inl rfl) rfl ?_
    refine a_cons ?_
    refine e_var 1 rfl (.inl rfl) rfl ?_
    refine a_cons ?_
    refine e_var 3 rfl (.inl rfl) rfl ?_
    refine a_nil ?_
    refine ⟨_, 1, rfl, l, _, cs, size, rfl, rfl, hc0, hc1, ?_, ?_, ?_, ?_, fun z hz1 hz2 hz3 _ => ?_⟩
    · omega
    · omega
    · omega
    · omega
    refine a_cons ?_
    refine e_call D__law_put (hr.mono (by decide)) rfl ?_
    refine a_cons ?_
    refine e_var 0 rfl (.inl rfl) rfl ?_
    refine a_cons ?_
    refine e_var 1 rfl (.inl rfl) rfl ?_
    refine a_cons ?_
    refine e_int ?_
    refine a_nil ?_
    refine ⟨_, 1, rfl, l, _, cs, 2, rfl, rfl, hc0, hc1, ?_, ?_, ?_, ?_, fun y hy1 hy2 hy3 _ => ?_⟩
    · decide
    · decide
    · omega
    · omega
    refine a_nil ?_
    refine ⟨_, _,  rfl, ?_⟩
    refine s_cons ?_
    refine s1_if ?_
    refine t_cmp op_notInU rfl ?_
    refine e_var 6 rfl (.inl rfl) rfl ?_
    refine e_lcO rfl sc_law_lore.nd [("_law_pair", 8)] (blkOk_by (show blkC ["_law_pot_here", "_law_letters_here", "_law_most", "_law_size", "_law_pairs", "_law_turn", "_law_find", "_law_put_here", "_law_pair"] (defScope s_law_lore) _ [("_law_pair", 8)] = true by decide +kernel)) ?_
    refine wkr_own ?_
    refine e_var 4 rfl (.inl rfl) rfl ?_
    refine ⟨_, _, rfl, by walk_at "mem", ?_⟩
    refine ⟨fun i acc os' => acc = ((ps.take i).map fun p => fS p.1) ∧ os' = .lst l0 (ps.map fPair) :: potO l (k' + size + 1 + 2 + 1) :: os0, ⟨rfl, rfl⟩, fun i acc os' D ⟨_, h⟩ => by rw [h]; walk_at "mem", ?_, by rw [List.length_map]; omega, ?_⟩
    · skip
      rintro i F acc os' D hF ⟨rfl, rfl⟩ hacc B
      obtain ⟨q, hq, rfl⟩ := map_at hF
      refine g_name 8 sc_law_lore.nd rfl (.inl rfl) (by decide) ?_
      intro B2
      refine e_ix ix_seq (fun _ _ => rfl) ?_
      refine e_var 8 rfl (.inl rfl) rfl ?_
      refine e_int ?_
      refine o_ix_T (F := fS q.1) rfl ?_
      refine ⟨_, rfl, ?_, rfl⟩
      rw [take_more hq, List.map_append]; rfl
    · skip
      rintro acc os' hal ⟨rfl, rfl⟩
      rw [List.length_map, List.take_length]
      rw [show (ps.map fun p => fS p.1) = ((ps.map fun p => p.1).map ss).map fStr by rw [List.map_map, List.map_map]; rfl]
      refine o_notIn_strs ?_
      refine ⟨_, rfl, ?_⟩
      refine ⟨fun b0 => ?_, fun b0 => ?_⟩
      · skip
        refine s_cons ?_
        refine s1_expr ?_
        refine e_bm PySem.F.plainAttrs_list PySem.F.slot_list_append PySem.F.type_list_append mt_append ?_
        refine e_var 4 rfl (.inl rfl) rfl ?_
        refine ⟨by walk_at "ty", ?_⟩
        refine a_cons ?_
        refine e_tup ?_
        refine a_cons ?_
        refine e_var 6 rfl (.inl rfl) rfl ?_
        refine a_cons ?_
        refine e_var 7 rfl (.inl rfl) rfl ?_
        refine a_nil ?_
        refine ⟨by first | decide | (simp; done), ?_⟩
        refine a_nil ?_
        refine o_append 0 rfl (by rw [List.length_map]; omega) ?_
        refine s_nil ?_
        refine s_nil ?_
        first
        | (refine ⟨_, _, _, ps ++ [(z, y)], k' + size + 1 + 2 + 1, rfl, by rw [List.map_append]; rfl, by omega, by omega, by simp; omega, by simp, ?_, ?_⟩
           · rw [List.map_append]
             refine List.nodup_append.mpr ⟨hp3, by simp, fun a ha b hb e => ?_⟩
             rw [List.map_cons, List.map_nil, List.mem_singleton] at hb
             rw [e, hb] at ha
             have b1 : ¬ (ss z ∈ (ps.map fun p => p.1).map ss) := by simpa using b0
             exact b1 ((mem_ss z _).mpr ha)
           · intro p hp
             rcases List.mem_append.mp hp with q | q
             · exact hp4 p q
             · rw [List.mem_singleton.mp q]
               exact ⟨hz1, hz2, hz3, by show y.length ≤ 2; omega, hy3⟩)
        | (refine ⟨_, _, _, ps, k' + size + 1 + 2 + 1, rfl, rfl, by omega, by omega, by omega, fun _ => ?_, hp3, hp4⟩
           have b1 : ss z ∈ (ps.map fun p => p.1).map ss := by simpa using b0
           have := (mem_ss z _).mp b1
           cases ps with
           | nil => simp at this
           | cons p ps => simp)
      · skip
        refine s_nil ?_
        refine s_nil ?_
        first
        | (refine ⟨_, _, _, ps ++ [(z, y)], k' + size + 1 + 2 + 1, rfl, by rw [List.map_append]; rfl, by omega, by omega, by simp; omega, by simp, ?_, ?_⟩
           · rw [List.map_append]
             refine List.nodup_append.mpr ⟨hp3, by simp, fun a ha b hb e => ?_⟩
             rw [List.map_cons, List.map_nil, List.mem_singleton] at hb
             rw [e, hb] at ha
             have b1 : ¬ (ss z ∈ (ps.map fun p => p.1).map ss) := by simpa using b0
             exact b1 ((mem_ss z _).mpr ha)
           · intro p hp
             rcases List.mem_append.mp hp with q | q
             · exact hp4 p q
             · rw [List.mem_singleton.mp q]
               exact ⟨hz1, hz2, hz3, by show y.length ≤ 2; omega, hy3⟩)
        | (refine ⟨_, _, _, ps, k' + size + 1 + 2 + 1, rfl, rfl, by omega, by omega, by omega, fun _ => ?_, hp3, hp4⟩
           have b1 : ss z ∈ (ps.map fun p => p.1).map ss := by simpa using b0
           have := (mem_ss z _).mp b1
           cases ps with
           | nil => simp at this
           | cons p ps => simp)
  · skip
    rintro Γ' os' ⟨g1, g2, g3, ps, k', rfl, rfl, hk2, hk3, hp1, hp2, hp3, hp4⟩
    rw [irange_len] at hk3 hp1 hp2
    refine s_cons ?_
    refine s1_ret ?_
    refine E.put 0 ?_
    refine E.drop ?_
    refine e_disp2 (by decide +kernel) (fun _ _ _ h => e_str h) (fun _ _ _ h => e_str h) fun pd0 => ?_
    refine e_callTy call_tupU rfl T.n_tuple (by decide +kernel) ?_
    refine a_cons ?_
    refine e_var 4 rfl (.inl rfl) rfl ?_
    refine a_nil ?_
    refine o_tup_own (by walk_at "mem") ?_
    refine ⟨_, rfl, ?_⟩
    refine e_call D__law_of (hr.mono (by decide)) rfl ?_
    refine a_cons ?_
    refine e_var 0 rfl (.inl rfl) rfl ?_
    refine a_cons ?_
    refine e_lst ?_
    refine a_cons ?_
    refine e_str ?_
    refine a_cons ?_
    refine e_str ?_
    refine a_cons ?_
    refine e_str ?_
    refine a_nil ?_
    refine ⟨by first | decide | (simp; done), ?_⟩
    refine a_nil ?_
    refine ⟨_, 2, rfl, l, _, _, rfl, rfl, ?_, ?_, ?_, ?_, fun G hG _ => ?_⟩
    · walk_at "len"
    · walk_at "len"
    · omega
    · omega
    obtain ⟨bw, rfl⟩ : ∃ bw, G = fStr (wayS bw) := by
      simp only [List.mem_cons, List.not_mem_nil, or_false] at hG
      rcases hG with rfl | rfl | rfl
      · exact ⟨false, rfl⟩
      · exact ⟨false, rfl⟩
      · exact ⟨true, rfl⟩
    refine ⟨_, rfl, ?_⟩
    refine ⟨_, _, rfl, l, _, [fNn, fSm, fCt (k + 200)], rfl, .cons Fle.refl (.cons Fle.refl (.cons (Fle.ct2 (by omega)) .nil)), ?_⟩
    exact kP (ps, bw) ⟨hp2 (by omega), by show (ps.length : Int) ≤ most; omega, hp3, hp4⟩ rfl

end G
namespace G
open PySem L2 TL

local macro_rules | `(tactic| walk_at "mem") => `(tactic| (first | exact List.mem_cons_self | exact List.mem_cons_of_mem _ List.mem_cons_self | exact List.mem_cons_of_mem _ (List.mem_cons_of_mem _ List.mem_cons_self) | exact List.mem_cons_of_mem _ (List.mem_cons_of_mem _ (List.mem_cons_of_mem _ List.mem_cons_self))))
local macro_rules | `(tactic| walk_at "o_isinstance") => `(tactic| (first | refine o_isi (r := true) tyf_S (by decide +kernel) ?_ | refine o_isi (r := true) tyf_T (by decide +kernel) ?_ | refine o_isi (r := true) tyf_L (by decide +kernel) ?_ | refine o_isi (r := true) tyf_I (by decide +kernel) ?_ | refine o_isi (r := true) tyf_B (by decide +kernel) ?_ | refine o_isi (r := false) tyf_S (by decide +kernel) ?_ | refine o_isi (r := false) tyf_T (by decide +kernel) ?_ | refine o_isi (r := false) tyf_L (by decide +kernel) ?_ | refine o_isi (r := false) tyf_I (by decide +kernel) ?_ | refine o_isi (r := false) tyf_B (by decide +kernel) ?_))
local macro_rules | `(tactic| walk_at "o_startswith") => `(tactic| (refine o_starts ?_; rw [starts_ss]))
local macro_rules | `(tactic| walk_at "sz") => `(tactic| (first | omega | (simp <;> omega) | decide))
local macro_rules | `(tactic| walk_at "len") => `(tactic| (first | decide | omega | (simp only [List.length_map]; omega) | (simp; done) | (simp; omega)))
local macro_rules | `(tactic| walk_at "num") => `(tactic| (first | omega | (simp <;> omega) | decide))
local macro_rules | `(tactic| walk_at "o_add") => `(tactic| (first | refine o_add_int ?_ | refine o_add_str (by walk_at "sz") ?_ | refine o_add_lst (by walk_at "sz") ?_ | refine o_add_tup (by walk_at "sz") ?_))
local macro_rules | `(tactic| walk_at "o_iadd") => `(tactic| (first | refine o_iadd_int ?_ | refine o_iadd_str (by walk_at "sz") ?_))
local macro_rules | `(tactic| walk_at "o_sub") => `(tactic| refine o_sub ?_)
local macro_rules | `(tactic| walk_at "o_mul") => `(tactic| refine o_mul (by first | exact .inl (by omega) | exact .inr (by omega)) ?_)
local macro_rules | `(tactic| walk_at "o_mod") => `(tactic| refine o_mod (by first | omega | decide) ?_)
local macro_rules | `(tactic| walk_at "o_eq") => `(tactic| (first | refine o_eq_str ?_ | refine o_eq_int ?_ | refine o_eq_bl ?_))
local macro_rules | `(tactic| walk_at "o_ne") => `(tactic| (first | refine o_ne_str ?_ | refine o_ne_int ?_ | refine o_ne_bl ?_))
local macro_rules | `(tactic| walk_at "o_lt") => `(tactic| refine o_lt ?_)
local macro_rules | `(tactic| walk_at "o_le") => `(tactic| refine o_le ?_)
local macro_rules | `(tactic| walk_at "o_gt") => `(tactic| refine o_gt ?_)
local macro_rules | `(tactic| walk_at "o_ge") => `(tactic| refine o_ge ?_)
local macro_rules | `(tactic| walk_at "o_int") => `(tactic| (first | refine o_int_i ?_ | refine o_int_b ?_))
local macro_rules | `(tactic| walk_at "o_len") => `(tactic| (first | refine o_len_L ?_ | refine o_len_T ?_ | refine o_len_S (by walk_at "sz") ?_ | refine o_len_scr ?_))
local macro_rules | `(tactic| walk_at "o_abs") => `(tactic| refine o_abs ?_)
local macro_rules | `(tactic| walk_at "o_max") => `(tactic| refine o_max2 ?_)
local macro_rules | `(tactic| walk_at "o_min") => `(tactic| refine o_min2 ?_)
local macro_rules | `(tactic| walk_at "ty") => `(tactic| (first | exact ty_str | exact ty_L | exact ty_own List.mem_cons_self | exact ty_own (List.mem_cons_of_mem _ List.mem_cons_self) | exact ty_own (List.mem_cons_of_mem _ (List.mem_cons_of_mem _ List.mem_cons_self))))

theorem ok_is_tuple {P : Program} {w : World} {K : PySem.W.Frag} {mg : Str → Option Value} {base : Heap} (T : Txt K mg)  : Df P w K mg base 1 "is_tuple" ["value", "many"] (fs_isTuple) := by
  refine df_ok T.d_is_tuple sc_is_tuple (fun Fs os Post ⟨_, _, e, _⟩ => by rw [e]; rfl) ?_
  rintro cdv f A outer s H XE hr Fs os Post ⟨Gs, n, rfl, hl, kP⟩
  refine s_cons ?_
  refine s1_ret ?_
  refine e_and ?_
  refine e_callB call_isi rfl T.n_isinstance (by decide +kernel) ?_
  refine a_cons ?_
  refine e_var 0 rfl (.inl rfl) rfl ?_
  refine a_cons ?_
  refine e_bltn (n := "tuple") rfl T.n_tuple (by decide +kernel) ?_
  refine a_nil ?_
  walk_at "o_isinstance"
  refine ⟨_, rfl, fun b0 => ?_, fun b0 => absurd b0 (by simp)⟩
  refine e_one ?_
  refine e_cmp (op_eqU hr.units) (nomark _) ?_
  refine e_callB call_lenU rfl T.n_len (by decide +kernel) ?_
  refine a_cons ?_
  refine e_var 0 rfl (.inl rfl) rfl ?_
  refine a_nil ?_
  walk_at "o_len"
  refine e_var 1 rfl (.inl rfl) rfl ?_
  walk_at "o_eq"
  simpa [hl] using kP

theorem ok_is_text {P : Program} {w : World} {K : PySem.W.Frag} {mg : Str → Option Value} {base : Heap} (T : Txt K mg)  : Df P w K mg base 1 "is_text" ["value"] (fs_isText) := by
  refine df_ok T.d_is_text sc_is_text (fun Fs os Post ⟨_, e, _⟩ => by rw [e]; rfl) ?_
  rintro cdv f A outer s H XE hr Fs os Post ⟨z, rfl, hz, hlow, kP⟩
  refine s_cons ?_
  refine s1_ret ?_
  refine e_and ?_
  refine e_callB call_isi rfl T.n_isinstance (by decide +kernel) ?_
  refine a_cons ?_
  refine e_var 0 rfl (.inl rfl) rfl ?_
  refine a_cons ?_
  refine e_bltn (n := "str") rfl T.n_str (by decide +kernel) ?_
  refine a_nil ?_
  walk_at "o_isinstance"
  refine ⟨_, rfl, fun b0 => ?_, fun b0 => absurd b0 (by simp)⟩
  refine e_one ?_
  refine e_callB (cr_all rfl) rfl T.n_all (by decide +kernel) ?_
  refine a_cons ?_
  refine e_lc rfl sc_is_text.nd [("letter", 1)] (blkOk_by (show blkC ["value", "letter"] (defScope s_is_text) _ [("letter", 1)] = true by decide +kernel)) ?_
  refine wk_str ?_
  refine e_var 0 rfl (.inl rfl) rfl ?_
  refine ⟨_, rfl, ?_⟩
  refine ⟨fun i acc os' => acc = (List.replicate i true).map fBl ∧ os = os', ⟨rfl, rfl⟩, ?_, by rw [chars_len]; omega, ?_⟩
  · skip
    rintro i F acc os' D hF ⟨rfl, rfl⟩ hacc B
    obtain ⟨c, hc, rfl⟩ := chars_at hF
    refine g_name 1 sc_is_text.nd rfl (.inl rfl) (by decide) ?_
    intro B2
    refine e_cmp op_inU rfl ?_
    refine e_var 1 rfl (.inl rfl) rfl ?_
    refine e_globS rfl T.c_LETTERS ?_
    refine o_in_chr ?_
    rw [show decide (c ∈ ("abcdefghijklmnopqrstuvwxyz" : Str).cps.toList) = true from decide_eq_true (in_alpha (hlow c hc))]
    exact ⟨_, rfl, by rw [rep_snoc, List.map_append]; rfl, rfl⟩
  · skip
    rintro acc os' hal ⟨rfl, rfl⟩
    refine a_nil ?_
    refine o_all ?_
    simpa using kP

theorem ok_is_put {P : Program} {w : World} {K : PySem.W.Frag} {mg : Str → Option Value} {base : Heap} (T : Txt K mg) (D_is_text : Df P w K mg base 1 "is_text" ["value"] (fs_isText)) : Df P w K mg base 2 "is_put" ["value"] (fs_isPut) := by
  refine df_ok T.d_is_put sc_is_put (fun Fs os Post ⟨_, e, _⟩ => by rw [e]; rfl) ?_
  rintro cdv f A outer s H XE hr Fs os Post ⟨z, rfl, hz, hlow, kP⟩
  refine s_cons ?_
  refine s1_ret ?_
  refine e_and ?_
  refine e_call D_is_text (hr.mono (by decide)) rfl ?_
  refine a_cons ?_
  refine e_var 0 rfl (.inl rfl) rfl ?_
  refine a_nil ?_
  refine ⟨z, rfl, by omega, hlow, ?_⟩
  refine ⟨_, rfl, fun b0 => ?_, fun b0 => absurd b0 (by simp)⟩
  refine e_one ?_
  refine e_cmp op_le (nomark _) ?_
  refine e_callB call_lenU rfl T.n_len (by decide +kernel) ?_
  refine a_cons ?_
  refine e_var 0 rfl (.inl rfl) rfl ?_
  refine a_nil ?_
  refine o_len_S (by rw [ss_len]; omega) ?_
  rw [ss_len]
  refine e_globI rfl T.c_MOST_LETTERS ?_
  walk_at "o_le"
  rw [decide_eq_true (by omega)]
  exact kP

theorem ok_is_word {P : Program} {w : World} {K : PySem.W.Frag} {mg : Str → Option Value} {base : Heap} (T : Txt K mg) (D_is_put : Df P w K mg base 2 "is_put" ["value"] (fs_isPut)) : Df P w K mg base 3 "is_word" ["value"] (fs_isWord) := by
  refine df_ok T.d_is_word sc_is_word (fun Fs os Post ⟨_, e, _⟩ => by rw [e]; rfl) ?_
  rintro cdv f A outer s H XE hr Fs os Post ⟨z, rfl, hz1, hz, hlow, kP⟩
  refine s_cons ?_
  refine s1_ret ?_
  refine e_and ?_
  refine e_call D_is_put (hr.mono (by decide)) rfl ?_
  refine a_cons ?_
  refine e_var 0 rfl (.inl rfl) rfl ?_
  refine a_nil ?_
  refine ⟨z, rfl, hz, hlow, ?_⟩
  refine ⟨_, rfl, fun b0 => ?_, fun b0 => absurd b0 (by simp)⟩
  refine e_one ?_
  refine e_cmp (op_neU hr.units) (nomark _) ?_
  refine e_var 0 rfl (.inl rfl) rfl ?_
  refine e_str ?_
  walk_at "o_ne"
  rw [show decide (ss z = ("" : Str)) = false from decide_eq_false fun e => by rw [ss_inj (e.trans (rfl : ("" : Str) = ss []))] at hz1; exact absurd hz1 (by decide)]
  exact kP

theorem ok_check_text {P : Program} {w : World} {K : PySem.W.Frag} {mg : Str → Option Value} {base : Heap} (T : Txt K mg) (D_is_text : Df P w K mg base 1 "is_text" ["value"] (fs_isText)) : Df P w K mg base 2 "check_text" ["value"] (fs_check) := by
  refine df_ok T.d_check_text sc_check_text (fun Fs os Post ⟨_, e, _⟩ => by rw [e]; rfl) ?_
  rintro cdv f A outer s H XE hr Fs os Post ⟨z, rfl, hz, hlow, kP⟩
  refine s_cons ?_
  refine s1_if ?_
  refine t_not ?_
  refine t_val (by intro _; rfl) ?_
  refine e_call D_is_text (hr.mono (by decide)) rfl ?_
  refine a_cons ?_
  refine e_var 0 rfl (.inl rfl) rfl ?_
  refine a_nil ?_
  refine ⟨z, rfl, by omega, hlow, ?_⟩
  refine ⟨_, rfl, ?_⟩
  refine ⟨fun b0 => ?_, fun b0 => ?_⟩
  · skip
    exact absurd b0 (by simp) --stop
  · skip
    refine s_nil ?_
    refine s_nil ?_
    exact kP

theorem ok_is_integer {P : Program} {w : World} {K : PySem.W.Frag} {mg : Str → Option Value} {base : Heap} (T : Txt K mg)  : Df P w K mg base 1 "is_integer" ["value"] (fs_isInt) := by
  refine df_ok T.d_is_integer sc_is_integer (fun Fs os Post ⟨_, e, _⟩ => by rw [e]; rfl) ?_
  rintro cdv f A outer s H XE hr Fs os Post ⟨i, rfl, kP⟩
  refine s_cons ?_
  refine s1_ret ?_
  refine e_and ?_
  refine e_callB call_isi rfl T.n_isinstance (by decide +kernel) ?_
  refine a_cons ?_
  refine e_var 0 rfl (.inl rfl) rfl ?_
  refine a_cons ?_
  refine e_bltn (n := "int") rfl T.n_int (by decide +kernel) ?_
  refine a_nil ?_
  walk_at "o_isinstance"
  refine ⟨_, rfl, fun b0 => ?_, fun b0 => absurd b0 (by simp)⟩
  refine e_one ?_
  refine e_not ?_
  refine e_callB call_isi rfl T.n_isinstance (by decide +kernel) ?_
  refine a_cons ?_
  refine e_var 0 rfl (.inl rfl) rfl ?_
  refine a_cons ?_
  refine e_bltn (n := "bool") rfl T.n_bool (by decide +kernel) ?_
  refine a_nil ?_
  refine o_isi (r := false) tyf_I (by decide +kernel) ?_
  refine ⟨_, rfl, ?_⟩
  exact kP

theorem ok_is_between {P : Program} {w : World} {K : PySem.W.Frag} {mg : Str → Option Value} {base : Heap} (T : Txt K mg) (D_is_integer : Df P w K mg base 1 "is_integer" ["value"] (fs_isInt)) : Df P w K mg base 2 "is_between" ["value", "low", "high"] (fs_between) := by
  refine df_ok T.d_is_between sc_is_between (fun Fs os Post ⟨_, _, _, e, _⟩ => by rw [e]; rfl) ?_
  rintro cdv f A outer s H XE hr Fs os Post ⟨i, lo, hi, rfl, h1, h2, kP⟩
  refine s_cons ?_
  refine s1_ret ?_
  refine e_and ?_
  refine e_call D_is_integer (hr.mono (by decide)) rfl ?_
  refine a_cons ?_
  refine e_var 0 rfl (.inl rfl) rfl ?_
  refine a_nil ?_
  refine ⟨i, rfl, ?_⟩
  refine ⟨_, rfl, fun b0 => ?_, fun b0 => absurd b0 (by simp)⟩
  refine e_one ?_
  refine e_chain op_le op_le ?_
  refine e_var 1 rfl (.inl rfl) rfl ?_
  refine e_var 0 rfl (.inl rfl) rfl ?_
  walk_at "o_le"
  refine ⟨_, rfl, fun _ => ?_, fun z => absurd z (by simp <;> omega)⟩
  refine e_var 2 rfl (.inl rfl) rfl ?_
  walk_at "o_le"
  rw [decide_eq_true (by omega)]
  exact kP

end G
namespace G
open PySem L2 TL

local macro_rules | `(tactic| walk_at "mem") => `(tactic| (first | exact List.mem_cons_self | exact List.mem_cons_of_mem _ List.mem_cons_self | exact List.mem_cons_of_mem _ (List.mem_cons_of_mem _ List.mem_cons_self) | exact List.mem_cons_of_mem _ (List.mem_cons_of_mem _ (List.mem_cons_of_mem _ List.mem_cons_self))))
local macro_rules | `(tactic| walk_at "o_isinstance") => `(tactic| (first | refine o_isi (r := true) tyf_S (by decide +kernel) ?_ | refine o_isi (r := true) tyf_T (by decide +kernel) ?_ | refine o_isi (r := true) tyf_L (by decide +kernel) ?_ | refine o_isi (r := true) tyf_I (by decide +kernel) ?_ | refine o_isi (r := true) tyf_B (by decide +kernel) ?_ | refine o_isi (r := false) tyf_S (by decide +kernel) ?_ | refine o_isi (r := false) tyf_T (by decide +kernel) ?_ | refine o_isi (r := false) tyf_L (by decide +kernel) ?_ | refine o_isi (r := false) tyf_I (by decide +kernel) ?_ | refine o_isi (r := false) tyf_B (by decide +kernel) ?_))
local macro_rules | `(tactic| walk_at "o_startswith") => `(tactic| (refine o_starts ?_; rw [starts_ss]))
local macro_rules | `(tactic| walk_at "sz") => `(tactic| (first | omega | (simp <;> omega) | decide))
local macro_rules | `(tactic| walk_at "len") => `(tactic| (first | decide | omega | (simp only [List.length_map]; omega) | (simp; done) | (simp; omega)))
local macro_rules | `(tactic| walk_at "num") => `(tactic| (first | omega | (simp <;> omega) | decide))
local macro_rules | `(tactic| walk_at "o_add") => `(tactic| (first | refine o_add_int ?_ | refine o_add_str (by walk_at "sz") ?_ | refine o_add_lst (by walk_at "sz") ?_ | refine o_add_tup (by walk_at "sz") ?_))
local macro_rules | `(tactic| walk_at "o_iadd") => `(tactic| (first | refine o_iadd_int ?_ | refine o_iadd_str (by walk_at "sz") ?_))
local macro_rules | `(tactic| walk_at "o_sub") => `(tactic| refine o_sub ?_)
local macro_rules | `(tactic| walk_at "o_mul") => `(tactic| refine o_mul (by first | exact .inl (by omega) | exact .inr (by omega)) ?_)
local macro_rules | `(tactic| walk_at "o_mod") => `(tactic| refine o_mod (by first | omega | decide) ?_)
local macro_rules | `(tactic| walk_at "o_eq") => `(tactic| (first | refine o_eq_str ?_ | refine o_eq_int ?_ | refine o_eq_bl ?_))
local macro_rules | `(tactic| walk_at "o_ne") => `(tactic| (first | refine o_ne_str ?_ | refine o_ne_int ?_ | refine o_ne_bl ?_))
local macro_rules | `(tactic| walk_at "o_lt") => `(tactic| refine o_lt ?_)
local macro_rules | `(tactic| walk_at "o_le") => `(tactic| refine o_le ?_)
local macro_rules | `(tactic| walk_at "o_gt") => `(tactic| refine o_gt ?_)
local macro_rules | `(tactic| walk_at "o_ge") => `(tactic| refine o_ge ?_)
local macro_rules | `(tactic| walk_at "o_int") => `(tactic| (first | refine o_int_i ?_ | refine o_int_b ?_))
local macro_rules | `(tactic| walk_at "o_len") => `(tactic| (first | refine o_len_L ?_ | refine o_len_T ?_ | refine o_len_S (by walk_at "sz") ?_ | refine o_len_scr ?_))
local macro_rules | `(tactic| walk_at "o_abs") => `(tactic| refine o_abs ?_)
local macro_rules | `(tactic| walk_at "o_max") => `(tactic| refine o_max2 ?_)
local macro_rules | `(tactic| walk_at "o_min") => `(tactic| refine o_min2 ?_)
local macro_rules | `(tactic| walk_at "ty") => `(tactic| (first | exact ty_str | exact ty_L | exact ty_own List.mem_cons_self | exact ty_own (List.mem_cons_of_mem _ List.mem_cons_self) | exact ty_own (List.mem_cons_of_mem _ (List.mem_cons_of_mem _ List.mem_cons_self))))

theorem ok_are_pairs {P : Program} {w : World} {K : PySem.W.Frag} {mg : Str → Option Value} {base : Heap} (T : Txt K mg) (D_is_tuple : Df P w K mg base 1 "is_tuple" ["value", "many"] (fs_isTuple)) (D_is_word : Df P w K mg base 3 "is_word" ["value"] (fs_isWord)) (D_is_put : Df P w K mg base 2 "is_put" ["value"] (fs_isPut)) : Df P w K mg base 4 "are_pairs" ["value"] (fs_pairs) := by
  refine df_ok T.d_are_pairs sc_are_pairs (fun Fs os Post ⟨_, e, _⟩ => by rw [e]; rfl) ?_
  rintro cdv f A outer s H XE hr Fs os Post ⟨ps, rfl, hg, kP⟩
  refine s_cons ?_
  refine s1_if ?_
  refine t_w ?_
  refine w_or ?_
  refine t_not ?_
  refine t_val (by intro _; rfl) ?_
  refine e_callB call_isi rfl T.n_isinstance (by decide +kernel) ?_
  refine a_cons ?_
  refine e_var 0 rfl (.inl rfl) rfl ?_
  refine a_cons ?_
  refine e_bltn (n := "tuple") rfl T.n_tuple (by decide +kernel) ?_
  refine a_nil ?_
  walk_at "o_isinstance"
  refine ⟨_, rfl, ?_⟩
  refine ⟨fun b0 => absurd b0 (by simp), fun b0 => ?_⟩
  refine w_or1 ?_
  refine t_not ?_
  refine t_chain op_le op_le ?_
  refine e_int ?_
  refine e_callB call_lenU rfl T.n_len (by decide +kernel) ?_
  refine a_cons ?_
  refine e_var 0 rfl (.inl rfl) rfl ?_
  refine a_nil ?_
  refine o_len_T ?_
  rw [List.length_map]
  walk_at "o_le"
  refine ⟨_, rfl, fun _ => ?_, fun z => absurd z (by have := hg.n1; simp [this] <;> omega)⟩
  refine e_globI rfl T.c_MOST_PAIRS ?_
  walk_at "o_le"
  refine ⟨_, rfl, ?_⟩
  refine ⟨fun b1 => ?_, fun b1 => ?_⟩
  · skip
    exact absurd b1 (by have := hg.n3; simp <;> omega) --stop
  · skip
    refine s_nil ?_
    refine s_cons ?_
    refine s1_if ?_
    refine t_not ?_
    refine t_val (by intro _; rfl) ?_
    refine e_callB (cr_all rfl) rfl T.n_all (by decide +kernel) ?_
    refine a_cons ?_
    refine e_lc rfl sc_are_pairs.nd [("pair", 1)] (blkOk_by (show blkC ["value", "pair", "find", "put"] (defScope s_are_pairs) _ [("pair", 1)] = true by decide +kernel)) ?_
    refine wk_tup ?_
    refine e_var 0 rfl (.inl rfl) rfl ?_
    refine ⟨_, rfl, ?_⟩
    refine ⟨fun i acc os' => acc = (List.replicate i true).map fBl ∧ os = os', ⟨rfl, rfl⟩, ?_, by rw [List.length_map]; have := hg.n3; omega, ?_⟩
    · skip
      rintro i F acc os' D hF ⟨rfl, rfl⟩ hacc B
      obtain ⟨q, hq, rfl⟩ := map_at hF
      obtain ⟨g1, g2, g3, g4, g5⟩ := hg.at_ hq
      refine g_name 1 sc_are_pairs.nd rfl (.inl rfl) (by decide) ?_
      intro B2
      refine e_and ?_
      refine e_call D_is_tuple (hr.mono (by decide)) rfl ?_
      refine a_cons ?_
      refine e_var 1 rfl (.inl rfl) rfl ?_
      refine a_cons ?_
      refine e_globI rfl T.c_PAIR ?_
      refine a_nil ?_
      refine ⟨_, 2, rfl, rfl, ?_⟩
      refine ⟨_, rfl, fun b2 => ?_, fun b2 => absurd b2 (by simp)⟩
      refine e_and ?_
      refine e_call D_is_word (hr.mono (by decide)) rfl ?_
      refine a_cons ?_
      refine e_ix ix_seq (fun _ _ => rfl) ?_
      refine e_var 1 rfl (.inl rfl) rfl ?_
      refine e_int ?_
      refine o_ix_T (F := fS q.1) rfl ?_
      refine a_nil ?_
      refine ⟨q.1, rfl, g1, g2, g3, ?_⟩
      refine ⟨_, rfl, fun b3 => ?_, fun b3 => absurd b3 (by simp)⟩
      refine e_one ?_
      refine e_call D_is_put (hr.mono (by decide)) rfl ?_
      refine a_cons ?_
      refine e_ix ix_seq (fun _ _ => rfl) ?_
      refine e_var 1 rfl (.inl rfl) rfl ?_
      refine e_int ?_
      refine o_ix_T (F := fS q.2) rfl ?_
      refine a_nil ?_
      refine ⟨q.2, rfl, g4, g5, ?_⟩
      exact ⟨_, rfl, by rw [rep_snoc, List.map_append]; rfl, rfl⟩
    · skip
      rintro acc os' hal ⟨rfl, rfl⟩
      refine a_nil ?_
      refine o_all ?_
      refine ⟨_, rfl, ?_⟩
      refine ⟨fun b4 => ?_, fun b4 => ?_⟩
      · skip
        exact absurd b4 (by simp) --stop
      · skip
        refine s_nil ?_
        refine s_cons ?_
        refine s1_ret ?_
        refine e_cmp (op_eqU hr.units) (nomark _) ?_
        refine e_lenSet rfl rfl T.n_len rfl T.n_set ?_
        refine e_lc rfl sc_are_pairs.nd [("find", 2), ("put", 3)] (blkOk_by (show blkC ["value", "pair", "find", "put"] (defScope s_are_pairs) _ [("find", 2), ("put", 3)] = true by decide +kernel)) ?_
        refine wk_tup ?_
        refine e_var 0 rfl (.inl rfl) rfl ?_
        refine ⟨_, rfl, ?_⟩
        refine ⟨fun i acc os' => acc = ((ps.take i).map fun p => fS p.1) ∧ os = os', ⟨rfl, rfl⟩, ?_, by rw [List.length_map]; have := hg.n3; omega, ?_⟩
        · skip
          rintro i F acc os' D hF ⟨rfl, rfl⟩ hacc B
          obtain ⟨q, hq, rfl⟩ := map_at hF
          refine g_tup rfl rfl ?_
          refine gs_cons ?_
          refine g_name 2 sc_are_pairs.nd rfl (.inl rfl) (by decide) ?_
          refine gs_cons ?_
          refine g_name 3 sc_are_pairs.nd rfl (.inl rfl) (by decide) ?_
          refine gs_nil ?_
          intro B2
          refine e_var 2 rfl (.inl rfl) rfl ?_
          refine ⟨_, rfl, ?_, rfl⟩
          rw [take_more hq, List.map_append]; rfl
        · skip
          rintro acc os' hal ⟨rfl, rfl⟩
          rw [List.length_map, List.take_length]
          refine ⟨(ps.map (·.1)).map ss, by rw [List.map_map, List.map_map]; rfl, by rw [List.length_map, List.length_map]; have := hg.n3; omega, ?_⟩
          refine e_callB call_lenU rfl T.n_len (by decide +kernel) ?_
          refine a_cons ?_
          refine e_var 0 rfl (.inl rfl) rfl ?_
          refine a_nil ?_
          refine o_len_T ?_
          rw [List.length_map]
          walk_at "o_eq"
          have e1 : cnt ((ps.map (·.1)).map ss) = ps.length := by
            rw [(cnt_eq _).mpr ?_, List.length_map, List.length_map]
            exact List.Pairwise.map ss (fun a b h e => h (ss_inj e)) hg.nd
          rw [e1, decide_eq_true rfl]
          exact kP

end G
namespace G
open PySem L2 TL

local macro_rules | `(tactic| walk_at "mem") => `(tactic| (first | exact List.mem_cons_self | exact List.mem_cons_of_mem _ List.mem_cons_self | exact List.mem_cons_of_mem _ (List.mem_cons_of_mem _ List.mem_cons_self) | exact List.mem_cons_of_mem _ (List.mem_cons_of_mem _ (List.mem_cons_of_mem _ List.mem_cons_self))))
local macro_rules | `(tactic| walk_at "o_isinstance") => `(tactic| (first | refine o_isi (r := true) tyf_S (by decide +kernel) ?_ | refine o_isi (r := true) tyf_T (by decide +kernel) ?_ | refine o_isi (r := true) tyf_L (by decide +kernel) ?_ | refine o_isi (r := true) tyf_I (by decide +kernel) ?_ | refine o_isi (r := true) tyf_B (by decide +kernel) ?_ | refine o_isi (r := false) tyf_S (by decide +kernel) ?_ | refine o_isi (r := false) tyf_T (by decide +kernel) ?_ | refine o_isi (r := false) tyf_L (by decide +kernel) ?_ | refine o_isi (r := false) tyf_I (by decide +kernel) ?_ | refine o_isi (r := false) tyf_B (by decide +kernel) ?_))
local macro_rules | `(tactic| walk_at "o_startswith") => `(tactic| (refine o_starts ?_; rw [starts_ss]))
local macro_rules | `(tactic| walk_at "sz") => `(tactic| (first | omega | (simp <;> omega) | decide))
local macro_rules | `(tactic| walk_at "len") => `(tactic| (first | decide | omega | (simp only [List.length_map]; omega) | (simp; done) | (simp; omega)))
local macro_rules | `(tactic| walk_at "num") => `(tactic| (first | omega | (simp <;> omega) | decide))
local macro_rules | `(tactic| walk_at "o_add") => `(tactic| (first | refine o_add_int ?_ | refine o_add_str (by walk_at "sz") ?_ | refine o_add_lst (by walk_at "sz") ?_ | refine o_add_tup (by walk_at "sz") ?_))
local macro_rules | `(tactic| walk_at "o_iadd") => `(tactic| (first | refine o_iadd_int ?_ | refine o_iadd_str (by walk_at "sz") ?_))
local macro_rules | `(tactic| walk_at "o_sub") => `(tactic| refine o_sub ?_)
local macro_rules | `(tactic| walk_at "o_mul") => `(tactic| refine o_mul (by first | exact .inl (by omega) | exact .inr (by omega)) ?_)
local macro_rules | `(tactic| walk_at "o_mod") => `(tactic| refine o_mod (by first | omega | decide) ?_)
local macro_rules | `(tactic| walk_at "o_eq") => `(tactic| (first | refine o_eq_str ?_ | refine o_eq_int ?_ | refine o_eq_bl ?_))
local macro_rules | `(tactic| walk_at "o_ne") => `(tactic| (first | refine o_ne_str ?_ | refine o_ne_int ?_ | refine o_ne_bl ?_))
local macro_rules | `(tactic| walk_at "o_lt") => `(tactic| refine o_lt ?_)
local macro_rules | `(tactic| walk_at "o_le") => `(tactic| refine o_le ?_)
local macro_rules | `(tactic| walk_at "o_gt") => `(tactic| refine o_gt ?_)
local macro_rules | `(tactic| walk_at "o_ge") => `(tactic| refine o_ge ?_)
local macro_rules | `(tactic| walk_at "o_int") => `(tactic| (first | refine o_int_i ?_ | refine o_int_b ?_))
local macro_rules | `(tactic| walk_at "o_len") => `(tactic| (first | refine o_len_L ?_ | refine o_len_T ?_ | refine o_len_S (by walk_at "sz") ?_ | refine o_len_scr ?_))
local macro_rules | `(tactic| walk_at "o_abs") => `(tactic| refine o_abs ?_)
local macro_rules | `(tactic| walk_at "o_max") => `(tactic| refine o_max2 ?_)
local macro_rules | `(tactic| walk_at "o_min") => `(tactic| refine o_min2 ?_)
local macro_rules | `(tactic| walk_at "ty") => `(tactic| (first | exact ty_str | exact ty_L | exact ty_own List.mem_cons_self | exact ty_own (List.mem_cons_of_mem _ List.mem_cons_self) | exact ty_own (List.mem_cons_of_mem _ (List.mem_cons_of_mem _ List.mem_cons_self))))

abbrev s_Exchangeu_initu : Stmt := inClass (top 34) 0
theorem sc_Exchangeu_initu : FnScope ["self", "pairs", "way"] ["self", "pairs", "way"] (defScope s_Exchangeu_initu) := ⟨rfl, rfl, rfl, by decide +kernel, rfl, by decide +kernel, by decide +kernel⟩

abbrev s_Exchange_pairs : Stmt := inClass (top 34) 1
theorem sc_Exchange_pairs : FnScope ["self"] ["self"] (defScope s_Exchange_pairs) := ⟨rfl, rfl, rfl, by decide +kernel, rfl, by decide +kernel, by decide +kernel⟩

abbrev s_Exchange_way : Stmt := inClass (top 34) 2
theorem sc_Exchange_way : FnScope ["self"] ["self"] (defScope s_Exchange_way) := ⟨rfl, rfl, rfl, by decide +kernel, rfl, by decide +kernel, by decide +kernel⟩

abbrev s_Exchangeu_callu : Stmt := inClass (top 34) 5
theorem sc_Exchangeu_callu : FnScope ["self", "text"] ["self", "text"] (defScope s_Exchangeu_callu) := ⟨rfl, rfl, rfl, by decide +kernel, rfl, by decide +kernel, by decide +kernel⟩

structure TxtX (K : PySem.W.Frag) (mg : Str → Option Value) (C : Addr) : Prop where
  cl : Cls K C
  nP : NoAttr K C "own_pairs"
  nW : NoAttr K C "own_way"
  mgC : mg "Exchange" = some (.ref C)
  init : ∃ f fd, Mk K C f ∧ Fun K "__init__" "Exchange.__init__" s_Exchangeu_initu f fd
  pP : ∃ q f fd, PropOf K C "pairs" q f ∧ Fun K "pairs" "Exchange.pairs" s_Exchange_pairs f fd ∧ Binds K fd ["self"] []
  pW : ∃ q f fd, PropOf K C "way" q f ∧ Fun K "way" "Exchange.way" s_Exchange_way f fd ∧ Binds K fd ["self"] []
  call : ∃ f fd, StX.CallO K C f ∧ Fun K "__call__" "Exchange.__call__" s_Exchangeu_callu f fd ∧ Binds K fd ["self", "text"] []

abbrev s_Rowu_initu : Stmt := inClass (top 36) 0
theorem sc_Rowu_initu : FnScope ["self", "steps", "step"] ["self", "steps"] (defScope s_Rowu_initu) := ⟨rfl, rfl, rfl, by decide +kernel, rfl, by decide +kernel, by decide +kernel⟩

abbrev s_Rowu_callu : Stmt := inClass (top 36) 4
theorem sc_Rowu_callu : FnScope ["self", "text", "step"] ["self", "text"] (defScope s_Rowu_callu) := ⟨rfl, rfl, rfl, by decide +kernel, rfl, by decide +kernel, by decide +kernel⟩

abbrev s_Rowu_lenu : Stmt := inClass (top 36) 5
theorem sc_Rowu_lenu : FnScope ["self"] ["self"] (defScope s_Rowu_lenu) := ⟨rfl, rfl, rfl, by decide +kernel, rfl, by decide +kernel, by decide +kernel⟩

abbrev s_Row_piece : Stmt := inClass (top 36) 8
theorem sc_Row_piece : FnScope ["self", "first", "behind", "many"] ["self", "first", "behind"] (defScope s_Row_piece) := ⟨rfl, rfl, rfl, by decide +kernel, rfl, by decide +kernel, by decide +kernel⟩

structure TxtR (K : PySem.W.Frag) (mg : Str → Option Value) (C R : Addr) : Prop where
  cl : Cls K R
  nS : NoAttr K R "own_steps"
  isi : SlX.SIsi K C
  mgR : mg "Row" = some (.ref R)
  init : ∃ f fd E0, Mk K R f ∧ FunD K "__init__" "Row.__init__" (defArgs s_Rowu_initu) (defBody s_Rowu_initu) (defScope s_Rowu_initu) [.ref E0] [] f fd ∧ Binds K fd ["self", "steps"] [] ∧ (∃ ds, Vals [V.ref E0] ds ∧ Binds K fd ["self", "steps"] ds) ∧ ∀ ms H, (fT []).r K ms H (.ref E0)
  call : ∃ f fd, StX.CallO K R f ∧ Fun K "__call__" "Row.__call__" s_Rowu_callu f fd ∧ Binds K fd ["self", "text"] []
  len : ∃ f fd, PySem.W.findIn K (.ref R) "__len__" = some (some (.ref f)) ∧ PySem.W.isFn K (.ref f) = true ∧ Fun K "__len__" "Row.__len__" s_Rowu_lenu f fd ∧ Binds K fd ["self"] []
  piece : ∃ f fd, Meth K R "piece" f ∧ Fun K "piece" "Row.piece" s_Row_piece f fd ∧ Binds K fd ["self", "first", "behind"] []

theorem ok_get_pairs {P : Program} {w : World} {K : PySem.W.Frag} {mg : Str → Option Value} {base : Heap} {C : Addr} (TX : TxtX K mg C) {f : Addr} {fd : FuncData} (F : Fun K "pairs" "Exchange.pairs" s_Exchange_pairs f fd) : Fd P w K mg base 1 f fd ["self"] (fs_get C 0) := by
  refine fd_ok F sc_Exchange_pairs (fun Fs os Post ⟨_, _, e, _⟩ => by rw [e]; rfl) ?_
  rintro cdv f A outer s H XE hr Fs os Post ⟨Gs, G, rfl, hG, kP⟩
  refine s_cons ?_
  refine s1_ret ?_
  refine e_fld 0 ?_
  refine e_var 0 rfl (.inl rfl) rfl ?_
  refine ⟨C, OWN, _, _, rfl, TX.cl, TX.nP, rfl, by decide, hG, ?_⟩
  exact kP

theorem ok_get_way {P : Program} {w : World} {K : PySem.W.Frag} {mg : Str → Option Value} {base : Heap} {C : Addr} (TX : TxtX K mg C) {f : Addr} {fd : FuncData} (F : Fun K "way" "Exchange.way" s_Exchange_way f fd) : Fd P w K mg base 1 f fd ["self"] (fs_get C 1) := by
  refine fd_ok F sc_Exchange_way (fun Fs os Post ⟨_, _, e, _⟩ => by rw [e]; rfl) ?_
  rintro cdv f A outer s H XE hr Fs os Post ⟨Gs, G, rfl, hG, kP⟩
  refine s_cons ?_
  refine s1_ret ?_
  refine e_fld 1 ?_
  refine e_var 0 rfl (.inl rfl) rfl ?_
  refine ⟨C, OWN, _, _, rfl, TX.cl, TX.nW, rfl, by decide, hG, ?_⟩
  exact kP

theorem ok_init {P : Program} {w : World} {K : PySem.W.Frag} {mg : Str → Option Value} {base : Heap} {C : Addr} (T : Txt K mg) (TX : TxtX K mg C) (D_are_pairs : Df P w K mg base 4 "are_pairs" ["value"] (fs_pairs)) {f : Addr} {fd : FuncData} (F : Fun K "__init__" "Exchange.__init__" s_Exchangeu_initu f fd) : Fd P w K mg base 5 f fd ["self", "pairs", "way"] (fs_init C) := by
  refine fd_ok F sc_Exchangeu_initu (fun Fs os Post ⟨_, _, _, _, e, _⟩ => by rw [e]; rfl) ?_
  rintro cdv f A outer s H XE hr Fs os Post ⟨o, dx, x, os0, rfl, rfl, hg, kP⟩
  refine s_cons ?_
  refine s1_if ?_
  refine t_not ?_
  refine t_val (by intro _; rfl) ?_
  refine e_call D_are_pairs (hr.mono (by decide)) rfl ?_
  refine a_cons ?_
  refine e_var 1 rfl (.inl rfl) rfl ?_
  refine a_nil ?_
  refine ⟨x.1, rfl, hg, ?_⟩
  refine ⟨_, rfl, ?_⟩
  refine ⟨fun b0 => ?_, fun b0 => ?_⟩
  · skip
    exact absurd b0 (by simp) --stop
  · skip
    refine s_nil ?_
    refine s_cons ?_
    refine s1_if ?_
    refine t_w ?_
    refine w_or ?_
    refine t_not ?_
    refine t_val (by intro _; rfl) ?_
    refine e_callB call_isi rfl T.n_isinstance (by decide +kernel) ?_
    refine a_cons ?_
    refine e_var 2 rfl (.inl rfl) rfl ?_
    refine a_cons ?_
    refine e_bltn (n := "str") rfl T.n_str (by decide +kernel) ?_
    refine a_nil ?_
    walk_at "o_isinstance"
    refine ⟨_, rfl, ?_⟩
    refine ⟨fun b1 => absurd b1 (by simp), fun b1 => ?_⟩
    refine w_or1 ?_
    refine t_cmp op_notInU rfl ?_
    refine e_var 2 rfl (.inl rfl) rfl ?_
    refine e_tup ?_
    refine a_cons ?_
    refine e_globS rfl T.c_FIRST ?_
    refine a_cons ?_
    refine e_globS rfl T.c_LONGEST ?_
    refine a_nil ?_
    refine ⟨by first | decide | (simp; done), ?_⟩
    refine o_notIn_strsT (z := wayS x.2) (zs := ["first", "longest"]) ?_
    refine ⟨_, rfl, ?_⟩
    refine ⟨fun b2 => ?_, fun b2 => ?_⟩
    · skip
      exact absurd b2 (by cases x.2 <;> decide) --stop
    · skip
      refine s_nil ?_
      refine s_cons ?_
      refine s1_fldNew ?_
      refine e_var 1 rfl (.inl rfl) rfl ?_
      refine e_var 0 rfl (.inl rfl) rfl ?_
      refine ⟨0, C, dx, o, [], [], rfl, rfl, TX.cl, TX.nP, by decide, rfl, by decide, ?_⟩
      refine s_cons ?_
      refine s1_fldNew ?_
      refine e_var 2 rfl (.inl rfl) rfl ?_
      refine e_var 0 rfl (.inl rfl) rfl ?_
      refine ⟨0, C, dx, o, ["own_pairs"], _, rfl, rfl, TX.cl, TX.nW, by decide, rfl, by decide, ?_⟩
      refine s_nil ?_
      exact kP

theorem ok_call {P : Program} {w : World} {K : PySem.W.Frag} {mg : Str → Option Value} {base : Heap} {C : Addr} (T : Txt K mg) (TX : TxtX K mg C) (D_check_text : Df P w K mg base 2 "check_text" ["value"] (fs_check)) (D_flow : Df P w K mg base 4 "flow" ["exchange", "letters", "is_end"] (fs_flow C)) (D_joined : Df P w K mg base 1 "joined" ["pieces"] (fs_joined)) {f : Addr} {fd : FuncData} (F : Fun K "__call__" "Exchange.__call__" s_Exchangeu_callu f fd) : Fd P w K mg base 5 f fd ["self", "text"] (fs_callX C) := by
  refine fd_ok F sc_Exchangeu_callu (fun Fs os Post ⟨_, _, e, _⟩ => by rw [e]; rfl) ?_
  rintro cdv f A outer s H XE hr Fs os Post ⟨x, z, rfl, hg, hz, hlow, kP⟩
  refine s_cons ?_
  refine s1_expr ?_
  refine e_call D_check_text (hr.mono (by decide)) rfl ?_
  refine a_cons ?_
  refine e_var 1 rfl (.inl rfl) rfl ?_
  refine a_nil ?_
  refine ⟨z, rfl, by omega, hlow, ?_⟩
  refine s_cons ?_
  refine s1_ret ?_
  refine e_call D_joined (hr.mono (by decide)) rfl ?_
  refine a_cons ?_
  refine e_ix ix_seq (fun _ _ => rfl) ?_
  refine e_call D_flow (hr.mono (by decide)) rfl ?_
  refine a_cons ?_
  refine e_var 0 rfl (.inl rfl) rfl ?_
  refine a_cons ?_
  refine e_var 1 rfl (.inl rfl) rfl ?_
  refine a_cons ?_
  refine e_bl ?_
  refine a_nil ?_
  refine ⟨x, z, rfl, hg, hz, hlow, fun qs hq hq1 hq2 => ?_⟩
  refine e_int ?_
  refine o_ix_T rfl ?_
  refine a_nil ?_
  refine ⟨qs, rfl, hq1, hq2, ?_⟩
  exact kP qs hq hq1 hq2

theorem ok_joined {P : Program} {w : World} {K : PySem.W.Frag} {mg : Str → Option Value} {base : Heap} (T : Txt K mg)  : Df P w K mg base 1 "joined" ["pieces"] (fs_joined) := by
  refine df_ok T.d_joined sc_joined (fun Fs os Post ⟨_, e, _⟩ => by rw [e]; rfl) ?_
  rintro cdv f A outer s H XE hr Fs os Post ⟨qs, rfl, hq1, hq2, kP⟩
  refine s_cons ?_
  refine s1_ret ?_
  refine e_bm PySem.F.plainAttrs_str PySem.F.slot_str_join PySem.F.type_str_join mt_join' ?_
  refine e_str ?_
  refine ⟨by walk_at "ty", ?_⟩
  refine a_cons ?_
  refine e_lc rfl sc_joined.nd [("number", 1), ("found", 2), ("written", 3)] (blkOk_by (show blkC ["pieces", "number", "found", "written"] (defScope s_joined) _ [("number", 1), ("found", 2), ("written", 3)] = true by decide +kernel)) ?_
  refine wk_list ?_
  refine e_var 0 rfl (.inl rfl) rfl ?_
  refine ⟨_, rfl, ?_⟩
  refine ⟨fun i acc os' => acc = ((qs.take i).map fun q => fS q.2.2) ∧ os = os', ⟨rfl, rfl⟩, ?_, by rw [List.length_map]; omega, ?_⟩
  · skip
    rintro i F acc os' D hF ⟨rfl, rfl⟩ hacc B
    obtain ⟨q, hq, rfl⟩ := map_at hF
    refine g_tup rfl rfl ?_
    refine gs_cons ?_
    refine g_name 1 sc_joined.nd rfl (.inl rfl) (by decide) ?_
    refine gs_cons ?_
    refine g_name 2 sc_joined.nd rfl (.inl rfl) (by decide) ?_
    refine gs_cons ?_
    refine g_name 3 sc_joined.nd rfl (.inl rfl) (by decide) ?_
    refine gs_nil ?_
    intro B2
    refine e_var 3 rfl (.inl rfl) rfl ?_
    refine ⟨_, rfl, ?_, rfl⟩
    rw [take_more hq, List.map_append]; rfl
  · skip
    rintro acc os' hal ⟨rfl, rfl⟩
    rw [List.length_map, List.take_length]
    refine a_nil ?_
    rw [show (qs.map fun q => fS q.2.2) = ((qs.map (·.2.2)).map ss).map fStr by rw [List.map_map, List.map_map]; rfl]
    refine o_join (out_bound hq1 hq2) ?_
    rw [show Txt.join "" ((qs.map (·.2.2)).map ss) = ss (outQ qs) by rw [show ("" : Str) = ss [] from rfl, join_ss, joinL_nil]; rfl]
    exact kP

end G
namespace G
open PySem L2 TL

local macro_rules | `(tactic| walk_at "mem") => `(tactic| (first | exact List.mem_cons_self | exact List.mem_cons_of_mem _ List.mem_cons_self | exact List.mem_cons_of_mem _ (List.mem_cons_of_mem _ List.mem_cons_self) | exact List.mem_cons_of_mem _ (List.mem_cons_of_mem _ (List.mem_cons_of_mem _ List.mem_cons_self))))
local macro_rules | `(tactic| walk_at "o_isinstance") => `(tactic| (first | refine o_isi (r := true) tyf_S (by decide +kernel) ?_ | refine o_isi (r := true) tyf_T (by decide +kernel) ?_ | refine o_isi (r := true) tyf_L (by decide +kernel) ?_ | refine o_isi (r := true) tyf_I (by decide +kernel) ?_ | refine o_isi (r := true) tyf_B (by decide +kernel) ?_ | refine o_isi (r := false) tyf_S (by decide +kernel) ?_ | refine o_isi (r := false) tyf_T (by decide +kernel) ?_ | refine o_isi (r := false) tyf_L (by decide +kernel) ?_ | refine o_isi (r := false) tyf_I (by decide +kernel) ?_ | refine o_isi (r := false) tyf_B (by decide +kernel) ?_))
local macro_rules | `(tactic| walk_at "o_startswith") => `(tactic| (refine o_starts ?_; rw [starts_ss]))
local macro_rules | `(tactic| walk_at "sz") => `(tactic| (first | omega | (simp <;> omega) | decide))
local macro_rules | `(tactic| walk_at "len") => `(tactic| (first | decide | omega | (simp only [List.length_map]; omega) | (simp; done) | (simp; omega)))
local macro_rules | `(tactic| walk_at "num") => `(tactic| (first | omega | (simp <;> omega) | decide))
local macro_rules | `(tactic| walk_at "o_add") => `(tactic| (first | refine o_add_int ?_ | refine o_add_str (by walk_at "sz") ?_ | refine o_add_lst (by walk_at "sz") ?_ | refine o_add_tup (by walk_at "sz") ?_))
local macro_rules | `(tactic| walk_at "o_iadd") => `(tactic| (first | refine o_iadd_int ?_ | refine o_iadd_str (by walk_at "sz") ?_))
local macro_rules | `(tactic| walk_at "o_sub") => `(tactic| refine o_sub ?_)
local macro_rules | `(tactic| walk_at "o_mul") => `(tactic| refine o_mul (by first | exact .inl (by omega) | exact .inr (by omega)) ?_)
local macro_rules | `(tactic| walk_at "o_mod") => `(tactic| refine o_mod (by first | omega | decide) ?_)
local macro_rules | `(tactic| walk_at "o_eq") => `(tactic| (first | refine o_eq_str ?_ | refine o_eq_int ?_ | refine o_eq_bl ?_))
local macro_rules | `(tactic| walk_at "o_ne") => `(tactic| (first | refine o_ne_str ?_ | refine o_ne_int ?_ | refine o_ne_bl ?_))
local macro_rules | `(tactic| walk_at "o_lt") => `(tactic| refine o_lt ?_)
local macro_rules | `(tactic| walk_at "o_le") => `(tactic| refine o_le ?_)
local macro_rules | `(tactic| walk_at "o_gt") => `(tactic| refine o_gt ?_)
local macro_rules | `(tactic| walk_at "o_ge") => `(tactic| refine o_ge ?_)
local macro_rules | `(tactic| walk_at "o_int") => `(tactic| (first | refine o_int_i ?_ | refine o_int_b ?_))
local macro_rules | `(tactic| walk_at "o_len") => `(tactic| (first | refine o_len_L ?_ | refine o_len_T ?_ | refine o_len_S (by walk_at "sz") ?_ | refine o_len_scr ?_))
local macro_rules | `(tactic| walk_at "o_abs") => `(tactic| refine o_abs ?_)
local macro_rules | `(tactic| walk_at "o_max") => `(tactic| refine o_max2 ?_)
local macro_rules | `(tactic| walk_at "o_min") => `(tactic| refine o_min2 ?_)
local macro_rules | `(tactic| walk_at "ty") => `(tactic| (first | exact ty_str | exact ty_L | exact ty_own List.mem_cons_self | exact ty_own (List.mem_cons_of_mem _ List.mem_cons_self) | exact ty_own (List.mem_cons_of_mem _ (List.mem_cons_of_mem _ List.mem_cons_self))))

theorem ok_first_at {P : Program} {w : World} {K : PySem.W.Frag} {mg : Str → Option Value} {base : Heap} {C : Addr} (T : Txt K mg) (TX : TxtX K mg C) : Df P w K mg base 3 "first_at" ["exchange", "rest", "is_end"] (fs_at C false) := by
  obtain ⟨qP, fP, fdP, pP, FP, bP⟩ := TX.pP
  obtain ⟨qW, fW, fdW, pW, FW, bW⟩ := TX.pW
  have GP := ok_get_pairs (P := P) (w := w) (base := base) TX FP
  have GW := ok_get_way (P := P) (w := w) (base := base) TX FW
  refine df_ok T.d_first_at sc_first_at (fun Fs os Post ⟨_, _, e, _⟩ => by rw [e]; rfl) ?_
  rintro cdv f A outer s H XE hr Fs os Post ⟨x, z, rfl, hg, hz, kP⟩
  refine s_cons ?_
  refine s1_for [3, 4, 5] PassesOwn.never rfl ?_
  refine wk_enumT rfl T.n_enumerate ?_
  refine a_cons ?_
  refine e_prop TX.cl pP GP (hr.mono (by decide)) bP ?_
  refine e_var 0 rfl (.inl rfl) rfl ?_
  refine ⟨⟨_, ins_I⟩, _, _, rfl, rfl, ?_⟩
  refine a_nil ?_
  refine ⟨_, rfl, ?_⟩
  refine ⟨fun i Γ' os' => ∃ g1 g2 g3 : Option Fact, Γ' = [some (fX C x), some (fS z), some (fBl true), g1, g2, g3] ∧ os = os' ∧ ∀ j q, j < i → x.1[j]? = some q → ¬ q.1 <+: z, ⟨none, none, none, rfl, rfl, fun j q hj => absurd hj (Nat.not_lt_zero _)⟩, ?_, ?_⟩
  · skip
    rintro i F Γ' os' hF ⟨g1, g2, g3, rfl, rfl, hno⟩
    obtain ⟨G, hG, rfl⟩ := enum_at hF
    obtain ⟨q, hq, rfl⟩ := map_at hG
    refine g_tup rfl rfl ?_
    refine gs_cons ?_
    refine g_name 3 sc_first_at.nd rfl (.inl rfl) (by decide) ?_
    refine gs_cons ?_
    refine g_tup rfl rfl ?_
    refine gs_cons ?_
    refine g_name 4 sc_first_at.nd rfl (.inl rfl) (by decide) ?_
    refine gs_cons ?_
    refine g_name 5 sc_first_at.nd rfl (.inl rfl) (by decide) ?_
    refine gs_nil ?_
    refine gs_nil ?_
    refine s_cons ?_
    refine s1_if ?_
    refine t_val (by intro _; rfl) ?_
    refine e_bm PySem.F.plainAttrs_str PySem.F.slot_str_startswith PySem.F.type_str_startswith mt_starts ?_
    refine e_var 1 rfl (.inl rfl) rfl ?_
    refine ⟨by walk_at "ty", ?_⟩
    refine a_cons ?_
    refine e_var 4 rfl (.inl rfl) rfl ?_
    refine a_nil ?_
    walk_at "o_startswith"
    refine ⟨_, rfl, ?_⟩
    refine ⟨fun b0 => ?_, fun b0 => ?_⟩
    · skip
      refine s_cons ?_
      refine s1_ret ?_
      refine e_var 3 rfl (.inl rfl) rfl ?_
      exact kP (some i) ⟨q, hq, by simpa using b0, fun j r hr hm => by rw [if_neg (by decide)]; exact Nat.le_of_not_lt fun h => hno j r h hr hm⟩
    · skip
      refine s_nil ?_
      refine s_cons ?_
      refine s1_if ?_
      refine t_w ?_
      refine w_and ?_
      refine t_not ?_
      refine t_val (by intro _; rfl) ?_
      refine e_var 2 rfl (.inl rfl) rfl ?_
      refine ⟨_, rfl, ?_⟩
      refine ⟨fun b1 => absurd b1 (by simp), fun b1 => ?_⟩
      refine ⟨fun b2 => ?_, fun b2 => ?_⟩
      · skip
        exact absurd b2 (by simp) --stop
      · skip
        refine s_nil ?_
        refine s_nil ?_
        exact ⟨_, _, _, rfl, rfl, fun j r hj hr => (Nat.lt_succ_iff_lt_or_eq.mp hj).elim (fun h => hno j r h hr) fun h => by rw [h, hq] at hr; cases hr; simpa using b0⟩
  · skip
    rintro Γ' os' ⟨g1, g2, g3, rfl, rfl, hno⟩
    rw [enum_len, List.length_map] at hno
    refine s_cons ?_
    refine s1_ret ?_
    refine e_non ?_
    exact kP none fun p hp hm => by
      obtain ⟨j, hj⟩ := List.getElem?_of_mem hp
      exact hno j p (List.getElem?_eq_some_iff.mp hj).1 hj hm

theorem ok_longest_at {P : Program} {w : World} {K : PySem.W.Frag} {mg : Str → Option Value} {base : Heap} {C : Addr} (T : Txt K mg) (TX : TxtX K mg C) : Df P w K mg base 3 "longest_at" ["exchange", "rest", "is_end"] (fs_at C true) := by
  obtain ⟨qP, fP, fdP, pP, FP, bP⟩ := TX.pP
  obtain ⟨qW, fW, fdW, pW, FW, bW⟩ := TX.pW
  have GP := ok_get_pairs (P := P) (w := w) (base := base) TX FP
  have GW := ok_get_way (P := P) (w := w) (base := base) TX FW
  refine df_ok T.d_longest_at sc_longest_at (fun Fs os Post ⟨_, _, e, _⟩ => by rw [e]; rfl) ?_
  rintro cdv f A outer s H XE hr Fs os Post ⟨x, z, rfl, hg, hz, kP⟩
  refine s_cons ?_
  refine s1_asg [3, 4] ?_
  refine e_tup ?_
  refine a_cons ?_
  refine e_non ?_
  refine a_cons ?_
  refine e_int ?_
  refine a_nil ?_
  refine ⟨by first | decide | (simp; done), ?_⟩
  refine g_tup rfl rfl ?_
  refine gs_cons ?_
  refine g_name 3 sc_longest_at.nd rfl (.inl rfl) (by decide) ?_
  refine gs_cons ?_
  refine g_name 4 sc_longest_at.nd rfl (.inl rfl) (by decide) ?_
  refine gs_nil ?_
  refine s_cons ?_
  refine s1_for [5, 6, 7] PassesOwn.never rfl ?_
  refine wk_enumT rfl T.n_enumerate ?_
  refine a_cons ?_
  refine e_prop TX.cl pP GP (hr.mono (by decide)) bP ?_
  refine e_var 0 rfl (.inl rfl) rfl ?_
  refine ⟨⟨_, ins_I⟩, _, _, rfl, rfl, ?_⟩
  refine a_nil ?_
  refine ⟨_, rfl, ?_⟩
  refine ⟨fun i Γ' os' => ∃ (g1 g2 g3 : Option Fact) (r : Option Nat) (m : Nat), Γ' = [some (fX C x), some (fS z), some (fBl true), some (fOpt r), some (fInt (m : Int)), g1, g2, g3] ∧ os = os' ∧ Lg x.1 z i r m, ⟨none, none, none, none, 0, rfl, rfl, Lg.start⟩, ?_, ?_⟩
  · skip
    rintro i F Γ' os' hF ⟨g1, g2, g3, r, m, rfl, rfl, hno⟩
    obtain ⟨G, hG, rfl⟩ := enum_at hF
    obtain ⟨q, hq, rfl⟩ := map_at hG
    obtain ⟨p1, p2, p3, p4, p5⟩ := hg.at_ hq
    refine g_tup rfl rfl ?_
    refine gs_cons ?_
    refine g_name 5 sc_longest_at.nd rfl (.inl rfl) (by decide) ?_
    refine gs_cons ?_
    refine g_tup rfl rfl ?_
    refine gs_cons ?_
    refine g_name 6 sc_longest_at.nd rfl (.inl rfl) (by decide) ?_
    refine gs_cons ?_
    refine g_name 7 sc_longest_at.nd rfl (.inl rfl) (by decide) ?_
    refine gs_nil ?_
    refine gs_nil ?_
    refine s_cons ?_
    refine s1_if ?_
    refine t_w ?_
    refine w_and ?_
    refine t_not ?_
    refine t_val (by intro _; rfl) ?_
    refine e_var 2 rfl (.inl rfl) rfl ?_
    refine ⟨_, rfl, ?_⟩
    refine ⟨fun b0 => absurd b0 (by simp), fun b0 => ?_⟩
    refine ⟨fun b1 => ?_, fun b1 => ?_⟩
    · skip
      exact absurd b1 (by simp) --stop
    · skip
      refine s_nil ?_
      refine s_cons ?_
      refine s1_if ?_
      refine t_mono (P := fun c os' => c = (decide (q.1 <+: z) && decide ((q.1.length : Int) > (m : Int))) ∧ os = os') ?_ ?_
      · refine t_w ?_
        refine w_and ?_
        refine t_val (by intro _; rfl) ?_
        refine e_bm PySem.F.plainAttrs_str PySem.F.slot_str_startswith PySem.F.type_str_startswith mt_starts ?_
        refine e_var 1 rfl (.inl rfl) rfl ?_
        refine ⟨by walk_at "ty", ?_⟩
        refine a_cons ?_
        refine e_var 6 rfl (.inl rfl) rfl ?_
        refine a_nil ?_
        walk_at "o_startswith"
        refine ⟨_, rfl, ?_⟩
        refine ⟨fun c1 => ?_, fun c1 => ?_⟩
        · rw [c1]
          refine w_and1 ?_
          refine t_cmp op_gt (nomark _) ?_
          refine e_callB call_lenU rfl T.n_len (by decide +kernel) ?_
          refine a_cons ?_
          refine e_var 6 rfl (.inl rfl) rfl ?_
          refine a_nil ?_
          refine o_len_S (by rw [ss_len]; omega) ?_
          rw [ss_len]
          refine e_var 4 rfl (.inl rfl) rfl ?_
          walk_at "o_gt"
          refine ⟨_, rfl, ?_⟩
          exact ⟨rfl, rfl⟩
        · rw [c1]; exact ⟨rfl, rfl⟩
      rintro c os' ⟨rfl, rfl⟩
      refine ⟨fun b2 => ?_, fun b2 => ?_⟩
      · skip
        refine s_cons ?_
        refine s1_par (i := 3) (j := 4) rfl sc_longest_at.nd rfl rfl (by decide) rfl rfl rfl rfl ?_
        refine a_cons ?_
        refine e_var 5 rfl (.inl rfl) rfl ?_
        refine a_cons ?_
        refine e_callB call_lenU rfl T.n_len (by decide +kernel) ?_
        refine a_cons ?_
        refine e_var 6 rfl (.inl rfl) rfl ?_
        refine a_nil ?_
        refine o_len_S (by rw [ss_len]; omega) ?_
        rw [ss_len]
        refine a_nil ?_
        refine ⟨_, _,  rfl, ?_⟩
        refine s_nil ?_
        refine s_nil ?_
        first
        | exact ⟨_, _, _, some i, q.1.length, rfl, rfl, hno.take hq (by simpa using b2)⟩
        | exact ⟨_, _, _, r, m, rfl, rfl, hno.skip hq p1 (by simpa using b2)⟩
      · skip
        refine s_nil ?_
        refine s_nil ?_
        first
        | exact ⟨_, _, _, some i, q.1.length, rfl, rfl, hno.take hq (by simpa using b2)⟩
        | exact ⟨_, _, _, r, m, rfl, rfl, hno.skip hq p1 (by simpa using b2)⟩
  · skip
    rintro Γ' os' ⟨g1, g2, g3, r, m, rfl, rfl, hno⟩
    rw [enum_len, List.length_map] at hno
    refine s_cons ?_
    refine s1_ret ?_
    refine e_var 3 rfl (.inl rfl) rfl ?_
    exact kP r hno.fin

end G
namespace G
open PySem L2 TL

local macro_rules | `(tactic| walk_at "mem") => `(tactic| (first | exact List.mem_cons_self | exact List.mem_cons_of_mem _ List.mem_cons_self | exact List.mem_cons_of_mem _ (List.mem_cons_of_mem _ List.mem_cons_self) | exact List.mem_cons_of_mem _ (List.mem_cons_of_mem _ (List.mem_cons_of_mem _ List.mem_cons_self))))
local macro_rules | `(tactic| walk_at "o_isinstance") => `(tactic| (first | refine o_isi (r := true) tyf_S (by decide +kernel) ?_ | refine o_isi (r := true) tyf_T (by decide +kernel) ?_ | refine o_isi (r := true) tyf_L (by decide +kernel) ?_ | refine o_isi (r := true) tyf_I (by decide +kernel) ?_ | refine o_isi (r := true) tyf_B (by decide +kernel) ?_ | refine o_isi (r := false) tyf_S (by decide +kernel) ?_ | refine o_isi (r := false) tyf_T (by decide +kernel) ?_ | refine o_isi (r := false) tyf_L (by decide +kernel) ?_ | refine o_isi (r := false) tyf_I (by decide +kernel) ?_ | refine o_isi (r := false) tyf_B (by decide +kernel) ?_))
local macro_rules | `(tactic| walk_at "o_startswith") => `(tactic| (refine o_starts ?_; rw [starts_ss]))
local macro_rules | `(tactic| walk_at "sz") => `(tactic| (first | omega | (simp <;> omega) | decide))
local macro_rules | `(tactic| walk_at "len") => `(tactic| (first | decide | omega | (simp only [List.length_map]; omega) | (simp; done) | (simp; omega)))
local macro_rules | `(tactic| walk_at "num") => `(tactic| (first | omega | (simp <;> omega) | decide))
local macro_rules | `(tactic| walk_at "o_add") => `(tactic| (first | refine o_add_int ?_ | refine o_add_str (by walk_at "sz") ?_ | refine o_add_lst (by walk_at "sz") ?_ | refine o_add_tup (by walk_at "sz") ?_))
local macro_rules | `(tactic| walk_at "o_iadd") => `(tactic| (first | refine o_iadd_int ?_ | refine o_iadd_str (by walk_at "sz") ?_))
local macro_rules | `(tactic| walk_at "o_sub") => `(tactic| refine o_sub ?_)
local macro_rules | `(tactic| walk_at "o_mul") => `(tactic| refine o_mul (by first | exact .inl (by omega) | exact .inr (by omega)) ?_)
local macro_rules | `(tactic| walk_at "o_mod") => `(tactic| refine o_mod (by first | omega | decide) ?_)
local macro_rules | `(tactic| walk_at "o_eq") => `(tactic| (first | refine o_eq_str ?_ | refine o_eq_int ?_ | refine o_eq_bl ?_))
local macro_rules | `(tactic| walk_at "o_ne") => `(tactic| (first | refine o_ne_str ?_ | refine o_ne_int ?_ | refine o_ne_bl ?_))
local macro_rules | `(tactic| walk_at "o_lt") => `(tactic| refine o_lt ?_)
local macro_rules | `(tactic| walk_at "o_le") => `(tactic| refine o_le ?_)
local macro_rules | `(tactic| walk_at "o_gt") => `(tactic| refine o_gt ?_)
local macro_rules | `(tactic| walk_at "o_ge") => `(tactic| refine o_ge ?_)
local macro_rules | `(tactic| walk_at "o_int") => `(tactic| (first | refine o_int_i ?_ | refine o_int_b ?_))
local macro_rules | `(tactic| walk_at "o_len") => `(tactic| (first | refine o_len_L ?_ | refine o_len_T ?_ | refine o_len_S (by walk_at "sz") ?_ | refine o_len_scr ?_))
local macro_rules | `(tactic| walk_at "o_abs") => `(tactic| refine o_abs ?_)
local macro_rules | `(tactic| walk_at "o_max") => `(tactic| refine o_max2 ?_)
local macro_rules | `(tactic| walk_at "o_min") => `(tactic| refine o_min2 ?_)
local macro_rules | `(tactic| walk_at "ty") => `(tactic| (first | exact ty_str | exact ty_L | exact ty_own List.mem_cons_self | exact ty_own (List.mem_cons_of_mem _ List.mem_cons_self) | exact ty_own (List.mem_cons_of_mem _ (List.mem_cons_of_mem _ List.mem_cons_self))))

theorem ok_flow {P : Program} {w : World} {K : PySem.W.Frag} {mg : Str → Option Value} {base : Heap} {C : Addr} (T : Txt K mg) (TX : TxtX K mg C) (D_first_at : Df P w K mg base 3 "first_at" ["exchange", "rest", "is_end"] (fs_at C false)) (D_longest_at : Df P w K mg base 3 "longest_at" ["exchange", "rest", "is_end"] (fs_at C true)) : Df P w K mg base 4 "flow" ["exchange", "letters", "is_end"] (fs_flow C) := by
  obtain ⟨qP, fP, fdP, pP, FP, bP⟩ := TX.pP
  obtain ⟨qW, fW, fdW, pW, FW, bW⟩ := TX.pW
  have GP := ok_get_pairs (P := P) (w := w) (base := base) TX FP
  have GW := ok_get_way (P := P) (w := w) (base := base) TX FW
  refine df_ok T.d_flow sc_flow (fun Fs os Post ⟨_, _, e, _⟩ => by rw [e]; rfl) ?_
  rintro cdv f A outer s H XE hr Fs os Post ⟨x, z, rfl, hg, hz, hlow, kP⟩
  refine s_cons ?_
  refine s1_par3 (i := 3) (j := 4) (l := 5) rfl sc_flow.nd rfl rfl rfl (by decide) (by decide) (by decide) rfl rfl rfl rfl rfl ?_
  refine a_cons ?_
  refine e_bm0 PySem.F.plainAttrs_str PySem.F.slot_str_lower PySem.F.type_str_lower mt_lower' ?_
  refine e_var 1 rfl (.inl rfl) rfl ?_
  refine ⟨by walk_at "ty", ?_⟩
  refine o_lower (by rw [ss_len]; omega) ?_
  rw [low_lower hlow]
  refine a_cons ?_
  refine e_lstO ?_
  refine a_nil ?_
  refine ⟨by first | decide | (simp; done), fun l0 => ?_⟩
  refine a_cons ?_
  refine e_int ?_
  refine a_nil ?_
  refine ⟨_, _, _,  rfl, ?_⟩
  refine s_cut (fun Γ' os' => ∃ f', FnAt P w K mg base 3 f' (fs_at C x.2) ∧ Γ' = [some (fX C x), some (fS z), some (fBl true), some (fS z), some (fRef l0), some (fInt 0), some (fRef f'), none, none, none] ∧ os' = .lst l0 [] :: os) ?_ ?_
  · skip
    refine s1_set 6 sc_flow.nd rfl (.inl rfl) ?_
    refine e_if ?_
    refine t_cmp (op_eqU hr.units) (nomark _) ?_
    refine e_prop TX.cl pW GW (hr.mono (by decide)) bW ?_
    refine e_var 0 rfl (.inl rfl) rfl ?_
    refine ⟨⟨_, ins_I⟩, _, _, rfl, rfl, ?_⟩
    refine e_globS rfl T.c_LONGEST ?_
    refine o_eq_str ?_
    rw [way_long]
    refine ⟨_, rfl, ?_⟩
    refine ⟨fun c1 => ?_, fun c1 => ?_⟩
    · refine e_fn D_longest_at rfl fun f' hf => ?_
      exact ⟨f', by rw [c1]; exact hf, rfl, rfl⟩
    · refine e_fn D_first_at rfl fun f' hf => ?_
      exact ⟨f', by rw [c1]; exact hf, rfl, rfl⟩
    skip
  rintro Γ' os' ⟨f', hf, rfl, rfl⟩
  refine s_cons ?_
  refine s1_while PassesOwn.never (fun m Γ' os' => ∃ (a : Nat) (qs : List Piece) (g1 g2 g3 : Option Fact), m = z.length - a ∧ a ≤ z.length ∧ Γ' = [some (fX C x), some (fS z), some (fBl true), some (fS z), some (fRef l0), some (fInt (a : Int)), some (fRef f'), g1, g2, g3] ∧
      os' = .lst l0 (qs.map fPiece) :: os ∧ qs.length ≤ a ∧ (∀ q ∈ qs, q.2.2.length ≤ 3) ∧ ∀ qs', Flows x.2 x.1 (z.drop a) qs' → Flows x.2 x.1 z (qs ++ qs')) ⟨_, 0, [], none, none, none, rfl, Nat.zero_le _, rfl, rfl, Nat.le_refl _, by simp, fun qs' h => h⟩ ?_
  rintro m Γ' os' ⟨a, qs, g1, g2, g3, rfl, ha, rfl, rfl, hql, hq3, hfl⟩
  refine t_cmp op_lt (nomark _) ?_
  refine e_var 5 rfl (.inl rfl) rfl ?_
  refine e_callB call_lenU rfl T.n_len (by decide +kernel) ?_
  refine a_cons ?_
  refine e_var 1 rfl (.inl rfl) rfl ?_
  refine a_nil ?_
  refine o_len_S (by rw [ss_len]; omega) ?_
  rw [ss_len]
  walk_at "o_lt"
  refine ⟨_, rfl, ?_⟩
  refine ⟨fun b0 => ?_, fun b0 => ?_⟩
  · skip
    refine s_cons ?_
    refine s1_set 7 sc_flow.nd rfl (.inl rfl) ?_
    have ha2 : a < z.length := by
      have : (a : Int) < (z.length : Int) := by simpa using b0
      omega
    refine e_callF 6 hf (hr.mono (by decide)) rfl (.inl rfl) rfl ?_
    refine a_cons ?_
    refine e_var 0 rfl (.inl rfl) rfl ?_
    refine a_cons ?_
    refine e_slice ?_
    refine e_var 3 rfl (.inl rfl) rfl ?_
    refine eo_some ?_
    refine e_var 5 rfl (.inl rfl) rfl ?_
    refine ⟨_, rfl, ?_⟩
    refine eo_none ?_
    refine o_sl_S (by rw [ss_len]; omega) ?_
    rw [cut_from ha]
    refine a_cons ?_
    refine e_var 2 rfl (.inl rfl) rfl ?_
    refine a_nil ?_
    refine ⟨x, z.drop a, rfl, hg, by rw [List.length_drop]; omega, fun r hr1 => ?_⟩
    refine s_cons ?_
    refine s1_if ?_
    refine t_cmp (op_eqU hr.units) (nomark _) ?_
    refine e_var 7 rfl (.inl rfl) rfl ?_
    refine e_globI rfl T.c_OPEN ?_
    refine o_eq_opt ?_
    refine ⟨_, rfl, ?_⟩
    refine ⟨fun b1 => ?_, fun b1 => ?_⟩
    · skip
      exact absurd b1 (by simp) --stop
    · skip
      refine s_nil ?_
      refine s_cons ?_
      refine s1_asg [8, 9] ?_
      refine e_mono (Post := fun F os' => (Own.lst l0 (qs.map fPiece) :: os) = os' ∧ ∃ fd pt : List Nat, F = fT [fS fd, fS pt] ∧ 1 ≤ fd.length ∧ a + fd.length ≤ z.length ∧ pt.length ≤ 3 ∧
          ∀ qs', Flows x.2 x.1 (z.drop (a + fd.length)) qs' → Flows x.2 x.1 (z.drop a) ((r, (z.drop a).take fd.length, pt) :: qs')) ?_ ?_
      · cases r with
        | none =>
          refine e_if ?_
          refine t_cmp op_isN' (nomark _) ?_
          refine e_var 7 rfl (.inl rfl) rfl ?_
          refine e_non ?_
          first | refine o_is_N ?_ | refine o_is_not (F := fInt (i : Int)) nn_int ?_
          refine ⟨_, rfl, ?_⟩
          refine ⟨fun _ => ?_, fun c1 => absurd c1 (by simp)⟩
          refine e_tup ?_
          refine a_cons ?_
          refine e_ix ix_seq (fun _ _ => rfl) ?_
          refine e_var 1 rfl (.inl rfl) rfl ?_
          refine e_var 5 rfl (.inl rfl) rfl ?_
          refine o_ix_S (c := z[a]) (by rw [ss_len]; omega) (by rw [ss_cps]; exact at_nat (by omega) (by simp [ha2])) ?_
          refine a_cons ?_
          refine e_ix ix_seq (fun _ _ => rfl) ?_
          refine e_var 1 rfl (.inl rfl) rfl ?_
          refine e_var 5 rfl (.inl rfl) rfl ?_
          refine o_ix_S (c := z[a]) (by rw [ss_len]; omega) (by rw [ss_cps]; exact at_nat (by omega) (by simp [ha2])) ?_
          refine a_nil ?_
          refine ⟨by first | decide | (simp; done), ?_⟩
          exact ⟨rfl, [z[a]], [z[a]], rfl, Nat.le_refl _, ha2, (by show 1 ≤ 3; decide), fun qs' h => step_one ha2 hr1 h⟩
        | some i =>
          obtain ⟨p, hp, hpm, _⟩ := id hr1
          obtain ⟨p1, p2, p3, p4, p5⟩ := hg.at_ hp
          refine e_if ?_
          refine t_cmp op_isN' (nomark _) ?_
          refine e_var 7 rfl (.inl rfl) rfl ?_
          refine e_non ?_
          first | refine o_is_N ?_ | refine o_is_not (F := fInt (i : Int)) nn_int ?_
          refine ⟨_, rfl, ?_⟩
          refine ⟨fun c1 => absurd c1 (by simp), fun _ => ?_⟩
          refine e_ix ix_seq (fun _ _ => rfl) ?_
          refine e_prop TX.cl pP GP (hr.mono (by decide)) bP ?_
          refine e_var 0 rfl (.inl rfl) rfl ?_
          refine ⟨⟨_, ins_I⟩, _, _, rfl, rfl, ?_⟩
          refine e_var 7 rfl (.inl rfl) rfl ?_
          refine o_ix_T (F := fPair p) (at_nat (by omega) (by rw [List.getElem?_map, Int.toNat_natCast, hp]; rfl)) ?_
          exact ⟨rfl, p.1, p.2, rfl, p1, by have := hr1.le hp; rw [List.length_drop] at this; omega, p4, fun qs' h => step_put ha2 hr1 hp h⟩
      rintro F os' ⟨rfl, fd, pt, rfl, hf1, hf2, hf3, hf4⟩
      refine g_tup rfl rfl ?_
      refine gs_cons ?_
      refine g_name 8 sc_flow.nd rfl (.inl rfl) (by decide) ?_
      refine gs_cons ?_
      refine g_name 9 sc_flow.nd rfl (.inl rfl) (by decide) ?_
      refine gs_nil ?_
      refine s_cons ?_
      refine s1_expr ?_
      refine e_bm PySem.F.plainAttrs_list PySem.F.slot_list_append PySem.F.type_list_append mt_append ?_
      refine e_var 4 rfl (.inl rfl) rfl ?_
      refine ⟨by walk_at "ty", ?_⟩
      refine a_cons ?_
      refine e_tup ?_
      refine a_cons ?_
      refine e_var 7 rfl (.inl rfl) rfl ?_
      refine a_cons ?_
      refine e_slice ?_
      refine e_var 1 rfl (.inl rfl) rfl ?_
      refine eo_some ?_
      refine e_var 5 rfl (.inl rfl) rfl ?_
      refine ⟨_, rfl, ?_⟩
      refine eo_some ?_
      refine e_bin op_addU ?_
      refine e_var 5 rfl (.inl rfl) rfl ?_
      refine e_callB call_lenU rfl T.n_len (by decide +kernel) ?_
      refine a_cons ?_
      refine e_var 8 rfl (.inl rfl) rfl ?_
      refine a_nil ?_
      refine o_len_S (by rw [ss_len]; omega) ?_
      rw [ss_len]
      walk_at "o_add"
      refine ⟨_, rfl, ?_⟩
      refine o_sl_S (by rw [ss_len]; omega) ?_
      rw [cut_both hf2]
      refine a_cons ?_
      refine e_var 9 rfl (.inl rfl) rfl ?_
      refine a_nil ?_
      refine ⟨by first | decide | (simp; done), ?_⟩
      refine a_nil ?_
      refine o_append 0 rfl (by rw [List.length_map]; omega) ?_
      refine s_cons ?_
      refine s1_aug 5 sc_flow.nd rfl (.inl rfl) op_iaddU rfl ?_
      refine e_callB call_lenU rfl T.n_len (by decide +kernel) ?_
      refine a_cons ?_
      refine e_var 8 rfl (.inl rfl) rfl ?_
      refine a_nil ?_
      refine o_len_S (by rw [ss_len]; omega) ?_
      rw [ss_len]
      walk_at "o_iadd"
      refine s_nil ?_
      refine ⟨z.length - (a + fd.length), by omega, a + fd.length, qs ++ [(r, (z.drop a).take fd.length, pt)], some (fOpt r), some (fS fd), some (fS pt), rfl, hf2, ?_, by rw [List.map_append]; rfl, by rw [List.length_append, List.length_singleton]; omega, ?_, fun qs' h => by rw [List.append_assoc]; exact hfl _ (hf4 qs' h)⟩
      · rw [show ((a + fd.length : Nat) : Int) = (a : Int) + (fd.length : Int) by omega]; rfl
      · intro q hq
        rcases List.mem_append.mp hq with h | h
        · exact hq3 q h
        · rw [List.mem_singleton.mp h]; exact hf3
  · skip
    obtain rfl : a = z.length := by
      have : ¬ ((a : Int) < (z.length : Int)) := by simpa using b0
      omega
    refine s_frz 4 rfl ?_
    refine s_cons ?_
    refine s1_ret ?_
    refine e_tup ?_
    refine a_cons ?_
    refine e_var 4 rfl (.inl rfl) rfl ?_
    refine a_cons ?_
    refine e_slice ?_
    refine e_var 1 rfl (.inl rfl) rfl ?_
    refine eo_some ?_
    refine e_var 5 rfl (.inl rfl) rfl ?_
    refine ⟨_, rfl, ?_⟩
    refine eo_none ?_
    refine o_sl_S (by rw [ss_len]; omega) ?_
    rw [cut_from (Nat.le_refl _), List.drop_length]
    refine a_nil ?_
    refine ⟨by first | decide | (simp; done), ?_⟩
    exact kP qs (by have := hfl [] (by rw [List.drop_length]; exact .nil); rwa [List.append_nil] at this) (by omega) hq3

end G
namespace G
open PySem L2 TL

local macro_rules | `(tactic| walk_at "mem") => `(tactic| (first | exact List.mem_cons_self | exact List.mem_cons_of_mem _ List.mem_cons_self | exact List.mem_cons_of_mem _ (List.mem_cons_of_mem _ List.mem_cons_self) | exact List.mem_cons_of_mem _ (List.mem_cons_of_mem _ (List.mem_cons_of_mem _ List.mem_cons_self))))
local macro_rules | `(tactic| walk_at "o_isinstance") => `(tactic| (first | refine o_isi (r := true) tyf_S (by decide +kernel) ?_ | refine o_isi (r := true) tyf_T (by decide +kernel) ?_ | refine o_isi (r := true) tyf_L (by decide +kernel) ?_ | refine o_isi (r := true) tyf_I (by decide +kernel) ?_ | refine o_isi (r := true) tyf_B (by decide +kernel) ?_ | refine o_isi (r := false) tyf_S (by decide +kernel) ?_ | refine o_isi (r := false) tyf_T (by decide +kernel) ?_ | refine o_isi (r := false) tyf_L (by decide +kernel) ?_ | refine o_isi (r := false) tyf_I (by decide +kernel) ?_ | refine o_isi (r := false) tyf_B (by decide +kernel) ?_))
local macro_rules | `(tactic| walk_at "o_startswith") => `(tactic| (refine o_starts ?_; rw [starts_ss]))
local macro_rules | `(tactic| walk_at "sz") => `(tactic| (first | omega | (simp <;> omega) | decide))
local macro_rules | `(tactic| walk_at "len") => `(tactic| (first | decide | omega | (simp only [List.length_map]; omega) | (simp; done) | (simp; omega)))
local macro_rules | `(tactic| walk_at "num") => `(tactic| (first | omega | (simp <;> omega) | decide))
local macro_rules | `(tactic| walk_at "o_add") => `(tactic| (first | refine o_add_int ?_ | refine o_add_str (by walk_at "sz") ?_ | refine o_add_lst (by walk_at "sz") ?_ | refine o_add_tup (by walk_at "sz") ?_))
local macro_rules | `(tactic| walk_at "o_iadd") => `(tactic| (first | refine o_iadd_int ?_ | refine o_iadd_str (by walk_at "sz") ?_))
local macro_rules | `(tactic| walk_at "o_sub") => `(tactic| refine o_sub ?_)
local macro_rules | `(tactic| walk_at "o_mul") => `(tactic| refine o_mul (by first | exact .inl (by omega) | exact .inr (by omega)) ?_)
local macro_rules | `(tactic| walk_at "o_mod") => `(tactic| refine o_mod (by first | omega | decide) ?_)
local macro_rules | `(tactic| walk_at "o_eq") => `(tactic| (first | refine o_eq_str ?_ | refine o_eq_int ?_ | refine o_eq_bl ?_))
local macro_rules | `(tactic| walk_at "o_ne") => `(tactic| (first | refine o_ne_str ?_ | refine o_ne_int ?_ | refine o_ne_bl ?_))
local macro_rules | `(tactic| walk_at "o_lt") => `(tactic| refine o_lt ?_)
local macro_rules | `(tactic| walk_at "o_le") => `(tactic| refine o_le ?_)
local macro_rules | `(tactic| walk_at "o_gt") => `(tactic| refine o_gt ?_)
local macro_rules | `(tactic| walk_at "o_ge") => `(tactic| refine o_ge ?_)
local macro_rules | `(tactic| walk_at "o_int") => `(tactic| (first | refine o_int_i ?_ | refine o_int_b ?_))
local macro_rules | `(tactic| walk_at "o_len") => `(tactic| (first | refine o_len_L ?_ | refine o_len_T ?_ | refine o_len_S (by walk_at "sz") ?_ | refine o_len_scr ?_))
local macro_rules | `(tactic| walk_at "o_abs") => `(tactic| refine o_abs ?_)
local macro_rules | `(tactic| walk_at "o_max") => `(tactic| refine o_max2 ?_)
local macro_rules | `(tactic| walk_at "o_min") => `(tactic| refine o_min2 ?_)
local macro_rules | `(tactic| walk_at "ty") => `(tactic| (first | exact ty_str | exact ty_L | exact ty_own List.mem_cons_self | exact ty_own (List.mem_cons_of_mem _ List.mem_cons_self) | exact ty_own (List.mem_cons_of_mem _ (List.mem_cons_of_mem _ List.mem_cons_self))))

theorem ok_law_pot {P : Program} {w : World} {K : PySem.W.Frag} {mg : Str → Option Value} {base : Heap} (T : Txt K mg)  : Df P w K mg base 1 "_law_pot" ["_law_script", "_law_k"] (fs_pot) := by
  refine df_ok T.d_law_pot sc_law_pot (fun Fs os Post ⟨_, _, e, _⟩ => by rw [e]; rfl) ?_
  rintro cdv f A outer s H XE hr Fs os Post ⟨ns, k, rfl, h0, h1, kP⟩
  refine s_cons ?_
  refine s1_set 2 sc_law_pot.nd rfl (.inl rfl) ?_
  refine e_mono (Post := fun F os' => os = os' ∧ ∃ c : Int, F = fInt c) ?_ ?_
  · refine e_if ?_
    refine t_cmp op_lt (nomark _) ?_
    refine e_var 1 rfl (.inl rfl) rfl ?_
    refine e_callB call_lenU rfl T.n_len (by decide +kernel) ?_
    refine a_cons ?_
    refine e_var 0 rfl (.inl rfl) rfl ?_
    refine a_nil ?_
    walk_at "o_len"
    walk_at "o_lt"
    refine ⟨_, rfl, ?_⟩
    refine ⟨fun c1 => ?_, fun _ => ?_⟩
    · have c2 : k < (ns.length : Int) := by simpa using c1
      have c3 : k.toNat < ns.length := by omega
      refine e_ix ix_seq (fun _ _ => rfl) ?_
      refine e_var 0 rfl (.inl rfl) rfl ?_
      refine e_var 1 rfl (.inl rfl) rfl ?_
      refine o_ix_scr (at_nat (v := ns[k.toNat]) h0 (by simp [c3])) ?_
      exact ⟨rfl, _, rfl⟩
    · skip
      refine e_bin op_addU ?_
      refine e_bin op_mul ?_
      refine e_int ?_
      refine e_var 1 rfl (.inl rfl) rfl ?_
      refine o_mul (by first | exact .inl (by omega) | exact .inr (by omega)) ?_
      refine e_int ?_
      walk_at "o_add"
      exact ⟨rfl, _, rfl⟩
  rintro F os' ⟨rfl, c, rfl⟩
  refine s_cons ?_
  refine s1_set 3 sc_law_pot.nd rfl (.inl rfl) ?_
  refine e_bin op_mul ?_
  refine e_bin op_mod ?_
  refine e_callTy call_int' rfl T.n_int (by decide +kernel) ?_
  refine a_cons ?_
  refine e_callB call_abs' rfl T.n_abs (by decide +kernel) ?_
  refine a_cons ?_
  refine e_var 2 rfl (.inl rfl) rfl ?_
  refine a_nil ?_
  walk_at "o_abs"
  refine a_nil ?_
  walk_at "o_int"
  refine e_bin op_powW ?_
  refine e_bin op_powW ?_
  refine e_int ?_
  refine e_int ?_
  refine o_pow ⟨by decide, by decide +kernel⟩ ?_
  refine e_int ?_
  refine o_pow ⟨by decide, by decide +kernel⟩ ?_
  refine o_mod (by decide +kernel) ?_
  refine e_callTy call_int' rfl T.n_int (by decide +kernel) ?_
  refine a_cons ?_
  refine e_cmp op_ge (nomark _) ?_
  refine e_callB call_abs' rfl T.n_abs (by decide +kernel) ?_
  refine a_cons ?_
  refine e_var 2 rfl (.inl rfl) rfl ?_
  refine a_nil ?_
  walk_at "o_abs"
  refine e_bin op_powW ?_
  refine e_int ?_
  refine e_int ?_
  refine o_pow ⟨by decide, by decide +kernel⟩ ?_
  walk_at "o_ge"
  refine a_nil ?_
  walk_at "o_int"
  refine o_mul cmul_b ?_
  refine s_cons ?_
  refine s1_set 4 sc_law_pot.nd rfl (.inl rfl) ?_
  refine e_bin op_mod ?_
  refine e_callTy call_int' rfl T.n_int (by decide +kernel) ?_
  refine a_cons ?_
  refine e_var 2 rfl (.inl rfl) rfl ?_
  refine a_nil ?_
  walk_at "o_int"
  refine e_int ?_
  refine o_mod (by decide) ?_
  refine s_cons ?_
  refine s1_ret ?_
  refine E.put 0 ?_
  refine e_lstO ?_
  refine a_cons ?_
  refine e_var 3 rfl (.inl rfl) rfl ?_
  refine a_cons ?_
  refine e_bin op_mod ?_
  refine e_callTy call_int' rfl T.n_int (by decide +kernel) ?_
  refine a_cons ?_
  refine e_bin op_addU ?_
  refine e_bin op_addU ?_
  refine e_bin op_mul ?_
  refine e_var 4 rfl (.inl rfl) rfl ?_
  refine e_int ?_
  refine o_mul (.inr (by decide)) ?_
  refine e_bin op_mul ?_
  refine e_bin op_mul ?_
  refine e_int ?_
  refine e_var 1 rfl (.inl rfl) rfl ?_
  refine o_mul (by first | exact .inl (by omega) | exact .inr (by omega)) ?_
  refine e_var 1 rfl (.inl rfl) rfl ?_
  refine o_mul (by first | exact .inl (by omega) | exact .inr (by omega)) ?_
  walk_at "o_add"
  refine e_int ?_
  walk_at "o_add"
  refine a_nil ?_
  walk_at "o_int"
  refine e_int ?_
  refine o_mod (by decide) ?_
  refine a_cons ?_
  refine e_int ?_
  refine a_nil ?_
  refine ⟨by first | decide | (simp; done), fun l0 => ?_⟩
  refine ⟨l0, _, [fNn, fSm, fCt 0], rfl, .cons (Fle.nn (own_ok (by decide +kernel) (by decide +kernel))) (.cons (Fle.sm ⟨Int.emod_nonneg _ (by decide), Int.emod_lt_of_pos _ (by decide)⟩) (.cons (Fle.ct ⟨Int.le_refl _, Int.le_refl _⟩) .nil)), ?_⟩
  exact kP l0

theorem ok_law_exchange {P : Program} {w : World} {K : PySem.W.Frag} {mg : Str → Option Value} {base : Heap} {C : Addr} (T : Txt K mg) (TX : TxtX K mg C) (D_are_pairs : Df P w K mg base 4 "are_pairs" ["value"] (fs_pairs))  : Df P w K mg base 7 "_law_exchange" ["_law_lore_here"] (fs_exch C) := by
  obtain ⟨fI', fdI, M, FI⟩ := TX.init
  have GI := ok_init (P := P) (w := w) (base := base) T TX D_are_pairs FI
  refine df_ok T.d_law_exchange sc_law_exchange (fun Fs os Post ⟨_, e, _⟩ => by rw [e]; rfl) ?_
  rintro cdv f A outer s H XE hr Fs os Post ⟨x, rfl, hg, kP⟩
  refine s_cons ?_
  refine s1_ret ?_
  refine e_makeK M GI (hr.mono (by decide)) rfl TX.mgC (kb_all FI fun _ _ _ _ _ _ _ _ _ => rfl) (fun _ _ _ => rfl) ?_
  refine e_dget (s := "pairs") (i := 0) (hu_of hr) (fun _ _ => rfl) ?_
  refine e_var 0 rfl (.inl rfl) rfl ?_
  refine ⟨_, _, fT (x.1.map fPair), rfl, rfl, ?_⟩
  refine e_str ?_
  refine ⟨rfl, pw_pairs, rfl, ?_⟩
  refine e_dget (s := "way") (i := 1) (hu_of hr) (fun _ _ => rfl) ?_
  refine e_var 0 rfl (.inl rfl) rfl ?_
  refine ⟨_, _, fStr (wayS x.2), rfl, rfl, ?_⟩
  refine e_str ?_
  refine ⟨rfl, pw_way, rfl, ?_⟩
  intro o dx
  exact ⟨o, dx, x, _, rfl, rfl, hg, rfl, dx, OWN, _, _, rfl, kP⟩
  skip

theorem ok_law_pair_at {P : Program} {w : World} {K : PySem.W.Frag} {mg : Str → Option Value} {base : Heap} (T : Txt K mg)  : Df P w K mg base 1 "_law_pair_at" ["_law_lore_here", "_law_rest"] (fs_pairAt) := by
  refine df_ok T.d_law_pair_at sc_law_pair_at (fun Fs os Post ⟨_, _, e, _⟩ => by rw [e]; rfl) ?_
  rintro cdv f A outer s H XE hr Fs os Post ⟨x, z, rfl, hg, hz, kP⟩
  refine s_cons ?_
  refine s1_lcif 2 rfl sc_law_pair_at.nd rfl rfl [("_law_at", 4), ("_law_pair", 5)] (blkOk_by (show blkC ["_law_lore_here", "_law_rest", "_law_numbers", "_law_sizes", "_law_at", "_law_pair", "_law_size"] (defScope s_law_pair_at) _ [("_law_at", 4), ("_law_pair", 5)] = true by decide +kernel)) ?_ (sw_true rfl rfl rfl rfl)
  refine wk_enumT rfl T.n_enumerate ?_
  refine a_cons ?_
  refine e_dget (s := "pairs") (i := 0) (hu_of hr) (fun _ _ => rfl) ?_
  refine e_var 0 rfl (.inr (.inl rfl)) rfl ?_
  refine ⟨_, _, fT (x.1.map fPair), rfl, rfl, ?_⟩
  refine e_str ?_
  refine ⟨rfl, pw_pairs, rfl, ?_⟩
  refine a_nil ?_
  refine ⟨_, rfl, ?_⟩
  refine ⟨fun i acc os' => acc = (MF x.1 z i).map fNat ∧ os = os', ⟨rfl, rfl⟩, ?_, by rw [enum_len, List.length_map]; have := hg.n3; omega, ?_⟩
  · skip
    rintro i F acc os' D hF ⟨rfl, rfl⟩ hacc B
    obtain ⟨G, hG, rfl⟩ := enum_at hF
    obtain ⟨q, hq, rfl⟩ := map_at hG
    obtain ⟨p1, p2, p3, p4, p5⟩ := hg.at_ hq
    refine g_tup rfl rfl ?_
    refine gs_cons ?_
    refine g_name 4 sc_law_pair_at.nd rfl (.inl rfl) (by decide) ?_
    refine gs_cons ?_
    refine g_name 5 sc_law_pair_at.nd rfl (.inl rfl) (by decide) ?_
    refine gs_nil ?_
    intro B2
    refine t_cmp (op_eqU hr.units) (nomark _) ?_
    refine e_slice ?_
    refine e_var 1 rfl (.inr (.inl rfl)) rfl ?_
    refine eo_none ?_
    refine eo_some ?_
    refine e_callB call_lenU rfl T.n_len (by decide +kernel) ?_
    refine a_cons ?_
    refine e_ix ix_seq (fun _ _ => rfl) ?_
    refine e_var 5 rfl (.inl rfl) rfl ?_
    refine e_int ?_
    refine o_ix_T (F := fS q.1) rfl ?_
    refine a_nil ?_
    refine o_len_S (by rw [ss_len]; omega) ?_
    rw [ss_len]
    refine ⟨_, rfl, ?_⟩
    refine o_sl_S (by rw [ss_len]; omega) ?_
    rw [cut_to]
    refine e_ix ix_seq (fun _ _ => rfl) ?_
    refine e_var 5 rfl (.inl rfl) rfl ?_
    refine e_int ?_
    refine o_ix_T (F := fS q.1) rfl ?_
    refine o_eq_str ?_
    rw [pre_eq]
    refine ⟨_, rfl, ?_⟩
    refine ⟨fun b0 => ?_, fun b0 => ?_⟩
    · skip
      intro B3
      refine e_var 4 rfl (.inl rfl) rfl ?_
      refine ⟨_, rfl, ?_, rfl⟩
      rw [MF_yes (by rw [isM_at hq]; exact b0), List.map_append]; rfl
    · skip
      refine ⟨_, rfl, ?_, rfl⟩
      rw [MF_no (by rw [isM_at hq]; exact b0)]
  · skip
    rintro acc os' hal ⟨rfl, rfl⟩
    rw [enum_len, List.length_map]
    refine s_cons ?_
    refine s1_if ?_
    refine t_cmp (op_eqU hr.units) (nomark _) ?_
    refine e_dget (s := "way") (i := 1) (hu_of hr) (fun _ _ => rfl) ?_
    refine e_var 0 rfl (.inr (.inl rfl)) rfl ?_
    refine ⟨_, _, fStr (wayS x.2), rfl, rfl, ?_⟩
    refine e_str ?_
    refine ⟨rfl, pw_way, rfl, ?_⟩
    refine e_str ?_
    refine o_eq_str ?_
    rw [way_long]
    refine ⟨_, rfl, ?_⟩
    refine ⟨fun b1 => ?_, fun b1 => ?_⟩
    · skip
      have hway := b1
      refine s_cons ?_
      refine s1_set 3 sc_law_pair_at.nd rfl (.inr rfl) ?_
      refine e_lc rfl sc_law_pair_at.nd [("_law_at", 4)] (blkOk_by (show blkC ["_law_lore_here", "_law_rest", "_law_numbers", "_law_sizes", "_law_at", "_law_pair", "_law_size"] (defScope s_law_pair_at) _ [("_law_at", 4)] = true by decide +kernel)) ?_
      refine wk_list ?_
      refine e_var 2 rfl (.inl rfl) rfl ?_
      refine ⟨_, rfl, ?_⟩
      refine ⟨fun i acc os' => acc = (((MF x.1 z x.1.length).take i).map fun j => fInt (szI x.1 j)) ∧ os = os', ⟨rfl, rfl⟩, ?_, by rw [List.length_map]; exact mf_small hg, ?_⟩
      · skip
        rintro i F acc os' D hF ⟨rfl, rfl⟩ hacc B
        obtain ⟨j, hj, rfl⟩ := map_at hF
        obtain ⟨p, hp, hpm⟩ := MF_at (List.mem_of_getElem? hj)
        obtain ⟨p1, p2, p3, p4, p5⟩ := hg.at_ hp
        refine g_name 4 sc_law_pair_at.nd rfl (.inl rfl) (by decide) ?_
        intro B2
        refine e_callB call_lenU rfl T.n_len (by decide +kernel) ?_
        refine a_cons ?_
        refine e_ix ix_seq (fun _ _ => rfl) ?_
        refine e_ix ix_seq (fun _ _ => rfl) ?_
        refine e_dget (s := "pairs") (i := 0) (hu_of hr) (fun _ _ => rfl) ?_
        refine e_var 0 rfl (.inr (.inl rfl)) rfl ?_
        refine ⟨_, _, fT (x.1.map fPair), rfl, rfl, ?_⟩
        refine e_str ?_
        refine ⟨rfl, pw_pairs, rfl, ?_⟩
        refine e_var 4 rfl (.inl rfl) rfl ?_
        refine o_ix_T (F := fPair p) (at_nat (by omega) (by rw [List.getElem?_map, Int.toNat_natCast, hp]; rfl)) ?_
        refine e_int ?_
        refine o_ix_T (F := fS p.1) rfl ?_
        refine a_nil ?_
        refine o_len_S (by rw [ss_len]; omega) ?_
        rw [ss_len]
        refine ⟨_, rfl, ?_, rfl⟩
        rw [take_more hj, List.map_append, List.map_singleton, szI_at hp]
      · skip
        rintro acc os' hal ⟨rfl, rfl⟩
        rw [List.length_map, List.take_length]
        refine s_cons ?_
        refine s1_lcif 2 rfl sc_law_pair_at.nd rfl rfl [("_law_at", 4)] (blkOk_by (show blkC ["_law_lore_here", "_law_rest", "_law_numbers", "_law_sizes", "_law_at", "_law_pair", "_law_size"] (defScope s_law_pair_at) _ [("_law_at", 4)] = true by decide +kernel)) ?_ (sw_true rfl rfl rfl rfl)
        refine wk_list ?_
        refine e_var 2 rfl (.inl rfl) rfl ?_
        refine ⟨_, rfl, ?_⟩
        refine ⟨fun i acc os' => acc = (((MF x.1 z x.1.length).take i).filter (isTop x.1 (MF x.1 z x.1.length))).map fNat ∧ os = os', ⟨rfl, rfl⟩, ?_, by rw [List.length_map]; exact mf_small hg, ?_⟩
        · skip
          rintro i F acc os' D hF ⟨rfl, rfl⟩ hacc B
          obtain ⟨j, hj, rfl⟩ := map_at hF
          obtain ⟨p, hp, hpm⟩ := MF_at (List.mem_of_getElem? hj)
          obtain ⟨p1, p2, p3, p4, p5⟩ := hg.at_ hp
          refine g_name 4 sc_law_pair_at.nd rfl (.inl rfl) (by decide) ?_
          intro B2
          refine t_cmp (op_eqU hr.units) (nomark _) ?_
          refine e_callB call_lenU rfl T.n_len (by decide +kernel) ?_
          refine a_cons ?_
          refine e_ix ix_seq (fun _ _ => rfl) ?_
          refine e_ix ix_seq (fun _ _ => rfl) ?_
          refine e_dget (s := "pairs") (i := 0) (hu_of hr) (fun _ _ => rfl) ?_
          refine e_var 0 rfl (.inr (.inl rfl)) rfl ?_
          refine ⟨_, _, fT (x.1.map fPair), rfl, rfl, ?_⟩
          refine e_str ?_
          refine ⟨rfl, pw_pairs, rfl, ?_⟩
          refine e_var 4 rfl (.inl rfl) rfl ?_
          refine o_ix_T (F := fPair p) (at_nat (by omega) (by rw [List.getElem?_map, Int.toNat_natCast, hp]; rfl)) ?_
          refine e_int ?_
          refine o_ix_T (F := fS p.1) rfl ?_
          refine a_nil ?_
          refine o_len_S (by rw [ss_len]; omega) ?_
          rw [ss_len]
          refine e_callB (call_maxU rfl) rfl T.n_max (by decide +kernel) ?_
          refine a_cons ?_
          refine e_lc_in rfl sc_law_pair_at.nd [("_law_size", 6)] (blkOk_by (show blkC ["_law_lore_here", "_law_rest", "_law_numbers", "_law_sizes", "_law_at", "_law_pair", "_law_size"] _ _ [("_law_size", 6)] = true by decide +kernel)) ?_
          refine wk_list ?_
          refine e_var 3 rfl (.inr (.inl rfl)) rfl ?_
          refine ⟨_, rfl, ?_⟩
          refine ⟨fun i acc2 os2 => acc2 = (((MF x.1 z x.1.length).take i).map fun j => fInt (szI x.1 j)) ∧ (Own.lst D _ :: os) = os2, ⟨rfl, rfl⟩, ?_, by rw [List.length_map]; exact mf_small hg, ?_⟩
          · skip
            rintro i2 F2 acc2 os2 D2 hF2 ⟨rfl, rfl⟩ hacc2 B4
            obtain ⟨j2, hj2, rfl⟩ := map_at hF2
            refine g_name 6 sc_law_pair_at.nd rfl (.inl rfl) (by decide) ?_
            intro B2
            refine e_callTy call_int' rfl T.n_int (by decide +kernel) ?_
            refine a_cons ?_
            refine e_var 6 rfl (.inl rfl) rfl ?_
            refine a_nil ?_
            walk_at "o_int"
            refine ⟨_, rfl, ?_, rfl⟩
            rw [take_more hj2, List.map_append, List.map_singleton]
          · skip
            rintro acc2 os2 hal2 ⟨rfl, rfl⟩
            rw [List.length_map, List.take_length]
            refine a_nil ?_
            rw [show ((MF x.1 z x.1.length).map fun j => fInt (szI x.1 j)) = ((MF x.1 z x.1.length).map (szI x.1)).map fInt by rw [List.map_map]; rfl]
            refine o_maxL (by rw [List.length_map]; exact List.length_pos_of_mem (List.mem_of_getElem? hj)) fun m hm hy => ?_
            refine o_eq_int ?_
            rw [← szI_at hp, top_eq (List.mem_of_getElem? hj) hm hy]
            refine ⟨_, rfl, ?_⟩
            refine ⟨fun b2 => ?_, fun b2 => ?_⟩
            · skip
              intro B3
              refine e_var 4 rfl (.inl rfl) rfl ?_
              refine ⟨_, rfl, ?_, rfl⟩
              rw [filter_take hj, if_pos b2, List.map_append]; rfl
            · skip
              refine ⟨_, rfl, ?_, rfl⟩
              rw [filter_take hj, if_neg (by rw [b2]; decide), List.append_nil]
        · skip
          rintro acc os' hal ⟨rfl, rfl⟩
          rw [List.length_map, List.take_length]
          refine s_nil ?_
          refine s_cons ?_
          refine s1_ret ?_
          refine e_mono (Post := fun F os' => os = os' ∧ F = fOpt (((MF x.1 z x.1.length).filter (isTop x.1 (MF x.1 z x.1.length)))).head?) ?_ ?_
          · generalize ((MF x.1 z x.1.length).filter (isTop x.1 (MF x.1 z x.1.length))) = Lx
            cases Lx with
            | nil =>
              refine e_if ?_
              refine t_cmp (op_neU hr.units) (nomark _) ?_
              refine e_var 2 rfl (.inl rfl) rfl ?_
              refine e_lst ?_
              refine a_nil ?_
              refine ⟨by decide, ?_⟩
              refine o_ne_D (isD_L (isDs_map (f := fNat) (g := fun j => .int j) (fun _ => isD_int) _)) (isD_L .nil) (shaped_ints _) rfl ?_
              refine ⟨_, rfl, ?_⟩
              refine ⟨fun c1 => absurd c1 (by rw [show PyData.eqv (.list (([] : List Nat).map _)) (.list []) = true from eqv_nil]; decide), fun _ => ?_⟩
              refine e_non ?_
              exact ⟨rfl, rfl⟩
            | cons j Lx =>
              refine e_if ?_
              refine t_cmp (op_neU hr.units) (nomark _) ?_
              refine e_var 2 rfl (.inl rfl) rfl ?_
              refine e_lst ?_
              refine a_nil ?_
              refine ⟨by decide, ?_⟩
              refine o_ne_D (isD_L (isDs_map (f := fNat) (g := fun j => .int j) (fun _ => isD_int) _)) (isD_L .nil) (shaped_ints _) rfl ?_
              refine ⟨_, rfl, ?_⟩
              refine ⟨fun _ => ?_, fun c1 => absurd c1 (by rw [show PyData.eqv (.list ((j :: Lx).map _)) (.list []) = false from eqv_cons _ _]; decide)⟩
              refine e_ix ix_seq (fun _ _ => rfl) ?_
              refine e_var 2 rfl (.inl rfl) rfl ?_
              refine e_int ?_
              refine o_ix_L (F := fNat j) (at_nat (by decide) rfl) ?_
              exact ⟨rfl, rfl⟩
          rintro F os' ⟨rfl, rfl⟩
          first | exact kP _ (by rw [hway]; exact at_long) | exact kP _ (by rw [hway]; exact at_first)
    · skip
      have hway := b1
      refine s_nil ?_
      refine s_cons ?_
      refine s1_ret ?_
      refine e_mono (Post := fun F os' => os = os' ∧ F = fOpt ((MF x.1 z x.1.length)).head?) ?_ ?_
      · generalize (MF x.1 z x.1.length) = Lx
        cases Lx with
        | nil =>
          refine e_if ?_
          refine t_cmp (op_neU hr.units) (nomark _) ?_
          refine e_var 2 rfl (.inl rfl) rfl ?_
          refine e_lst ?_
          refine a_nil ?_
          refine ⟨by decide, ?_⟩
          refine o_ne_D (isD_L (isDs_map (f := fNat) (g := fun j => .int j) (fun _ => isD_int) _)) (isD_L .nil) (shaped_ints _) rfl ?_
          refine ⟨_, rfl, ?_⟩
          refine ⟨fun c1 => absurd c1 (by rw [show PyData.eqv (.list (([] : List Nat).map _)) (.list []) = true from eqv_nil]; decide), fun _ => ?_⟩
          refine e_non ?_
          exact ⟨rfl, rfl⟩
        | cons j Lx =>
          refine e_if ?_
          refine t_cmp (op_neU hr.units) (nomark _) ?_
          refine e_var 2 rfl (.inl rfl) rfl ?_
          refine e_lst ?_
          refine a_nil ?_
          refine ⟨by decide, ?_⟩
          refine o_ne_D (isD_L (isDs_map (f := fNat) (g := fun j => .int j) (fun _ => isD_int) _)) (isD_L .nil) (shaped_ints _) rfl ?_
          refine ⟨_, rfl, ?_⟩
          refine ⟨fun _ => ?_, fun c1 => absurd c1 (by rw [show PyData.eqv (.list ((j :: Lx).map _)) (.list []) = false from eqv_cons _ _]; decide)⟩
          refine e_ix ix_seq (fun _ _ => rfl) ?_
          refine e_var 2 rfl (.inl rfl) rfl ?_
          refine e_int ?_
          refine o_ix_L (F := fNat j) (at_nat (by decide) rfl) ?_
          exact ⟨rfl, rfl⟩
      rintro F os' ⟨rfl, rfl⟩
      first | exact kP _ (by rw [hway]; exact at_long) | exact kP _ (by rw [hway]; exact at_first)

theorem ok_law_at_once {P : Program} {w : World} {K : PySem.W.Frag} {mg : Str → Option Value} {base : Heap} (T : Txt K mg) (D__law_pair_at : Df P w K mg base 1 "_law_pair_at" ["_law_lore_here", "_law_rest"] (fs_pairAt)) : Df P w K mg base 2 "_law_at_once" ["_law_lore_here", "_law_text_here"] (fs_once) := by
  refine df_ok T.d_law_at_once sc_law_at_once (fun Fs os Post ⟨_, _, e, _⟩ => by rw [e]; rfl) ?_
  rintro cdv f A outer s H XE hr Fs os Post ⟨x, z, rfl, hg, hz, kP⟩
  refine s_cons ?_
  refine s1_asg [2, 3] ?_
  refine e_tup ?_
  refine a_cons ?_
  refine e_str ?_
  refine a_cons ?_
  refine e_int ?_
  refine a_nil ?_
  refine ⟨by first | decide | (simp; done), ?_⟩
  refine g_tup rfl rfl ?_
  refine gs_cons ?_
  refine g_name 2 sc_law_at_once.nd rfl (.inl rfl) (by decide) ?_
  refine gs_cons ?_
  refine g_name 3 sc_law_at_once.nd rfl (.inl rfl) (by decide) ?_
  refine gs_nil ?_
  refine s_cons ?_
  refine s1_while PassesOwn.never (fun m Γ' os' => ∃ (a : Nat) (qs : List Piece) (g1 g2 : Option Fact), m = z.length - a ∧ a ≤ z.length ∧ Γ' = [some (fLore x), some (fS z), some (fS (outQ qs)), some (fInt (a : Int)), g1, g2] ∧
      os = os' ∧ (outQ qs).length ≤ 3 * a ∧ ∀ qs', Flows x.2 x.1 (z.drop a) qs' → Flows x.2 x.1 z (qs ++ qs')) ⟨_, 0, [], none, none, rfl, Nat.zero_le _, rfl, rfl, Nat.le_refl _, fun qs' h => h⟩ ?_
  rintro m Γ' os' ⟨a, qs, g1, g2, rfl, ha, rfl, rfl, hql, hfl⟩
  refine t_cmp op_lt (nomark _) ?_
  refine e_var 3 rfl (.inl rfl) rfl ?_
  refine e_callB call_lenU rfl T.n_len (by decide +kernel) ?_
  refine a_cons ?_
  refine e_var 1 rfl (.inl rfl) rfl ?_
  refine a_nil ?_
  refine o_len_S (by rw [ss_len]; omega) ?_
  rw [ss_len]
  walk_at "o_lt"
  refine ⟨_, rfl, ?_⟩
  refine ⟨fun b0 => ?_, fun b0 => ?_⟩
  · skip
    refine s_cons ?_
    refine s1_par (i := 4) (j := 5) rfl sc_law_at_once.nd rfl rfl (by decide) rfl rfl rfl rfl ?_
    refine a_cons ?_
    refine e_tup ?_
    refine a_cons ?_
    refine e_ix ix_seq (fun _ _ => rfl) ?_
    refine e_var 1 rfl (.inl rfl) rfl ?_
    refine e_var 3 rfl (.inl rfl) rfl ?_
    have ha2 : a < z.length := by
      have : (a : Int) < (z.length : Int) := by simpa using b0
      omega
    refine o_ix_S (c := z[a]) (by rw [ss_len]; omega) (by rw [ss_cps]; exact at_nat (by omega) (by simp [ha2])) ?_
    refine a_cons ?_
    refine e_ix ix_seq (fun _ _ => rfl) ?_
    refine e_var 1 rfl (.inl rfl) rfl ?_
    refine e_var 3 rfl (.inl rfl) rfl ?_
    have ha2 : a < z.length := by
      have : (a : Int) < (z.length : Int) := by simpa using b0
      omega
    refine o_ix_S (c := z[a]) (by rw [ss_len]; omega) (by rw [ss_cps]; exact at_nat (by omega) (by simp [ha2])) ?_
    refine a_nil ?_
    refine ⟨by first | decide | (simp; done), ?_⟩
    refine a_cons ?_
    refine e_call D__law_pair_at (hr.mono (by decide)) rfl ?_
    refine a_cons ?_
    refine e_var 0 rfl (.inl rfl) rfl ?_
    refine a_cons ?_
    refine e_slice ?_
    refine e_var 1 rfl (.inl rfl) rfl ?_
    refine eo_some ?_
    refine e_var 3 rfl (.inl rfl) rfl ?_
    refine ⟨_, rfl, ?_⟩
    refine eo_none ?_
    refine o_sl_S (by rw [ss_len]; omega) ?_
    rw [cut_from ha]
    refine a_nil ?_
    refine ⟨x, z.drop a, rfl, hg, by rw [List.length_drop]; omega, fun r hr1 => ?_⟩
    refine a_nil ?_
    refine ⟨_, _,  rfl, ?_⟩
    refine s_cut (fun Γ' os' => ∃ fd pt : List Nat, Γ' = [some (fLore x), some (fS z), some (fS (outQ qs)), some (fInt (a : Int)), some (fT [fS fd, fS pt]), some (fOpt r)] ∧ os = os' ∧ 1 ≤ fd.length ∧ a + fd.length ≤ z.length ∧ pt.length ≤ 3 ∧
    ∀ qs', Flows x.2 x.1 (z.drop (a + fd.length)) qs' → Flows x.2 x.1 (z.drop a) ((r, (z.drop a).take fd.length, pt) :: qs')) ?_ ?_
    · skip
      cases r with
      | none =>
        refine s1_if ?_
        refine t_cmp op_notN' (nomark _) ?_
        refine e_var 5 rfl (.inl rfl) rfl ?_
        refine e_non ?_
        first | refine o_isnot_N ?_ | refine o_isnot_not (F := fInt (i : Int)) nn_int ?_
        refine ⟨_, rfl, ?_⟩
        refine ⟨fun c1 => absurd c1 (by simp), fun _ => ?_⟩
        refine s_nil ?_
        exact ⟨[z[a]], [z[a]], rfl, rfl, Nat.le_refl _, ha2, (by show 1 ≤ 3; decide), fun qs' h => step_one ha2 hr1 h⟩
      | some i =>
        obtain ⟨p, hp, hpm, _⟩ := id hr1
        obtain ⟨p1, p2, p3, p4, p5⟩ := hg.at_ hp
        refine s1_if ?_
        refine t_cmp op_notN' (nomark _) ?_
        refine e_var 5 rfl (.inl rfl) rfl ?_
        refine e_non ?_
        first | refine o_isnot_N ?_ | refine o_isnot_not (F := fInt (i : Int)) nn_int ?_
        refine ⟨_, rfl, ?_⟩
        refine ⟨fun _ => ?_, fun c1 => absurd c1 (by simp)⟩
        refine s_cons ?_
        refine s1_set 4 sc_law_at_once.nd rfl (.inl rfl) ?_
        refine e_ix ix_seq (fun _ _ => rfl) ?_
        refine e_dget (s := "pairs") (i := 0) (hu_of hr) (fun _ _ => rfl) ?_
        refine e_var 0 rfl (.inl rfl) rfl ?_
        refine ⟨_, _, fT (x.1.map fPair), rfl, rfl, ?_⟩
        refine e_str ?_
        refine ⟨rfl, pw_pairs, rfl, ?_⟩
        refine e_var 5 rfl (.inl rfl) rfl ?_
        refine o_ix_T (F := fPair p) (at_nat (by omega) (by rw [List.getElem?_map, Int.toNat_natCast, hp]; rfl)) ?_
        refine s_nil ?_
        exact ⟨p.1, p.2, rfl, rfl, p1, by have := hr1.le hp; rw [List.length_drop] at this; omega, p4, fun qs' h => step_put ha2 hr1 hp h⟩
      skip
    rintro Γ' os' ⟨fd, pt, rfl, rfl, hf1, hf2, hf3, hf4⟩
    refine s_cons ?_
    refine s1_par (i := 2) (j := 3) rfl sc_law_at_once.nd rfl rfl (by decide) rfl rfl rfl rfl ?_
    refine a_cons ?_
    refine e_bin op_addU ?_
    refine e_var 2 rfl (.inl rfl) rfl ?_
    refine e_ix ix_seq (fun _ _ => rfl) ?_
    refine e_var 4 rfl (.inl rfl) rfl ?_
    refine e_int ?_
    refine o_ix_T (F := fS pt) rfl ?_
    refine o_add_str (by rw [ss_len, ss_len]; omega) ?_
    refine a_cons ?_
    refine e_bin op_addU ?_
    refine e_var 3 rfl (.inl rfl) rfl ?_
    refine e_callB call_lenU rfl T.n_len (by decide +kernel) ?_
    refine a_cons ?_
    refine e_ix ix_seq (fun _ _ => rfl) ?_
    refine e_var 4 rfl (.inl rfl) rfl ?_
    refine e_int ?_
    refine o_ix_T (F := fS fd) rfl ?_
    refine a_nil ?_
    refine o_len_S (by rw [ss_len]; omega) ?_
    rw [ss_len]
    walk_at "o_add"
    refine a_nil ?_
    refine ⟨_, _,  rfl, ?_⟩
    refine s_nil ?_
    refine ⟨z.length - (a + fd.length), by omega, a + fd.length, qs ++ [(r, (z.drop a).take fd.length, pt)], some (fT [fS fd, fS pt]), some (fOpt r), rfl, hf2, ?_, rfl, by rw [outQ_snoc, List.length_append]; show _ + pt.length ≤ _; omega, fun qs' h => by rw [List.append_assoc]; exact hfl _ (hf4 qs' h)⟩
    rw [show ((a + fd.length : Nat) : Int) = (a : Int) + (fd.length : Int) by omega, outQ_snoc, ss_app]; rfl
  · skip
    obtain rfl : a = z.length := by
      have : ¬ ((a : Int) < (z.length : Int)) := by simpa using b0
      omega
    refine s_cons ?_
    refine s1_ret ?_
    refine e_var 2 rfl (.inl rfl) rfl ?_
    exact kP qs (by have := hfl [] (by rw [List.drop_length]; exact .nil); rwa [List.append_nil] at this)

end G
namespace G
open PySem L2 TL

local macro_rules | `(tactic| walk_at "mem") => `(tactic| (first | exact List.mem_cons_self | exact List.mem_cons_of_mem _ List.mem_cons_self | exact List.mem_cons_of_mem _ (List.mem_cons_of_mem _ List.mem_cons_self) | exact List.mem_cons_of_mem _ (List.mem_cons_of_mem _ (List.mem_cons_of_mem _ List.mem_cons_self))))
local macro_rules | `(tactic| walk_at "o_isinstance") => `(tactic| (first | refine o_isi (r := true) tyf_S (by decide +kernel) ?_ | refine o_isi (r := true) tyf_T (by decide +kernel) ?_ | refine o_isi (r := true) tyf_L (by decide +kernel) ?_ | refine o_isi (r := true) tyf_I (by decide +kernel) ?_ | refine o_isi (r := true) tyf_B (by decide +kernel) ?_ | refine o_isi (r := false) tyf_S (by decide +kernel) ?_ | refine o_isi (r := false) tyf_T (by decide +kernel) ?_ | refine o_isi (r := false) tyf_L (by decide +kernel) ?_ | refine o_isi (r := false) tyf_I (by decide +kernel) ?_ | refine o_isi (r := false) tyf_B (by decide +kernel) ?_))
local macro_rules | `(tactic| walk_at "o_startswith") => `(tactic| (refine o_starts ?_; rw [starts_ss]))
local macro_rules | `(tactic| walk_at "sz") => `(tactic| (first | omega | (simp <;> omega) | decide))
local macro_rules | `(tactic| walk_at "len") => `(tactic| (first | decide | omega | (simp only [List.length_map]; omega) | (simp; done) | (simp; omega)))
local macro_rules | `(tactic| walk_at "num") => `(tactic| (first | omega | (simp <;> omega) | decide))
local macro_rules | `(tactic| walk_at "o_add") => `(tactic| (first | refine o_add_int ?_ | refine o_add_str (by walk_at "sz") ?_ | refine o_add_lst (by walk_at "sz") ?_ | refine o_add_tup (by walk_at "sz") ?_))
local macro_rules | `(tactic| walk_at "o_iadd") => `(tactic| (first | refine o_iadd_int ?_ | refine o_iadd_str (by walk_at "sz") ?_))
local macro_rules | `(tactic| walk_at "o_sub") => `(tactic| refine o_sub ?_)
local macro_rules | `(tactic| walk_at "o_mul") => `(tactic| refine o_mul (by first | exact .inl (by omega) | exact .inr (by omega)) ?_)
local macro_rules | `(tactic| walk_at "o_mod") => `(tactic| refine o_mod (by first | omega | decide) ?_)
local macro_rules | `(tactic| walk_at "o_eq") => `(tactic| (first | refine o_eq_str ?_ | refine o_eq_int ?_ | refine o_eq_bl ?_))
local macro_rules | `(tactic| walk_at "o_ne") => `(tactic| (first | refine o_ne_str ?_ | refine o_ne_int ?_ | refine o_ne_bl ?_))
local macro_rules | `(tactic| walk_at "o_lt") => `(tactic| refine o_lt ?_)
local macro_rules | `(tactic| walk_at "o_le") => `(tactic| refine o_le ?_)
local macro_rules | `(tactic| walk_at "o_gt") => `(tactic| refine o_gt ?_)
local macro_rules | `(tactic| walk_at "o_ge") => `(tactic| refine o_ge ?_)
local macro_rules | `(tactic| walk_at "o_int") => `(tactic| (first | refine o_int_i ?_ | refine o_int_b ?_))
local macro_rules | `(tactic| walk_at "o_len") => `(tactic| (first | refine o_len_L ?_ | refine o_len_T ?_ | refine o_len_S (by walk_at "sz") ?_ | refine o_len_scr ?_))
local macro_rules | `(tactic| walk_at "o_abs") => `(tactic| refine o_abs ?_)
local macro_rules | `(tactic| walk_at "o_max") => `(tactic| refine o_max2 ?_)
local macro_rules | `(tactic| walk_at "o_min") => `(tactic| refine o_min2 ?_)
local macro_rules | `(tactic| walk_at "ty") => `(tactic| (first | exact ty_str | exact ty_L | exact ty_own List.mem_cons_self | exact ty_own (List.mem_cons_of_mem _ List.mem_cons_self) | exact ty_own (List.mem_cons_of_mem _ (List.mem_cons_of_mem _ List.mem_cons_self))))

theorem ok_law_text {P : Program} {w : World} {K : PySem.W.Frag} {mg : Str → Option Value} {base : Heap} (T : Txt K mg) (D__law_take : Df P w K mg base 2 "_law_take" ["_law_pot_here", "_law_upto"] (fsI fs_take)) (D__law_of : Df P w K mg base 3 "_law_of" ["_law_pot_here", "_law_some_here"] (fsI fs_of)) : Df P w K mg base 4 "_law_text" ["_law_pot_here", "_law_letters_here", "_law_most"] (fsI (fs_textB)) := by
  refine df_okI T.d_law_text sc_law_text (fs_textB_mono) (fun Fs o Post ⟨l, k, cs, n, e, _⟩ => by rw [e]; rfl) ?_
  rintro cdv f A outer s H XE hr Fs os Post ⟨o, os0, rfl, l, k, cs, n, rfl, rfl, h1, hlow, h2, h3, hk0, hk1, kP⟩
  refine s_cons ?_
  refine s1_set 3 sc_law_text.nd rfl (.inr rfl) ?_
  refine e_bin op_addU ?_
  refine e_callTy call_listU rfl T.n_list (by decide +kernel) ?_
  refine a_cons ?_
  refine e_var 1 rfl (.inl rfl) rfl ?_
  refine a_nil ?_
  refine o_list_L ?_
  refine e_lst ?_
  refine a_cons ?_
  refine e_str ?_
  refine a_nil ?_
  refine ⟨by first | decide | (simp; done), ?_⟩
  refine o_add_lst (by rw [List.length_map]; show cs.length + 1 ≤ _; omega) ?_
  rw [show cs.map fC ++ [fStr "q"] = (cs ++ [113]).map fC by rw [List.map_append]; rfl]
  refine s_cons ?_
  refine s1_ret ?_
  refine E.put 0 ?_
  refine e_bm PySem.F.plainAttrs_str PySem.F.slot_str_join PySem.F.type_str_join mt_join' ?_
  refine e_str ?_
  refine ⟨by walk_at "ty", ?_⟩
  refine a_cons ?_
  refine e_lc rfl sc_law_text.nd [("_law_turn", 4)] (blkOk_by (show blkC ["_law_pot_here", "_law_letters_here", "_law_most", "_law_some_here", "_law_turn"] (defScope s_law_text) _ [("_law_turn", 4)] = true by decide +kernel)) ?_
  refine wk_range1 rfl T.n_range ?_
  refine a_cons ?_
  refine e_call D__law_take (hr.mono (by decide)) rfl ?_
  refine a_cons ?_
  refine e_var 0 rfl (.inr (.inl rfl)) rfl ?_
  refine a_cons ?_
  refine e_bin op_addU ?_
  refine e_var 2 rfl (.inl rfl) rfl ?_
  refine e_int ?_
  walk_at "o_add"
  refine a_nil ?_
  refine ⟨_, 0, rfl, l, _, _, rfl, rfl, ?_, ?_, ?_, ?_, fun m hm0 hm1 _ => ?_⟩
  · omega
  · omega
  · omega
  · omega
  refine a_nil ?_
  refine ⟨_, rfl, by omega, by omega, ?_⟩
  refine ⟨fun i acc os' => ∃ wd : List Nat, wd.length = i ∧ (∀ c ∈ wd, c ∈ cs ++ [113]) ∧ acc = wd.map fC ∧ os' = potO l (k + 1 + (i : Int)) :: os0, ⟨[], rfl, by simp, rfl, by rw [show k + 1 + ((0 : Nat) : Int) = k + 1 by omega]; rfl⟩, ?_, by rw [irange_len]; omega, ?_⟩
  · skip
    rintro i F acc os' D hF ⟨wd, hwl, hwc, rfl, rfl⟩ hacc B
    obtain ⟨hi, rfl⟩ := irange_at hF
    refine g_name 4 sc_law_text.nd rfl (.inl rfl) (by decide) ?_
    intro B2
    refine e_call D__law_of (hr.mono (by decide)) rfl ?_
    refine a_cons ?_
    refine e_var 0 rfl (.inr (.inl rfl)) rfl ?_
    refine a_cons ?_
    refine e_var 3 rfl (.inr (.inl rfl)) rfl ?_
    refine a_nil ?_
    refine ⟨_, 1, rfl, l, _, _, rfl, rfl, ?_, ?_, ?_, ?_, fun G hG _ => ?_⟩
    · rw [List.length_map, List.length_append, List.length_singleton]; omega
    · rw [List.length_map, List.length_append, List.length_singleton]; omega
    · omega
    · omega
    obtain ⟨c, hc, rfl⟩ := List.mem_map.mp hG
    refine ⟨_, rfl, wd ++ [c], by simp [hwl], fun y hy => ?_, by rw [List.map_append]; rfl, ?_⟩
    · rcases List.mem_append.mp hy with u | u
      · exact hwc y u
      · rw [List.mem_singleton.mp u]; exact hc
    · rw [show k + 1 + ((i + 1 : Nat) : Int) = k + 1 + (i : Int) + 1 by omega]
      rfl
  · skip
    rintro acc os' hal ⟨wd, hwl, hwc, rfl, rfl⟩
    rw [irange_len] at hwl ⊢
    refine a_nil ?_
    refine o_joinC (by omega) ?_
    refine ⟨l, _, [fNn, fSm, fCt (k + 100)], rfl, .cons Fle.refl (.cons Fle.refl (.cons (Fle.ct2 (by omega)) .nil)), ?_⟩
    exact kP wd (fun c hc => by
      rcases List.mem_append.mp (hwc c hc) with u | u
      · exact hlow c u
      · rw [List.mem_singleton.mp u]; decide) (by omega) rfl

end G
namespace G
open PySem L2 TL

local macro_rules | `(tactic| walk_at "mem") => `(tactic| (first | exact List.mem_cons_self | exact List.mem_cons_of_mem _ List.mem_cons_self | exact List.mem_cons_of_mem _ (List.mem_cons_of_mem _ List.mem_cons_self) | exact List.mem_cons_of_mem _ (List.mem_cons_of_mem _ (List.mem_cons_of_mem _ List.mem_cons_self))))
local macro_rules | `(tactic| walk_at "o_isinstance") => `(tactic| (first | refine o_isi (r := true) tyf_S (by decide +kernel) ?_ | refine o_isi (r := true) tyf_T (by decide +kernel) ?_ | refine o_isi (r := true) tyf_L (by decide +kernel) ?_ | refine o_isi (r := true) tyf_I (by decide +kernel) ?_ | refine o_isi (r := true) tyf_B (by decide +kernel) ?_ | refine o_isi (r := false) tyf_S (by decide +kernel) ?_ | refine o_isi (r := false) tyf_T (by decide +kernel) ?_ | refine o_isi (r := false) tyf_L (by decide +kernel) ?_ | refine o_isi (r := false) tyf_I (by decide +kernel) ?_ | refine o_isi (r := false) tyf_B (by decide +kernel) ?_))
local macro_rules | `(tactic| walk_at "o_startswith") => `(tactic| (refine o_starts ?_; rw [starts_ss]))
local macro_rules | `(tactic| walk_at "sz") => `(tactic| (first | omega | (simp <;> omega) | decide))
local macro_rules | `(tactic| walk_at "len") => `(tactic| (first | decide | omega | (simp only [List.length_map]; omega) | (simp; done) | (simp; omega)))
local macro_rules | `(tactic| walk_at "num") => `(tactic| (first | omega | (simp <;> omega) | decide))
local macro_rules | `(tactic| walk_at "o_add") => `(tactic| (first | refine o_add_int ?_ | refine o_add_str (by walk_at "sz") ?_ | refine o_add_lst (by walk_at "sz") ?_ | refine o_add_tup (by walk_at "sz") ?_))
local macro_rules | `(tactic| walk_at "o_iadd") => `(tactic| (first | refine o_iadd_int ?_ | refine o_iadd_str (by walk_at "sz") ?_))
local macro_rules | `(tactic| walk_at "o_sub") => `(tactic| refine o_sub ?_)
local macro_rules | `(tactic| walk_at "o_mul") => `(tactic| refine o_mul (by first | exact .inl (by omega) | exact .inr (by omega)) ?_)
local macro_rules | `(tactic| walk_at "o_mod") => `(tactic| refine o_mod (by first | omega | decide) ?_)
local macro_rules | `(tactic| walk_at "o_eq") => `(tactic| (first | refine o_eq_str ?_ | refine o_eq_int ?_ | refine o_eq_bl ?_))
local macro_rules | `(tactic| walk_at "o_ne") => `(tactic| (first | refine o_ne_str ?_ | refine o_ne_int ?_ | refine o_ne_bl ?_))
local macro_rules | `(tactic| walk_at "o_lt") => `(tactic| refine o_lt ?_)
local macro_rules | `(tactic| walk_at "o_le") => `(tactic| refine o_le ?_)
local macro_rules | `(tactic| walk_at "o_gt") => `(tactic| refine o_gt ?_)
local macro_rules | `(tactic| walk_at "o_ge") => `(tactic| refine o_ge ?_)
local macro_rules | `(tactic| walk_at "o_int") => `(tactic| (first | refine o_int_i ?_ | refine o_int_b ?_))
local macro_rules | `(tactic| walk_at "o_len") => `(tactic| (first | refine o_len_L ?_ | refine o_len_T ?_ | refine o_len_S (by walk_at "sz") ?_ | refine o_len_scr ?_))
local macro_rules | `(tactic| walk_at "o_abs") => `(tactic| refine o_abs ?_)
local macro_rules | `(tactic| walk_at "o_max") => `(tactic| refine o_max2 ?_)
local macro_rules | `(tactic| walk_at "o_min") => `(tactic| refine o_min2 ?_)
local macro_rules | `(tactic| walk_at "ty") => `(tactic| (first | exact ty_str | exact ty_L | exact ty_own List.mem_cons_self | exact ty_own (List.mem_cons_of_mem _ List.mem_cons_self) | exact ty_own (List.mem_cons_of_mem _ (List.mem_cons_of_mem _ List.mem_cons_self))))

theorem ok_initR {P : Program} {w : World} {K : PySem.W.Frag} {mg : Str → Option Value} {base : Heap} {C R : Addr} (T : Txt K mg) (TX : TxtX K mg C) (TR : TxtR K mg C R) {f E0 : Addr} {fd : FuncData} (F : FunD K "__init__" "Row.__init__" (defArgs s_Rowu_initu) (defBody s_Rowu_initu) (defScope s_Rowu_initu) [.ref E0] [] f fd) : Fd P w K mg base 1 f fd ["self", "steps"] (fs_initR R C) := by
  refine fd_okD F sc_Rowu_initu (fun Fs os Post ⟨_, _, _, _, e, _⟩ => by rw [e]; rfl) ?_
  rintro cdv f A outer s H XE hr Fs os Post ⟨o, dx, xs, os0, rfl, rfl, hn, kP⟩
  refine s_cons ?_
  refine s1_if ?_
  refine t_w ?_
  refine w_or ?_
  refine t_not ?_
  refine t_val (by intro _; rfl) ?_
  refine e_callB call_isi rfl T.n_isinstance (by decide +kernel) ?_
  refine a_cons ?_
  refine e_var 1 rfl (.inl rfl) rfl ?_
  refine a_cons ?_
  refine e_bltn (n := "tuple") rfl T.n_tuple (by decide +kernel) ?_
  refine a_nil ?_
  walk_at "o_isinstance"
  refine ⟨_, rfl, ?_⟩
  refine ⟨fun b0 => absurd b0 (by simp), fun b0 => ?_⟩
  refine w_or1 ?_
  refine t_cmp op_gt (nomark _) ?_
  refine e_callB call_lenU rfl T.n_len (by decide +kernel) ?_
  refine a_cons ?_
  refine e_var 1 rfl (.inl rfl) rfl ?_
  refine a_nil ?_
  refine o_len_T ?_
  rw [List.length_map]
  refine e_globI rfl T.c_MOST_STEPS ?_
  walk_at "o_gt"
  refine ⟨_, rfl, ?_⟩
  refine ⟨fun b1 => ?_, fun b1 => ?_⟩
  · skip
    exact absurd b1 (by simp <;> omega) --stop
  · skip
    refine s_nil ?_
    refine s_cons ?_
    refine s1_if ?_
    refine t_not ?_
    refine t_val (by intro _; rfl) ?_
    refine e_callB (cr_all rfl) rfl T.n_all (by decide +kernel) ?_
    refine a_cons ?_
    refine e_lc rfl sc_Rowu_initu.nd [("step", 2)] (blkOk_by (show blkC ["self", "steps", "step"] (defScope s_Rowu_initu) _ [("step", 2)] = true by decide +kernel)) ?_
    refine wk_tup ?_
    refine e_var 1 rfl (.inl rfl) rfl ?_
    refine ⟨_, rfl, ?_⟩
    refine ⟨fun i acc os' => acc = (List.replicate i true).map fBl ∧ (Own.ins R dx o [] [] :: os0) = os', ⟨rfl, rfl⟩, ?_, by rw [List.length_map]; omega, ?_⟩
    · skip
      rintro i F acc os' D hF ⟨rfl, rfl⟩ hacc B
      obtain ⟨q, hq, rfl⟩ := map_at hF
      refine g_name 2 sc_Rowu_initu.nd rfl (.inl rfl) (by decide) ?_
      intro B2
      refine e_callB call_isi rfl T.n_isinstance (by decide +kernel) ?_
      refine a_cons ?_
      refine e_var 2 rfl (.inl rfl) rfl ?_
      refine a_cons ?_
      refine e_glob (v := .ref C) rfl TX.mgC rfl ?_
      refine a_nil ?_
      refine o_isiC (tyf_I' TX.cl TR.isi) kit_same ?_
      exact ⟨_, rfl, by rw [rep_snoc, List.map_append]; rfl, rfl⟩
    · skip
      rintro acc os' hal ⟨rfl, rfl⟩
      refine a_nil ?_
      refine o_all ?_
      refine ⟨_, rfl, ?_⟩
      refine ⟨fun b2 => ?_, fun b2 => ?_⟩
      · skip
        exact absurd b2 (by simp) --stop
      · skip
        refine s_nil ?_
        refine s_cons ?_
        refine s1_fldNew ?_
        refine e_var 1 rfl (.inl rfl) rfl ?_
        refine e_var 0 rfl (.inl rfl) rfl ?_
        refine ⟨0, R, dx, o, [], [], rfl, rfl, TR.cl, TR.nS, by decide, rfl, by decide, ?_⟩
        refine s_nil ?_
        exact kP

theorem ok_lenR {P : Program} {w : World} {K : PySem.W.Frag} {mg : Str → Option Value} {base : Heap} {C R : Addr} (T : Txt K mg) (TX : TxtX K mg C) (TR : TxtR K mg C R) {f : Addr} {fd : FuncData} (F : Fun K "__len__" "Row.__len__" s_Rowu_lenu f fd) : Fd P w K mg base 1 f fd ["self"] (fs_lenR R C) := by
  refine fd_ok F sc_Rowu_lenu (fun Fs os Post ⟨_, e, _⟩ => by rw [e]; rfl) ?_
  rintro cdv f A outer s H XE hr Fs os Post ⟨xs, rfl, kP⟩
  refine s_cons ?_
  refine s1_ret ?_
  refine e_callB call_lenU rfl T.n_len (by decide +kernel) ?_
  refine a_cons ?_
  refine e_fld 0 ?_
  refine e_var 0 rfl (.inl rfl) rfl ?_
  refine ⟨R, OWR, _, _, rfl, TR.cl, TR.nS, rfl, by decide, rfl, ?_⟩
  refine a_nil ?_
  refine o_len_T ?_
  rw [List.length_map]
  exact kP

theorem ok_callR {P : Program} {w : World} {K : PySem.W.Frag} {mg : Str → Option Value} {base : Heap} {C R : Addr} (T : Txt K mg) (TX : TxtX K mg C) (TR : TxtR K mg C R) (D_check_text : Df P w K mg base 2 "check_text" ["value"] (fs_check)) (D_flow : Df P w K mg base 4 "flow" ["exchange", "letters", "is_end"] (fs_flow C)) (D_joined : Df P w K mg base 1 "joined" ["pieces"] (fs_joined)) {f : Addr} {fd : FuncData} (F : Fun K "__call__" "Row.__call__" s_Rowu_callu f fd) : Fd P w K mg base 6 f fd ["self", "text"] (fs_callR R C) := by
  obtain ⟨fC', fdC, cO, FC, bC⟩ := TX.call
  have GC := ok_call (P := P) (w := w) (base := base) T TX D_check_text D_flow D_joined FC
  refine fd_ok F sc_Rowu_callu (fun Fs os Post ⟨_, _, e, _⟩ => by rw [e]; rfl) ?_
  rintro cdv f A outer s H XE hr Fs os Post ⟨xs, z, rfl, hgr, hlow, hs, kP⟩
  refine s_cons ?_
  refine s1_expr ?_
  refine e_call D_check_text (hr.mono (by decide)) rfl ?_
  refine a_cons ?_
  refine e_var 1 rfl (.inl rfl) rfl ?_
  refine a_nil ?_
  refine ⟨z, rfl, by have := hs.le; omega, hlow, ?_⟩
  refine s_cons ?_
  refine s1_for [2] PassesOwn.never rfl ?_
  refine wk_tup ?_
  refine e_fld 0 ?_
  refine e_var 0 rfl (.inl rfl) rfl ?_
  refine ⟨R, OWR, _, _, rfl, TR.cl, TR.nS, rfl, by decide, rfl, ?_⟩
  refine ⟨_, rfl, ?_⟩
  refine ⟨fun i Γ' os' => ∃ (v : List Nat) (g : Option Fact), Γ' = [some (fR R C xs), some (fS v), g] ∧ os = os' ∧ Low v ∧ Short (xs.length - i) v ∧ ∀ r, Runs (xs.drop i) v r → Runs xs z r, ⟨z, none, rfl, rfl, hlow, hs, fun r h => h⟩, ?_, ?_⟩
  · skip
    rintro i F Γ' os' hF ⟨v, g, rfl, rfl, hv, hsv, hru⟩
    obtain ⟨x, hx, rfl⟩ := map_at hF
    have hi := (List.getElem?_eq_some_iff.mp hx).1
    have hg := hgr.2 x (List.mem_of_getElem? hx)
    refine g_name 2 sc_Rowu_callu.nd rfl (.inl rfl) (by decide) ?_
    refine s_cons ?_
    refine s1_set 1 sc_Rowu_callu.nd rfl (.inl rfl) ?_
    refine e_callI cO GC (hr.mono (by decide)) bC ?_
    refine e_var 2 rfl (.inl rfl) rfl ?_
    refine ⟨⟨_, ins_I⟩, ?_⟩
    refine a_cons ?_
    refine e_var 1 rfl (.inl rfl) rfl ?_
    refine a_nil ?_
    refine ⟨⟨_, ins_I⟩, x, v, rfl, hg, hsv.le, hv, fun qs hq hq1 hq2 => ?_⟩
    refine s_nil ?_
    exact ⟨outQ qs, _, rfl, rfl, hq.low hg hv, Short.next (by rw [show xs.length - (i + 1) + 1 = xs.length - i by omega]; exact hsv) hq hg hq2, Runs.last (r := []) hx hq hru⟩
  · skip
    rintro Γ' os' ⟨v, g, rfl, rfl, hv, hsv, hru⟩
    rw [List.length_map] at hsv hru
    rw [List.drop_length] at hru
    rw [Nat.sub_self] at hsv
    refine s_cons ?_
    refine s1_ret ?_
    refine e_var 1 rfl (.inl rfl) rfl ?_
    exact kP v (hru v .nil) hv hsv.le

theorem ok_piece {P : Program} {w : World} {K : PySem.W.Frag} {mg : Str → Option Value} {base : Heap} {C R : Addr} (T : Txt K mg) (TX : TxtX K mg C) (TR : TxtR K mg C R) (D_is_between : Df P w K mg base 2 "is_between" ["value", "low", "high"] (fs_between)) {f : Addr} {fd : FuncData} (F : Fun K "piece" "Row.piece" s_Row_piece f fd) : Fd P w K mg base 3 f fd ["self", "first", "behind"] (fs_piece R C) := by
  obtain ⟨fI', fdI, E0, MR, FI, bI, ⟨dsI, vI, bI0⟩, hE⟩ := TR.init
  have GI := ok_initR (P := P) (w := w) (base := base) T TX TR FI
  refine fd_ok F sc_Row_piece (fun Fs os Post ⟨_, _, _, e, _⟩ => by rw [e]; rfl) ?_
  rintro cdv f A outer s H XE hr Fs os Post ⟨xs, i, j, rfl, hn, hij, hj, kP⟩
  refine s_cons ?_
  refine s1_set 3 sc_Row_piece.nd rfl (.inl rfl) ?_
  refine e_callB call_lenU rfl T.n_len (by decide +kernel) ?_
  refine a_cons ?_
  refine e_fld 0 ?_
  refine e_var 0 rfl (.inl rfl) rfl ?_
  refine ⟨R, OWR, _, _, rfl, TR.cl, TR.nS, rfl, by decide, rfl, ?_⟩
  refine a_nil ?_
  refine o_len_T ?_
  rw [List.length_map]
  refine s_cons ?_
  refine s1_if ?_
  refine t_w ?_
  refine w_or ?_
  refine t_not ?_
  refine t_val (by intro _; rfl) ?_
  refine e_call D_is_between (hr.mono (by decide)) rfl ?_
  refine a_cons ?_
  refine e_var 1 rfl (.inl rfl) rfl ?_
  refine a_cons ?_
  refine e_int ?_
  refine a_cons ?_
  refine e_var 3 rfl (.inl rfl) rfl ?_
  refine a_nil ?_
  refine ⟨_, _, _, rfl, ?_, ?_, ?_⟩
  · omega
  · omega
  refine ⟨_, rfl, ?_⟩
  refine ⟨fun b0 => absurd b0 (by simp), fun b0 => ?_⟩
  refine w_or1 ?_
  refine t_not ?_
  refine t_val (by intro _; rfl) ?_
  refine e_call D_is_between (hr.mono (by decide)) rfl ?_
  refine a_cons ?_
  refine e_var 2 rfl (.inl rfl) rfl ?_
  refine a_cons ?_
  refine e_var 1 rfl (.inl rfl) rfl ?_
  refine a_cons ?_
  refine e_var 3 rfl (.inl rfl) rfl ?_
  refine a_nil ?_
  refine ⟨_, _, _, rfl, ?_, ?_, ?_⟩
  · omega
  · omega
  refine ⟨_, rfl, ?_⟩
  refine ⟨fun b1 => ?_, fun b1 => ?_⟩
  · skip
    exact absurd b1 (by simp) --stop
  · skip
    refine s_nil ?_
    refine s_cons ?_
    refine s1_ret ?_
    refine e_make MR GI (hr.mono (by decide)) rfl TR.mgR bI ?_
    refine a_cons ?_
    refine e_sliceT ?_
    refine e_fld 0 ?_
    refine e_var 0 rfl (.inl rfl) rfl ?_
    refine ⟨R, OWR, _, _, rfl, TR.cl, TR.nS, rfl, by decide, rfl, ?_⟩
    refine eo_some ?_
    refine e_var 1 rfl (.inl rfl) rfl ?_
    refine ⟨_, rfl, ?_⟩
    refine eo_some ?_
    refine e_var 2 rfl (.inl rfl) rfl ?_
    refine ⟨_, rfl, ?_⟩
    refine ⟨_, rfl, ?_⟩
    refine a_nil ?_
    rw [cutF_nat hij (by rw [List.length_map]; exact hj), ← List.map_drop, ← List.map_take]
    exact fun o dx => ⟨o, dx, _, _, rfl, rfl, by rw [List.length_take, List.length_drop]; omega, rfl, dx, OWR, _, _, rfl, kP⟩
    skip

end G
namespace G
open PySem L2 TL

local macro_rules | `(tactic| walk_at "mem") => `(tactic| (first | exact List.mem_cons_self | exact List.mem_cons_of_mem _ List.mem_cons_self | exact List.mem_cons_of_mem _ (List.mem_cons_of_mem _ List.mem_cons_self) | exact List.mem_cons_of_mem _ (List.mem_cons_of_mem _ (List.mem_cons_of_mem _ List.mem_cons_self))))
local macro_rules | `(tactic| walk_at "o_isinstance") => `(tactic| (first | refine o_isi (r := true) tyf_S (by decide +kernel) ?_ | refine o_isi (r := true) tyf_T (by decide +kernel) ?_ | refine o_isi (r := true) tyf_L (by decide +kernel) ?_ | refine o_isi (r := true) tyf_I (by decide +kernel) ?_ | refine o_isi (r := true) tyf_B (by decide +kernel) ?_ | refine o_isi (r := false) tyf_S (by decide +kernel) ?_ | refine o_isi (r := false) tyf_T (by decide +kernel) ?_ | refine o_isi (r := false) tyf_L (by decide +kernel) ?_ | refine o_isi (r := false) tyf_I (by decide +kernel) ?_ | refine o_isi (r := false) tyf_B (by decide +kernel) ?_))
local macro_rules | `(tactic| walk_at "o_startswith") => `(tactic| (refine o_starts ?_; rw [starts_ss]))
local macro_rules | `(tactic| walk_at "sz") => `(tactic| (first | omega | (simp <;> omega) | decide))
local macro_rules | `(tactic| walk_at "len") => `(tactic| (first | decide | omega | (simp only [List.length_map]; omega) | (simp; done) | (simp; omega)))
local macro_rules | `(tactic| walk_at "num") => `(tactic| (first | omega | (simp <;> omega) | decide))
local macro_rules | `(tactic| walk_at "o_add") => `(tactic| (first | refine o_add_int ?_ | refine o_add_str (by walk_at "sz") ?_ | refine o_add_lst (by walk_at "sz") ?_ | refine o_add_tup (by walk_at "sz") ?_))
local macro_rules | `(tactic| walk_at "o_iadd") => `(tactic| (first | refine o_iadd_int ?_ | refine o_iadd_str (by walk_at "sz") ?_))
local macro_rules | `(tactic| walk_at "o_sub") => `(tactic| refine o_sub ?_)
local macro_rules | `(tactic| walk_at "o_mul") => `(tactic| refine o_mul (by first | exact .inl (by omega) | exact .inr (by omega)) ?_)
local macro_rules | `(tactic| walk_at "o_mod") => `(tactic| refine o_mod (by first | omega | decide) ?_)
local macro_rules | `(tactic| walk_at "o_eq") => `(tactic| (first | refine o_eq_str ?_ | refine o_eq_int ?_ | refine o_eq_bl ?_))
local macro_rules | `(tactic| walk_at "o_ne") => `(tactic| (first | refine o_ne_str ?_ | refine o_ne_int ?_ | refine o_ne_bl ?_))
local macro_rules | `(tactic| walk_at "o_lt") => `(tactic| refine o_lt ?_)
local macro_rules | `(tactic| walk_at "o_le") => `(tactic| refine o_le ?_)
local macro_rules | `(tactic| walk_at "o_gt") => `(tactic| refine o_gt ?_)
local macro_rules | `(tactic| walk_at "o_ge") => `(tactic| refine o_ge ?_)
local macro_rules | `(tactic| walk_at "o_int") => `(tactic| (first | refine o_int_i ?_ | refine o_int_b ?_))
local macro_rules | `(tactic| walk_at "o_len") => `(tactic| (first | refine o_len_L ?_ | refine o_len_T ?_ | refine o_len_S (by walk_at "sz") ?_ | refine o_len_scr ?_))
local macro_rules | `(tactic| walk_at "o_abs") => `(tactic| refine o_abs ?_)
local macro_rules | `(tactic| walk_at "o_max") => `(tactic| refine o_max2 ?_)
local macro_rules | `(tactic| walk_at "o_min") => `(tactic| refine o_min2 ?_)
local macro_rules | `(tactic| walk_at "ty") => `(tactic| (first | exact ty_str | exact ty_L | exact ty_own List.mem_cons_self | exact ty_own (List.mem_cons_of_mem _ List.mem_cons_self) | exact ty_own (List.mem_cons_of_mem _ (List.mem_cons_of_mem _ List.mem_cons_self))))

theorem ok_law_lores {P : Program} {w : World} {K : PySem.W.Frag} {mg : Str → Option Value} {base : Heap} (T : Txt K mg) (D__law_take : Df P w K mg base 2 "_law_take" ["_law_pot_here", "_law_upto"] (fsI fs_take)) (D__law_lore : Df P w K mg base 5 "_law_lore" ["_law_pot_here", "_law_letters_here", "_law_most", "_law_size"] (fsI fs_lore)) : Df P w K mg base 6 "_law_lores" ["_law_pot_here", "_law_letters_here", "_law_steps", "_law_most", "_law_size"] (fsI (fs_lores)) := by
  refine df_okI T.d_law_lores sc_law_lores (fs_lores_mono) (fun Fs o Post ⟨l, k, cs, st, most, size, e, _⟩ => by rw [e]; rfl) ?_
  rintro cdv f A outer s H XE hr Fs os Post ⟨o, os0, rfl, l, k, cs, steps, most, size, rfl, rfl, hc0, hc1, hst0, hst1, hmo0, hmo1, hz0, hz1, hk0, hk1, kP⟩
  refine s_cons ?_
  refine s1_ret ?_
  refine E.put 0 ?_
  refine e_lc rfl sc_law_lores.nd [("_law_turn", 5)] (blkOk_by (show blkC ["_law_pot_here", "_law_letters_here", "_law_steps", "_law_most", "_law_size", "_law_turn"] (defScope s_law_lores) _ [("_law_turn", 5)] = true by decide +kernel)) ?_
  refine wk_range1 rfl T.n_range ?_
  refine a_cons ?_
  refine e_bin op_addU ?_
  refine e_int ?_
  refine e_call D__law_take (hr.mono (by decide)) rfl ?_
  refine a_cons ?_
  refine e_var 0 rfl (.inr (.inl rfl)) rfl ?_
  refine a_cons ?_
  refine e_var 2 rfl (.inl rfl) rfl ?_
  refine a_nil ?_
  refine ⟨_, 0, rfl, l, _, _, rfl, rfl, ?_, ?_, ?_, ?_, fun m hm0 hm1 _ => ?_⟩
  · omega
  · omega
  · omega
  · omega
  walk_at "o_add"
  refine a_nil ?_
  refine ⟨_, rfl, by omega, by omega, ?_⟩
  refine ⟨fun i acc os' => ∃ xs : List Lore, xs.length = i ∧ (∀ x ∈ xs, IsLore cs most size x) ∧ acc = xs.map fLore ∧ os' = potO l (k + 1 + 200 * (i : Int)) :: os0, ⟨[], rfl, by simp, rfl, congrArg (fun j => potO l j :: os0) (by omega)⟩, ?_, by rw [irange_len]; omega, ?_⟩
  · skip
    rintro i F acc os' D hF ⟨xs, hxl, hxs, rfl, rfl⟩ hacc B
    obtain ⟨hi, rfl⟩ := irange_at hF
    refine g_name 5 sc_law_lores.nd rfl (.inl rfl) (by decide) ?_
    intro B2
    refine e_call D__law_lore (hr.mono (by decide)) rfl ?_
    refine a_cons ?_
    refine e_var 0 rfl (.inr (.inl rfl)) rfl ?_
    refine a_cons ?_
    refine e_var 1 rfl (.inr (.inl rfl)) rfl ?_
    refine a_cons ?_
    refine e_var 3 rfl (.inr (.inl rfl)) rfl ?_
    refine a_cons ?_
    refine e_var 4 rfl (.inr (.inl rfl)) rfl ?_
    refine a_nil ?_
    refine ⟨_, 1, rfl, l, _, cs, most, size, rfl, rfl, hc0, hc1, hmo0, hmo1, hz0, hz1, ?_, ?_, fun x hx _ => ?_⟩
    · omega
    · omega
    refine ⟨_, rfl, xs ++ [x], by simp [hxl], fun y hy => ?_, by rw [List.map_append]; rfl, congrArg (fun j => potO l j :: os0) (by omega)⟩
    rcases List.mem_append.mp hy with u | u
    · exact hxs y u
    · rw [List.mem_singleton.mp u]; exact hx
  · skip
    rintro acc os' hal ⟨xs, hxl, hxs, rfl, rfl⟩
    rw [irange_len] at hxl ⊢
    refine ⟨l, _, [fNn, fSm, fCt (k + 3000)], rfl, .cons Fle.refl (.cons Fle.refl (.cons (Fle.ct2 (by omega)) .nil)), ?_⟩
    exact kP xs (by omega) (by omega) hxs rfl

theorem ok_law_row {P : Program} {w : World} {K : PySem.W.Frag} {mg : Str → Option Value} {base : Heap} {C R : Addr} (T : Txt K mg) (TX : TxtX K mg C) (TR : TxtR K mg C R) (D__law_exchange : Df P w K mg base 7 "_law_exchange" ["_law_lore_here"] (fs_exch C)) : Df P w K mg base 8 "_law_row" ["_law_lores_here"] (fs_row R C) := by
  obtain ⟨fI', fdI, E0, MR, FI, bI, ⟨dsI, vI, bI0⟩, hE⟩ := TR.init
  have GI := ok_initR (P := P) (w := w) (base := base) T TX TR FI
  refine df_ok T.d_law_row sc_law_row (fun Fs os Post ⟨_, e, _⟩ => by rw [e]; rfl) ?_
  rintro cdv f A outer s H XE hr Fs os Post ⟨xs, rfl, hgr, kP⟩
  refine s_cons ?_
  refine s1_ret ?_
  refine e_make MR GI (hr.mono (by decide)) rfl TR.mgR bI ?_
  refine a_cons ?_
  refine e_callTy call_tupU rfl T.n_tuple (by decide +kernel) ?_
  refine a_cons ?_
  refine e_lc rfl sc_law_row.nd [("_law_lore_here", 1)] (blkOk_by (show blkC ["_law_lores_here", "_law_lore_here"] (defScope s_law_row) _ [("_law_lore_here", 1)] = true by decide +kernel)) ?_
  refine wk_list ?_
  refine e_var 0 rfl (.inl rfl) rfl ?_
  refine ⟨_, rfl, ?_⟩
  refine ⟨fun i acc os' => acc = ((xs.take i).map (fX C)) ∧ os = os', ⟨rfl, rfl⟩, ?_, by rw [List.length_map]; have := hgr.1; omega, ?_⟩
  · skip
    rintro i F acc os' D hF ⟨rfl, rfl⟩ hacc B
    obtain ⟨q, hq, rfl⟩ := map_at hF
    refine g_name 1 sc_law_row.nd rfl (.inl rfl) (by decide) ?_
    intro B2
    refine e_call D__law_exchange (hr.mono (by decide)) rfl ?_
    refine a_cons ?_
    refine e_var 1 rfl (.inl rfl) rfl ?_
    refine a_nil ?_
    refine ⟨q, rfl, hgr.2 q (List.mem_of_getElem? hq), ?_⟩
    refine ⟨_, rfl, ?_, rfl⟩
    rw [take_more hq, List.map_append]; rfl
  · skip
    rintro acc os' hal ⟨rfl, rfl⟩
    rw [List.length_map, List.take_length]
    refine a_nil ?_
    refine o_tup_L ?_
    refine a_nil ?_
    exact fun o dx => ⟨o, dx, xs, _, rfl, rfl, hgr.1, rfl, dx, OWR, _, _, rfl, kP⟩
    skip

theorem ok_law_one_by_one {P : Program} {w : World} {K : PySem.W.Frag} {mg : Str → Option Value} {base : Heap} (T : Txt K mg) (D__law_at_once : Df P w K mg base 2 "_law_at_once" ["_law_lore_here", "_law_text_here"] (fs_once)) : Df P w K mg base 3 "_law_one_by_one" ["_law_lores_here", "_law_text_here"] (fs_oneBy) := by
  refine df_ok T.d_law_one_by_one sc_law_one_by_one (fun Fs os Post ⟨_, _, e, _⟩ => by rw [e]; rfl) ?_
  rintro cdv f A outer s H XE hr Fs os Post ⟨xs, z, rfl, hgr, hlow, hs, kP⟩
  refine s_cons ?_
  refine s1_for [2] PassesOwn.never rfl ?_
  refine wk_list ?_
  refine e_var 0 rfl (.inl rfl) rfl ?_
  refine ⟨_, rfl, ?_⟩
  refine ⟨fun i Γ' os' => ∃ (v : List Nat) (g : Option Fact), Γ' = [some (fL (xs.map fLore)), some (fS v), g] ∧ os = os' ∧ Low v ∧ Short (xs.length - i) v ∧ ∀ r, Runs (xs.drop i) v r → Runs xs z r, ⟨z, none, rfl, rfl, hlow, hs, fun r h => h⟩, ?_, ?_⟩
  · skip
    rintro i F Γ' os' hF ⟨v, g, rfl, rfl, hv, hsv, hru⟩
    obtain ⟨x, hx, rfl⟩ := map_at hF
    have hi := (List.getElem?_eq_some_iff.mp hx).1
    have hg := hgr.2 x (List.mem_of_getElem? hx)
    refine g_name 2 sc_law_one_by_one.nd rfl (.inl rfl) (by decide) ?_
    refine s_cons ?_
    refine s1_set 1 sc_law_one_by_one.nd rfl (.inl rfl) ?_
    refine e_call D__law_at_once (hr.mono (by decide)) rfl ?_
    refine a_cons ?_
    refine e_var 2 rfl (.inl rfl) rfl ?_
    refine a_cons ?_
    refine e_var 1 rfl (.inl rfl) rfl ?_
    refine a_nil ?_
    refine ⟨x, v, rfl, hg, hsv.le, fun qs hq => ?_⟩
    refine s_nil ?_
    exact ⟨outQ qs, _, rfl, rfl, hq.low hg hv, Short.next (by rw [show xs.length - (i + 1) + 1 = xs.length - i by omega]; exact hsv) hq hg (hq.puts hg), Runs.last (r := []) hx hq hru⟩
  · skip
    rintro Γ' os' ⟨v, g, rfl, rfl, hv, hsv, hru⟩
    rw [List.length_map] at hsv hru
    rw [List.drop_length] at hru
    refine s_cons ?_
    refine s1_ret ?_
    refine e_var 1 rfl (.inl rfl) rfl ?_
    exact kP v (hru v .nil)

end G
namespace G
open PySem L2 TL

local macro_rules | `(tactic| walk_at "mem") => `(tactic| (first | exact List.mem_cons_self | exact List.mem_cons_of_mem _ List.mem_cons_self | exact List.mem_cons_of_mem _ (List.mem_cons_of_mem _ List.mem_cons_self) | exact List.mem_cons_of_mem _ (List.mem_cons_of_mem _ (List.mem_cons_of_mem _ List.mem_cons_self))))
local macro_rules | `(tactic| walk_at "o_isinstance") => `(tactic| (first | refine o_isi (r := true) tyf_S (by decide +kernel) ?_ | refine o_isi (r := true) tyf_T (by decide +kernel) ?_ | refine o_isi (r := true) tyf_L (by decide +kernel) ?_ | refine o_isi (r := true) tyf_I (by decide +kernel) ?_ | refine o_isi (r := true) tyf_B (by decide +kernel) ?_ | refine o_isi (r := false) tyf_S (by decide +kernel) ?_ | refine o_isi (r := false) tyf_T (by decide +kernel) ?_ | refine o_isi (r := false) tyf_L (by decide +kernel) ?_ | refine o_isi (r := false) tyf_I (by decide +kernel) ?_ | refine o_isi (r := false) tyf_B (by decide +kernel) ?_))
local macro_rules | `(tactic| walk_at "o_startswith") => `(tactic| (refine o_starts ?_; rw [starts_ss]))
local macro_rules | `(tactic| walk_at "sz") => `(tactic| (first | omega | (simp <;> omega) | decide))
local macro_rules | `(tactic| walk_at "len") => `(tactic| (first | decide | omega | (simp only [List.length_map]; omega) | (simp; done) | (simp; omega)))
local macro_rules | `(tactic| walk_at "num") => `(tactic| (first | omega | (simp <;> omega) | decide))
local macro_rules | `(tactic| walk_at "o_add") => `(tactic| (first | refine o_add_int ?_ | refine o_add_str (by walk_at "sz") ?_ | refine o_add_lst (by walk_at "sz") ?_ | refine o_add_tup (by walk_at "sz") ?_))
local macro_rules | `(tactic| walk_at "o_iadd") => `(tactic| (first | refine o_iadd_int ?_ | refine o_iadd_str (by walk_at "sz") ?_))
local macro_rules | `(tactic| walk_at "o_sub") => `(tactic| refine o_sub ?_)
local macro_rules | `(tactic| walk_at "o_mul") => `(tactic| refine o_mul (by first | exact .inl (by omega) | exact .inr (by omega)) ?_)
local macro_rules | `(tactic| walk_at "o_mod") => `(tactic| refine o_mod (by first | omega | decide) ?_)
local macro_rules | `(tactic| walk_at "o_eq") => `(tactic| (first | refine o_eq_str ?_ | refine o_eq_int ?_ | refine o_eq_bl ?_))
local macro_rules | `(tactic| walk_at "o_ne") => `(tactic| (first | refine o_ne_str ?_ | refine o_ne_int ?_ | refine o_ne_bl ?_))
local macro_rules | `(tactic| walk_at "o_lt") => `(tactic| refine o_lt ?_)
local macro_rules | `(tactic| walk_at "o_le") => `(tactic| refine o_le ?_)
local macro_rules | `(tactic| walk_at "o_gt") => `(tactic| refine o_gt ?_)
local macro_rules | `(tactic| walk_at "o_ge") => `(tactic| refine o_ge ?_)
local macro_rules | `(tactic| walk_at "o_int") => `(tactic| (first | refine o_int_i ?_ | refine o_int_b ?_))
local macro_rules | `(tactic| walk_at "o_len") => `(tactic| (first | refine o_len_L ?_ | refine o_len_T ?_ | refine o_len_S (by walk_at "sz") ?_ | refine o_len_scr ?_))
local macro_rules | `(tactic| walk_at "o_abs") => `(tactic| refine o_abs ?_)
local macro_rules | `(tactic| walk_at "o_max") => `(tactic| refine o_max2 ?_)
local macro_rules | `(tactic| walk_at "o_min") => `(tactic| refine o_min2 ?_)
local macro_rules | `(tactic| walk_at "ty") => `(tactic| (first | exact ty_str | exact ty_L | exact ty_own List.mem_cons_self | exact ty_own (List.mem_cons_of_mem _ List.mem_cons_self) | exact ty_own (List.mem_cons_of_mem _ (List.mem_cons_of_mem _ List.mem_cons_self))))

theorem ok_law_row_right {P : Program} {w : World} {K : PySem.W.Frag} {mg : Str → Option Value} {base : Heap} {C R : Addr} (T : Txt K mg) (TX : TxtX K mg C) (TR : TxtR K mg C R) (D__law_letters : Df P w K mg base 4 "_law_letters" ["_law_pot_here"] (fsI fs_letters)) (D__law_lores : Df P w K mg base 6 "_law_lores" ["_law_pot_here", "_law_letters_here", "_law_steps", "_law_most", "_law_size"] (fsI fs_lores)) (D__law_row : Df P w K mg base 8 "_law_row" ["_law_lores_here"] (fs_row R C)) (D__law_take : Df P w K mg base 2 "_law_take" ["_law_pot_here", "_law_upto"] (fsI fs_take)) (D__law_text : Df P w K mg base 4 "_law_text" ["_law_pot_here", "_law_letters_here", "_law_most"] (fsI fs_textB)) (D__law_one_by_one : Df P w K mg base 3 "_law_one_by_one" ["_law_lores_here", "_law_text_here"] (fs_oneBy)) (D_check_text : Df P w K mg base 2 "check_text" ["value"] (fs_check)) (D_flow : Df P w K mg base 4 "flow" ["exchange", "letters", "is_end"] (fs_flow C)) (D_joined : Df P w K mg base 1 "joined" ["pieces"] (fs_joined)) (D_is_between : Df P w K mg base 2 "is_between" ["value", "low", "high"] (fs_between)) : Df P w K mg base 9 "_law_row_right" ["_law_pot_here"] (fsI (fs_part 5000 500000)) := by
  obtain ⟨fI', fdI, E0, MR, FI, bI, ⟨dsI, vI, bI0⟩, hE⟩ := TR.init
  have GI := ok_initR (P := P) (w := w) (base := base) T TX TR FI
  obtain ⟨fK, fdK, cR, FK, bK⟩ := TR.call
  have GK := ok_callR (P := P) (w := w) (base := base) T TX TR D_check_text D_flow D_joined FK
  obtain ⟨fL', fdL, hsL, hfL, FL, bL⟩ := TR.len
  have GL := ok_lenR (P := P) (w := w) (base := base) T TX TR FL
  obtain ⟨fP, fdP, mP, FP, bP⟩ := TR.piece
  have GP := ok_piece (P := P) (w := w) (base := base) T TX TR D_is_between FP
  refine df_okI T.d_law_row_right sc_law_row_right (fs_part_mono _ _) (fun Fs o Post ⟨l, k, e, _⟩ => by rw [e]; rfl) ?_
  rintro cdv f A outer s H XE hr Fs os Post ⟨o, os0, rfl, l, k, rfl, rfl, hk0, hk1, kP⟩
  refine s_cons ?_
  refine s1_set 1 sc_law_row_right.nd rfl (.inl rfl) ?_
  refine e_call D__law_letters (hr.mono (by decide)) rfl ?_
  refine a_cons ?_
  refine e_var 0 rfl (.inl rfl) rfl ?_
  refine a_nil ?_
  refine ⟨_, 0, rfl, l, _, rfl, rfl, ?_, ?_, fun cs hcs _ => ?_⟩
  · omega
  · omega
  refine s_cons ?_
  refine s1_set 2 sc_law_row_right.nd rfl (.inl rfl) ?_
  refine e_call D__law_lores (hr.mono (by decide)) rfl ?_
  refine a_cons ?_
  refine e_var 0 rfl (.inl rfl) rfl ?_
  refine a_cons ?_
  refine e_var 1 rfl (.inl rfl) rfl ?_
  refine a_cons ?_
  refine e_int ?_
  refine a_cons ?_
  refine e_int ?_
  refine a_cons ?_
  refine e_int ?_
  refine a_nil ?_
  refine ⟨_, 0, rfl, l, _, cs, 4, 2, 2, rfl, rfl, ?_, ?_, ?_, ?_, ?_, ?_, ?_, ?_, ?_, ?_, fun xs hx1 hx2 hx3 _ => ?_⟩
  · have := hcs.1; omega
  · have := hcs.2.1; omega
  · decide
  · decide
  · decide
  · decide
  · decide
  · decide
  · omega
  · omega
  have hgr : GoodR xs := ⟨by omega, fun x hx => lore_good2 hcs (hx3 x hx) (by decide) (by decide)⟩
  refine s_cons ?_
  refine s1_par (i := 3) (j := 4) rfl sc_law_row_right.nd rfl rfl (by decide) rfl rfl rfl rfl ?_
  refine a_cons ?_
  refine e_call D__law_row (hr.mono (by decide)) rfl ?_
  refine a_cons ?_
  refine e_var 2 rfl (.inl rfl) rfl ?_
  refine a_nil ?_
  refine ⟨xs, rfl, hgr, ?_⟩
  refine a_cons ?_
  refine e_call D__law_take (hr.mono (by decide)) rfl ?_
  refine a_cons ?_
  refine e_var 0 rfl (.inl rfl) rfl ?_
  refine a_cons ?_
  refine e_bin op_addU ?_
  refine e_callB call_lenU rfl T.n_len (by decide +kernel) ?_
  refine a_cons ?_
  refine e_var 2 rfl (.inl rfl) rfl ?_
  refine a_nil ?_
  refine o_len_L ?_
  rw [List.length_map]
  refine e_int ?_
  walk_at "o_add"
  refine a_nil ?_
  refine ⟨_, 0, rfl, l, _, _, rfl, rfl, ?_, ?_, ?_, ?_, fun m hm0 hm1 _ => ?_⟩
  · omega
  · omega
  · omega
  · omega
  obtain ⟨a, rfl⟩ : ∃ a : Nat, m = (a : Int) := ⟨m.toNat, by omega⟩
  refine a_nil ?_
  refine ⟨_, _,  rfl, ?_⟩
  refine s_cons ?_
  refine s1_for [5] PassesOwn.never rfl ?_
  refine wk_range1 rfl T.n_range ?_
  refine a_cons ?_
  refine e_int ?_
  refine a_nil ?_
  refine ⟨_, rfl, by decide, by decide, ?_⟩
  refine ⟨fun i Γ' os' => ∃ g1 g2 g3 g4 : Option Fact, Γ' = [some (fRef l), some (fL (cs.map fC)), some (fL (xs.map fLore)), some (fR R C xs), some (fInt (a : Int)), g1, g2, g3, g4] ∧ os' = potO l (k + 3005 + 100 * (i : Int)) :: os0, ⟨_, _, _, _, rfl, congrArg (fun j => potO l j :: os0) (by omega)⟩, ?_, ?_⟩
  · skip
    rintro i F Γ' os' hF ⟨g1, g2, g3, g4, rfl, rfl⟩
    obtain ⟨hi, rfl⟩ := irange_at hF
    have hi : i < 10 := hi
    refine g_name 5 sc_law_row_right.nd rfl (.inl rfl) (by decide) ?_
    refine s_cons ?_
    refine s1_set 6 sc_law_row_right.nd rfl (.inl rfl) ?_
    refine e_call D__law_text (hr.mono (by decide)) rfl ?_
    refine a_cons ?_
    refine e_var 0 rfl (.inl rfl) rfl ?_
    refine a_cons ?_
    refine e_var 1 rfl (.inl rfl) rfl ?_
    refine a_cons ?_
    refine e_int ?_
    refine a_nil ?_
    refine ⟨_, 0, rfl, l, _, cs, 10, rfl, rfl, ?_, ?_, ?_, ?_, ?_, ?_, fun z hz1 hz2 _ => ?_⟩
    · have := hcs.2.1; omega
    · exact low_letters hcs
    · decide
    · decide
    · omega
    · omega
    have hsh : Short xs.length z := short10 hz2 hgr.1
    refine s_cons ?_
    refine s1_if ?_
    refine t_cmp (op_neU hr.units) (nomark _) ?_
    refine e_callB call_reprS rfl T.n_repr (by decide +kernel) ?_
    refine a_cons ?_
    refine e_callI cR GK (hr.mono (by decide)) bK ?_
    refine e_var 3 rfl (.inl rfl) rfl ?_
    refine ⟨⟨_, ins_I⟩, ?_⟩
    refine a_cons ?_
    refine e_var 6 rfl (.inl rfl) rfl ?_
    refine a_nil ?_
    refine ⟨⟨_, ins_I⟩, xs, z, rfl, hgr, hz1, hsh, fun r hr1 hr2 hr3 => ?_⟩
    refine a_nil ?_
    refine o_repr (repr_le hr2 (by omega)) ?_
    refine e_callB call_reprS rfl T.n_repr (by decide +kernel) ?_
    refine a_cons ?_
    refine e_call D__law_one_by_one (hr.mono (by decide)) rfl ?_
    refine a_cons ?_
    refine e_var 2 rfl (.inl rfl) rfl ?_
    refine a_cons ?_
    refine e_var 6 rfl (.inl rfl) rfl ?_
    refine a_nil ?_
    refine ⟨xs, z, rfl, hgr, hz1, hsh, fun r' hr1' => ?_⟩
    obtain rfl := hr1.uniq hr1'
    refine a_nil ?_
    refine o_repr (repr_le hr2 (by omega)) ?_
    refine o_ne_str ?_
    rw [decide_eq_true rfl]
    refine ⟨_, rfl, ?_⟩
    refine ⟨fun b0 => ?_, fun b0 => ?_⟩
    · skip
      exact absurd b0 (by simp) --stop
    · skip
      refine s_nil ?_
      refine s_cons ?_
      refine s1_par (i := 7) (j := 8) rfl sc_law_row_right.nd rfl rfl (by decide) rfl rfl rfl rfl ?_
      refine a_cons ?_
      refine e_meth TR.cl mP GP (hr.mono (by decide)) bP ?_
      refine e_var 3 rfl (.inl rfl) rfl ?_
      refine ⟨⟨OWR, ins_I, by decide⟩, ?_⟩
      refine a_cons ?_
      refine e_int ?_
      refine a_cons ?_
      refine e_var 4 rfl (.inl rfl) rfl ?_
      refine a_nil ?_
      refine ⟨xs, 0, a, rfl, hgr.1, Nat.zero_le _, by omega, ?_⟩
      refine a_cons ?_
      refine e_meth TR.cl mP GP (hr.mono (by decide)) bP ?_
      refine e_var 3 rfl (.inl rfl) rfl ?_
      refine ⟨⟨OWR, ins_I, by decide⟩, ?_⟩
      refine a_cons ?_
      refine e_var 4 rfl (.inl rfl) rfl ?_
      refine a_cons ?_
      refine e_lenI hsL hfL GL (hr.mono (by decide)) bL rfl T.n_len ?_
      refine e_var 3 rfl (.inl rfl) rfl ?_
      refine ⟨⟨_, ins_I⟩, xs, rfl, _, rfl, ?_, ?_⟩
      · have := hgr.1; omega
      refine a_nil ?_
      refine ⟨xs, a, xs.length, rfl, hgr.1, by omega, Nat.le_refl _, ?_⟩
      refine a_nil ?_
      refine ⟨_, _,  rfl, ?_⟩
      refine s_cons ?_
      refine s1_if ?_
      refine t_cmp (op_neU hr.units) (nomark _) ?_
      refine e_callI cR GK (hr.mono (by decide)) bK ?_
      refine e_var 8 rfl (.inl rfl) rfl ?_
      refine ⟨⟨_, ins_I⟩, ?_⟩
      refine a_cons ?_
      refine e_callI cR GK (hr.mono (by decide)) bK ?_
      refine e_var 7 rfl (.inl rfl) rfl ?_
      refine ⟨⟨_, ins_I⟩, ?_⟩
      refine a_cons ?_
      refine e_var 6 rfl (.inl rfl) rfl ?_
      refine a_nil ?_
      refine ⟨⟨_, ins_I⟩, _, z, rfl, hgr.piece _ _, hz1, hsh.mono (by rw [List.length_take, List.length_drop]; omega), fun u hu1 hu2 _ => ?_⟩
      have hu3 : Short (xs.length - a) u := (Runs.low hu1 (fun x hx => (hgr.piece 0 (a - 0)).2 x hx) hz1 (hsh.mono (by rw [List.length_take, List.length_drop]; omega))).2
      refine a_nil ?_
      refine ⟨⟨_, ins_I⟩, _, u, rfl, hgr.piece _ _, hu2, hu3.mono (by rw [List.length_take, List.length_drop]; omega), fun v hv1 _ _ => ?_⟩
      obtain rfl := hr1.uniq (pieces_run (by omega) hu1 hv1)
      refine e_callI cR GK (hr.mono (by decide)) bK ?_
      refine e_var 3 rfl (.inl rfl) rfl ?_
      refine ⟨⟨_, ins_I⟩, ?_⟩
      refine a_cons ?_
      refine e_var 6 rfl (.inl rfl) rfl ?_
      refine a_nil ?_
      refine ⟨⟨_, ins_I⟩, xs, z, rfl, hgr, hz1, hsh, fun r' hr1' _ _ => ?_⟩
      obtain rfl := hr1.uniq hr1'
      refine o_ne_str ?_
      rw [decide_eq_true rfl]
      refine ⟨_, rfl, ?_⟩
      refine ⟨fun b1 => ?_, fun b1 => ?_⟩
      · skip
        exact absurd b1 (by simp) --stop
      · skip
        refine s_nil ?_
        refine s_cons ?_
        refine s1_if ?_
        refine t_cmp (op_neU hr.units) (nomark _) ?_
        refine e_callB call_reprS rfl T.n_repr (by decide +kernel) ?_
        refine a_cons ?_
        refine e_callI cR GK (hr.mono (by decide)) bK ?_
        refine e_make0 MR GI (hr.mono (by decide)) rfl TR.mgR bI0 vI (fun ms H => .cons (hE ms H) .nil) ?_
        refine fun o dx => ⟨o, dx, [], _, rfl, rfl, by decide, rfl, dx, OWR, _, _, rfl, ?_⟩
        refine ⟨⟨_, ins_I⟩, ?_⟩
        refine a_cons ?_
        refine e_var 6 rfl (.inl rfl) rfl ?_
        refine a_nil ?_
        refine ⟨⟨_, ins_I⟩, [], z, rfl, ⟨by decide, fun x hx => absurd hx (by simp)⟩, hz1, hsh.mono (Nat.zero_le _), fun w' hw _ _ => ?_⟩
        cases hw
        refine a_nil ?_
        refine o_repr (repr_le hz1 (by have := hsh.le; omega)) ?_
        refine e_callB call_reprS rfl T.n_repr (by decide +kernel) ?_
        refine a_cons ?_
        refine e_var 6 rfl (.inl rfl) rfl ?_
        refine a_nil ?_
        refine o_repr (repr_le hz1 (by have := hsh.le; omega)) ?_
        refine o_ne_str ?_
        rw [decide_eq_true rfl]
        refine ⟨_, rfl, ?_⟩
        refine ⟨fun b2 => ?_, fun b2 => ?_⟩
        · skip
          exact absurd b2 (by simp) --stop
        · skip
          refine s_nil ?_
          refine s_nil ?_
          exact ⟨_, _, _, _, rfl, congrArg (fun j => potO l j :: os0) (by omega)⟩
  · skip
    rintro Γ' os' ⟨g1, g2, g3, g4, rfl, rfl⟩
    rw [irange_len]
    refine s_cons ?_
    refine s1_ret ?_
    refine E.put 0 ?_
    refine e_bl ?_
    refine ⟨l, _, [fNn, fSm, fCt (k + 5000)], rfl, .cons Fle.refl (.cons Fle.refl (.cons (Fle.ct2 (by have : Int.toNat 10 = 10 := rfl; omega)) .nil)), ?_⟩
    exact kP rfl

theorem ok_law_right {P : Program} {w : World} {K : PySem.W.Frag} {mg : Str → Option Value} {base : Heap} (T : Txt K mg) (D__law_row_right : Df P w K mg base 9 "_law_row_right" ["_law_pot_here"] (fsI (fs_part 5000 500000))) : Df P w K mg base 10 "_law_right" ["_law_pot_here"] (fsI (fs_part 20000 100000)) := by
  refine df_okI T.d_law_right sc_law_right (fs_part_mono _ _) (fun Fs o Post ⟨l, k, e, _⟩ => by rw [e]; rfl) ?_
  rintro cdv f A outer s H XE hr Fs os Post ⟨o, os0, rfl, l, k, rfl, rfl, hk0, hk1, kP⟩
  refine s_cons ?_
  refine s1_ret ?_
  refine E.put 0 ?_
  refine e_callB (cr_all rfl) rfl T.n_all (by decide +kernel) ?_
  refine a_cons ?_
  refine e_lc rfl sc_law_right.nd [("_law_turn", 1)] (blkOk_by (show blkC ["_law_pot_here", "_law_turn"] (defScope s_law_right) _ [("_law_turn", 1)] = true by decide +kernel)) ?_
  refine wk_range1 rfl T.n_range ?_
  refine a_cons ?_
  refine e_int ?_
  refine a_nil ?_
  refine ⟨_, rfl, by decide, by decide, ?_⟩
  refine ⟨fun i acc os' => acc = (List.replicate i true).map fBl ∧ os' = potO l (k + 5000 * (i : Int)) :: os0, ⟨rfl, congrArg (fun j => potO l j :: os0) (by omega)⟩, ?_, by rw [irange_len]; decide, ?_⟩
  · skip
    rintro i F acc os' D hF ⟨rfl, rfl⟩ hacc B
    obtain ⟨hi, rfl⟩ := irange_at hF
    have hi : i < 2 := hi
    refine g_name 1 sc_law_right.nd rfl (.inl rfl) (by decide) ?_
    intro B2
    refine e_call D__law_row_right (hr.mono (by decide)) rfl ?_
    refine a_cons ?_
    refine e_var 0 rfl (.inr (.inl rfl)) rfl ?_
    refine a_nil ?_
    refine ⟨_, 1, rfl, l, _, rfl, rfl, ?_, ?_, fun _ => ?_⟩
    · omega
    · omega
    exact ⟨_, rfl, by rw [rep_snoc, List.map_append]; rfl, congrArg (fun j => potO l j :: os0) (by omega)⟩
  · skip
    rintro acc os' hal ⟨rfl, rfl⟩
    rw [irange_len]
    refine a_nil ?_
    refine o_all ?_
    refine ⟨l, _, [fNn, fSm, fCt (k + 20000)], rfl, .cons Fle.refl (.cons Fle.refl (.cons (Fle.ct2 (by have : Int.toNat 2 = 2 := rfl; omega)) .nil)), ?_⟩
    rw [show ((List.replicate _ true).all id) = true by simp]
    exact kP rfl

theorem ok_law {P : Program} {w : World} {K : PySem.W.Frag} {mg : Str → Option Value} {base : Heap} (T : Txt K mg) (D__law_pot : Df P w K mg base 1 "_law_pot" ["_law_script", "_law_k"] (fs_pot)) (D__law_right : Df P w K mg base 10 "_law_right" ["_law_pot_here"] (fsI (fs_part 20000 100000))) {f : Addr} {fd : FuncData} (F : Fun K "law" "law" s_law f fd) : FnOk P w K mg base CX0 11 f fd ["_law_script"] (spOf K fs_law) := by
  refine def_ok F sc_law (fun Fs os Post ⟨_, e, _⟩ => by rw [e]; rfl) ?_
  rintro cdv A outer s H XE hr Fs os Post ⟨ns, rfl, hn, kP⟩
  refine s_cons ?_
  refine s1_ret ?_
  refine e_callB (cr_all rfl) rfl T.n_all (by decide +kernel) ?_
  refine a_cons ?_
  refine e_lc rfl sc_law.nd [("_law_k", 1)] (blkOk_by (show blkC ["_law_script", "_law_k"] (defScope s_law) _ [("_law_k", 1)] = true by decide +kernel)) ?_
  refine wk_range1 rfl T.n_range ?_
  refine a_cons ?_
  refine e_callB (call_maxU rfl) rfl T.n_max (by decide +kernel) ?_
  refine a_cons ?_
  refine e_int ?_
  refine a_cons ?_
  refine e_callB (call_minU rfl) rfl T.n_min (by decide +kernel) ?_
  refine a_cons ?_
  refine e_int ?_
  refine a_cons ?_
  refine e_callB call_lenU rfl T.n_len (by decide +kernel) ?_
  refine a_cons ?_
  refine e_var 0 rfl (.inr (.inl rfl)) rfl ?_
  refine a_nil ?_
  walk_at "o_len"
  refine a_nil ?_
  walk_at "o_min"
  refine a_nil ?_
  walk_at "o_max"
  refine a_nil ?_
  refine ⟨_, rfl, by (repeat' split) <;> omega, by (repeat' split) <;> omega, ?_⟩
  refine ⟨fun i acc os' => acc = (List.replicate i true).map fBl ∧ os = os', ⟨rfl, rfl⟩, ?_, by rw [irange_len]; (repeat' split) <;> omega, ?_⟩
  · skip
    rintro i F acc os' D hF ⟨rfl, rfl⟩ hacc B
    obtain ⟨hi, rfl⟩ := irange_at hF
    have hi6 : i < 7 := by
      revert hi
      (repeat' split) <;> omega
    refine g_name 1 sc_law.nd rfl (.inl rfl) (by decide) ?_
    intro B2
    refine E.drop ?_
    refine e_call D__law_right (hr.mono (by decide)) rfl ?_
    refine a_cons ?_
    refine e_call D__law_pot (hr.mono (by decide)) rfl ?_
    refine a_cons ?_
    refine e_var 0 rfl (.inr (.inl rfl)) rfl ?_
    refine a_cons ?_
    refine e_var 1 rfl (.inl rfl) rfl ?_
    refine a_nil ?_
    refine ⟨ns, _, rfl, by omega, by omega, fun l => ?_⟩
    refine a_nil ?_
    refine ⟨_, 0, rfl, l, _, rfl, rfl, ?_, ?_, fun _ => ⟨_, _, rfl, ?_⟩⟩
    · decide
    · decide
    exact ⟨_, rfl, by rw [rep_snoc, List.map_append]; rfl, rfl⟩
  · skip
    rintro acc os' hal ⟨rfl, rfl⟩
    refine a_nil ?_
    refine o_all ?_
    rw [show ((List.replicate _ true).all id) = true by simp]
    exact kP

end G
namespace G
open PySem L2 TL

theorem law_all {P : Program} {w : World} {K : PySem.W.Frag} {mg : Str → Option Value} {base : Heap} {C R : Addr} (T : Txt K mg) (TX : TxtX K mg C) (TR : TxtR K mg C R) {f : Addr} {fd : FuncData} (F : Fun K "law" "law" s_law f fd) : FnOk P w K mg base CX0 11 f fd ["_law_script"] (spOf K fs_law) := by
  have dTake := ok_take (P := P) (w := w) (base := base) T
  have dOf := ok_of T dTake
  have dSome := ok_some T dTake
  have dLet := ok_letters T dOf dSome
  have dWord := ok_law_word T dTake dOf
  have dPut := ok_law_put T dTake dOf
  have dLore := ok_lore T dTake dOf dWord dPut
  have iTup := ok_is_tuple (P := P) (w := w) (base := base) T
  have iText := ok_is_text (P := P) (w := w) (base := base) T
  have iPut := ok_is_put T iText
  have iWord := ok_is_word T iPut
  have iChk := ok_check_text T iText
  have iInt := ok_is_integer (P := P) (w := w) (base := base) T
  have iBet := ok_is_between T iInt
  have iPrs := ok_are_pairs T iTup iWord iPut
  have pJoin := ok_joined (P := P) (w := w) (base := base) T
  have pFst := ok_first_at (P := P) (w := w) (base := base) T TX
  have pLng := ok_longest_at (P := P) (w := w) (base := base) T TX
  have pFlow := ok_flow T TX pFst pLng
  have lPot := ok_law_pot (P := P) (w := w) (base := base) T
  have lEx := ok_law_exchange T TX iPrs
  have lPair := ok_law_pair_at (P := P) (w := w) (base := base) T
  have lOnce := ok_law_at_once T lPair
  have lText := ok_law_text T dTake dOf
  have lLores := ok_law_lores T dTake dLore
  have lRow := ok_law_row T TX TR lEx
  have lOne := ok_law_one_by_one T lOnce
  have lRR := ok_law_row_right T TX TR dLet lLores lRow dTake lText lOne iChk pFlow pJoin iBet
  have lR := ok_law_right T lRR
  exact ok_law T lPot lR F

theorem all_mk {l : PySem.W.OpenLaw} {w : World} {K : PySem.W.Frag} {h : Heap} {mg : Str → Option Value} {fa : Addr} (X : K.In h) (G : h.Ns mainGlobals mg) (hfa : mg "law" = some (.ref fa)) {f0 f1 f2 f3 f4 f5 f6 f7 f8 f9 f10 f11 f12 f13 f14 f15 f16 f17 f18 f19 f20 f21 f22 f23 f24 f25 f26 f27 f28 f29 f101 f102 f103 f104 f201 f202 f203 f204 C q102 q103 R T0 E0 : Addr} {od0 an0 od1 an1 od2 an2 od3 an3 od4 an4 od5 an5 od6 an6 od7 an7 od8 an8 od9 an9 od10 an10 od11 an11 od12 an12 od13 an13 od14 an14 od15 an15 od16 an16 od17 an17 od18 an18 od19 an19 od20 an20 od21 an21 od22 an22 od23 an23 od24 an24 od25 an25 od26 an26 od27 an27 od28 an28 od29 an29 od101 an101 od102 an102 od103 an103 od104 an104 od201 an201 od202 an202 od203 an203 od204 an204 : Option Addr} {sl0 sl1 sl2 sl3 sl4 sl5 sl6 sl7 sl8 sl9 sl10 sl11 sl12 sl13 sl14 sl15 sl16 sl17 sl18 sl19 sl20 sl21 sl22 sl23 sl24 sl25 sl26 sl27 sl28 sl29 sl101 sl102 sl103 sl104 sl201 sl202 sl203 sl204 : Array (Option Value)} {oc0 kV0 dc0 pm0 cd0 ct0 oc1 kV1 dc1 pm1 cd1 ct1 oc2 kV2 dc2 pm2 cd2 ct2 oc3 kV3 dc3 pm3 cd3 ct3 oc4 kV4 dc4 pm4 cd4 ct4 oc5 kV5 dc5 pm5 cd5 ct5 oc6 kV6 dc6 pm6 cd6 ct6 oc7 kV7 dc7 pm7 cd7 ct7 oc8 kV8 dc8 pm8 cd8 ct8 oc9 kV9 dc9 pm9 cd9 ct9 oc10 kV10 dc10 pm10 cd10 ct10 oc11 kV11 dc11 pm11 cd11 ct11 oc12 kV12 dc12 pm12 cd12 ct12 oc13 kV13 dc13 pm13 cd13 ct13 oc14 kV14 dc14 pm14 cd14 ct14 oc15 kV15 dc15 pm15 cd15 ct15 oc16 kV16 dc16 pm16 cd16 ct16 oc17 kV17 dc17 pm17 cd17 ct17 oc18 kV18 dc18 pm18 cd18 ct18 oc19 kV19 dc19 pm19 cd19 ct19 oc20 kV20 dc20 pm20 cd20 ct20 oc21 kV21 dc21 pm21 cd21 ct21 oc22 kV22 dc22 pm22 cd22 ct22 oc23 kV23 dc23 pm23 cd23 ct23 oc24 kV24 dc24 pm24 cd24 ct24 oc25 kV25 dc25 pm25 cd25 ct25 oc26 kV26 dc26 pm26 cd26 ct26 oc27 kV27 dc27 pm27 cd27 ct27 oc28 kV28 dc28 pm28 cd28 ct28 oc29 kV29 dc29 pm29 cd29 ct29 oc101 kV101 dc101 pm101 cd101 ct101 oc102 kV102 dc102 pm102 cd102 ct102 oc103 kV103 dc103 pm103 cd103 ct103 oc104 kV104 dc104 pm104 cd104 ct104 oc201 kV201 dc201 pm201 cd201 ct201 oc202 kV202 dc202 pm202 cd202 ct202 oc203 kV203 dc203 pm203 cd203 ct203 oc204 kV204 dc204 pm204 cd204 ct204 : Value} {rs102 rs103 : List Value} {odT odE : Option Addr} {slT slE : Array (Option Value)} {ocT : Value} {nT nE : Nat} {tk_LETTERS tk_MOST_LETTERS tk_FIRST tk_LONGEST tk_OPEN tk_PAIR tk_MOST_PAIRS tk_MOST_STEPS : Tok}
    (a0 : PySem.W.nsIn K mainGlobals "_law_pot" = some (some (.ref f0)))
    (l0 : K.lookup f0 = some ⟨oc0, od0, .func (PySem.W.fnOf "_law_pot" "_law_pot" (defArgs s_law_pot) (defBody s_law_pot) (defScope s_law_pot) .none kV0 dc0 pm0 an0 cd0 ct0), sl0⟩)
    (c0 : PySem.W.codeIn K cd0 "_law_pot" = true)
    (k0 : PySem.W.keepIn K (.ref f0) = true)
    (a1 : PySem.W.nsIn K mainGlobals "_law_take" = some (some (.ref f1)))
    (l1 : K.lookup f1 = some ⟨oc1, od1, .func (PySem.W.fnOf "_law_take" "_law_take" (defArgs s_law_take) (defBody s_law_take) (defScope s_law_take) .none kV1 dc1 pm1 an1 cd1 ct1), sl1⟩)
    (c1 : PySem.W.codeIn K cd1 "_law_take" = true)
    (k1 : PySem.W.keepIn K (.ref f1) = true)
    (a2 : PySem.W.nsIn K mainGlobals "_law_of" = some (some (.ref f2)))
    (l2 : K.lookup f2 = some ⟨oc2, od2, .func (PySem.W.fnOf "_law_of" "_law_of" (defArgs s_law_of) (defBody s_law_of) (defScope s_law_of) .none kV2 dc2 pm2 an2 cd2 ct2), sl2⟩)
    (c2 : PySem.W.codeIn K cd2 "_law_of" = true)
    (k2 : PySem.W.keepIn K (.ref f2) = true)
    (a3 : PySem.W.nsIn K mainGlobals "_law_some" = some (some (.ref f3)))
    (l3 : K.lookup f3 = some ⟨oc3, od3, .func (PySem.W.fnOf "_law_some" "_law_some" (defArgs s_law_some) (defBody s_law_some) (defScope s_law_some) .none kV3 dc3 pm3 an3 cd3 ct3), sl3⟩)
    (c3 : PySem.W.codeIn K cd3 "_law_some" = true)
    (k3 : PySem.W.keepIn K (.ref f3) = true)
    (a4 : PySem.W.nsIn K mainGlobals "_law_letters" = some (some (.ref f4)))
    (l4 : K.lookup f4 = some ⟨oc4, od4, .func (PySem.W.fnOf "_law_letters" "_law_letters" (defArgs s_law_letters) (defBody s_law_letters) (defScope s_law_letters) .none kV4 dc4 pm4 an4 cd4 ct4), sl4⟩)
    (c4 : PySem.W.codeIn K cd4 "_law_letters" = true)
    (k4 : PySem.W.keepIn K (.ref f4) = true)
    (a5 : PySem.W.nsIn K mainGlobals "_law_word" = some (some (.ref f5)))
    (l5 : K.lookup f5 = some ⟨oc5, od5, .func (PySem.W.fnOf "_law_word" "_law_word" (defArgs s_law_word) (defBody s_law_word) (defScope s_law_word) .none kV5 dc5 pm5 an5 cd5 ct5), sl5⟩)
    (c5 : PySem.W.codeIn K cd5 "_law_word" = true)
    (k5 : PySem.W.keepIn K (.ref f5) = true)
    (a6 : PySem.W.nsIn K mainGlobals "_law_put" = some (some (.ref f6)))
    (l6 : K.lookup f6 = some ⟨oc6, od6, .func (PySem.W.fnOf "_law_put" "_law_put" (defArgs s_law_put) (defBody s_law_put) (defScope s_law_put) .none kV6 dc6 pm6 an6 cd6 ct6), sl6⟩)
    (c6 : PySem.W.codeIn K cd6 "_law_put" = true)
    (k6 : PySem.W.keepIn K (.ref f6) = true)
    (a7 : PySem.W.nsIn K mainGlobals "_law_lore" = some (some (.ref f7)))
    (l7 : K.lookup f7 = some ⟨oc7, od7, .func (PySem.W.fnOf "_law_lore" "_law_lore" (defArgs s_law_lore) (defBody s_law_lore) (defScope s_law_lore) .none kV7 dc7 pm7 an7 cd7 ct7), sl7⟩)
    (c7 : PySem.W.codeIn K cd7 "_law_lore" = true)
    (k7 : PySem.W.keepIn K (.ref f7) = true)
    (a8 : PySem.W.nsIn K mainGlobals "_law_exchange" = some (some (.ref f8)))
    (l8 : K.lookup f8 = some ⟨oc8, od8, .func (PySem.W.fnOf "_law_exchange" "_law_exchange" (defArgs s_law_exchange) (defBody s_law_exchange) (defScope s_law_exchange) .none kV8 dc8 pm8 an8 cd8 ct8), sl8⟩)
    (c8 : PySem.W.codeIn K cd8 "_law_exchange" = true)
    (k8 : PySem.W.keepIn K (.ref f8) = true)
    (a9 : PySem.W.nsIn K mainGlobals "_law_pair_at" = some (some (.ref f9)))
    (l9 : K.lookup f9 = some ⟨oc9, od9, .func (PySem.W.fnOf "_law_pair_at" "_law_pair_at" (defArgs s_law_pair_at) (defBody s_law_pair_at) (defScope s_law_pair_at) .none kV9 dc9 pm9 an9 cd9 ct9), sl9⟩)
    (c9 : PySem.W.codeIn K cd9 "_law_pair_at" = true)
    (k9 : PySem.W.keepIn K (.ref f9) = true)
    (a10 : PySem.W.nsIn K mainGlobals "_law_at_once" = some (some (.ref f10)))
    (l10 : K.lookup f10 = some ⟨oc10, od10, .func (PySem.W.fnOf "_law_at_once" "_law_at_once" (defArgs s_law_at_once) (defBody s_law_at_once) (defScope s_law_at_once) .none kV10 dc10 pm10 an10 cd10 ct10), sl10⟩)
    (c10 : PySem.W.codeIn K cd10 "_law_at_once" = true)
    (k10 : PySem.W.keepIn K (.ref f10) = true)
    (a11 : PySem.W.nsIn K mainGlobals "_law_text" = some (some (.ref f11)))
    (l11 : K.lookup f11 = some ⟨oc11, od11, .func (PySem.W.fnOf "_law_text" "_law_text" (defArgs s_law_text) (defBody s_law_text) (defScope s_law_text) .none kV11 dc11 pm11 an11 cd11 ct11), sl11⟩)
    (c11 : PySem.W.codeIn K cd11 "_law_text" = true)
    (k11 : PySem.W.keepIn K (.ref f11) = true)
    (a12 : PySem.W.nsIn K mainGlobals "_law_lores" = some (some (.ref f12)))
    (l12 : K.lookup f12 = some ⟨oc12, od12, .func (PySem.W.fnOf "_law_lores" "_law_lores" (defArgs s_law_lores) (defBody s_law_lores) (defScope s_law_lores) .none kV12 dc12 pm12 an12 cd12 ct12), sl12⟩)
    (c12 : PySem.W.codeIn K cd12 "_law_lores" = true)
    (k12 : PySem.W.keepIn K (.ref f12) = true)
    (a13 : PySem.W.nsIn K mainGlobals "_law_row" = some (some (.ref f13)))
    (l13 : K.lookup f13 = some ⟨oc13, od13, .func (PySem.W.fnOf "_law_row" "_law_row" (defArgs s_law_row) (defBody s_law_row) (defScope s_law_row) .none kV13 dc13 pm13 an13 cd13 ct13), sl13⟩)
    (c13 : PySem.W.codeIn K cd13 "_law_row" = true)
    (k13 : PySem.W.keepIn K (.ref f13) = true)
    (a14 : PySem.W.nsIn K mainGlobals "_law_one_by_one" = some (some (.ref f14)))
    (l14 : K.lookup f14 = some ⟨oc14, od14, .func (PySem.W.fnOf "_law_one_by_one" "_law_one_by_one" (defArgs s_law_one_by_one) (defBody s_law_one_by_one) (defScope s_law_one_by_one) .none kV14 dc14 pm14 an14 cd14 ct14), sl14⟩)
    (c14 : PySem.W.codeIn K cd14 "_law_one_by_one" = true)
    (k14 : PySem.W.keepIn K (.ref f14) = true)
    (a15 : PySem.W.nsIn K mainGlobals "_law_row_right" = some (some (.ref f15)))
    (l15 : K.lookup f15 = some ⟨oc15, od15, .func (PySem.W.fnOf "_law_row_right" "_law_row_right" (defArgs s_law_row_right) (defBody s_law_row_right) (defScope s_law_row_right) .none kV15 dc15 pm15 an15 cd15 ct15), sl15⟩)
    (c15 : PySem.W.codeIn K cd15 "_law_row_right" = true)
    (k15 : PySem.W.keepIn K (.ref f15) = true)
    (a16 : PySem.W.nsIn K mainGlobals "_law_right" = some (some (.ref f16)))
    (l16 : K.lookup f16 = some ⟨oc16, od16, .func (PySem.W.fnOf "_law_right" "_law_right" (defArgs s_law_right) (defBody s_law_right) (defScope s_law_right) .none kV16 dc16 pm16 an16 cd16 ct16), sl16⟩)
    (c16 : PySem.W.codeIn K cd16 "_law_right" = true)
    (k16 : PySem.W.keepIn K (.ref f16) = true)
    (a17 : PySem.W.nsIn K mainGlobals "law" = some (some (.ref f17)))
    (l17 : K.lookup f17 = some ⟨oc17, od17, .func (PySem.W.fnOf "law" "law" (defArgs s_law) (defBody s_law) (defScope s_law) .none kV17 dc17 pm17 an17 cd17 ct17), sl17⟩)
    (c17 : PySem.W.codeIn K cd17 "law" = true)
    (k17 : PySem.W.keepIn K (.ref f17) = true)
    (a18 : PySem.W.nsIn K mainGlobals "is_tuple" = some (some (.ref f18)))
    (l18 : K.lookup f18 = some ⟨oc18, od18, .func (PySem.W.fnOf "is_tuple" "is_tuple" (defArgs s_is_tuple) (defBody s_is_tuple) (defScope s_is_tuple) .none kV18 dc18 pm18 an18 cd18 ct18), sl18⟩)
    (c18 : PySem.W.codeIn K cd18 "is_tuple" = true)
    (k18 : PySem.W.keepIn K (.ref f18) = true)
    (a19 : PySem.W.nsIn K mainGlobals "is_text" = some (some (.ref f19)))
    (l19 : K.lookup f19 = some ⟨oc19, od19, .func (PySem.W.fnOf "is_text" "is_text" (defArgs s_is_text) (defBody s_is_text) (defScope s_is_text) .none kV19 dc19 pm19 an19 cd19 ct19), sl19⟩)
    (c19 : PySem.W.codeIn K cd19 "is_text" = true)
    (k19 : PySem.W.keepIn K (.ref f19) = true)
    (a20 : PySem.W.nsIn K mainGlobals "is_put" = some (some (.ref f20)))
    (l20 : K.lookup f20 = some ⟨oc20, od20, .func (PySem.W.fnOf "is_put" "is_put" (defArgs s_is_put) (defBody s_is_put) (defScope s_is_put) .none kV20 dc20 pm20 an20 cd20 ct20), sl20⟩)
    (c20 : PySem.W.codeIn K cd20 "is_put" = true)
    (k20 : PySem.W.keepIn K (.ref f20) = true)
    (a21 : PySem.W.nsIn K mainGlobals "is_word" = some (some (.ref f21)))
    (l21 : K.lookup f21 = some ⟨oc21, od21, .func (PySem.W.fnOf "is_word" "is_word" (defArgs s_is_word) (defBody s_is_word) (defScope s_is_word) .none kV21 dc21 pm21 an21 cd21 ct21), sl21⟩)
    (c21 : PySem.W.codeIn K cd21 "is_word" = true)
    (k21 : PySem.W.keepIn K (.ref f21) = true)
    (a22 : PySem.W.nsIn K mainGlobals "check_text" = some (some (.ref f22)))
    (l22 : K.lookup f22 = some ⟨oc22, od22, .func (PySem.W.fnOf "check_text" "check_text" (defArgs s_check_text) (defBody s_check_text) (defScope s_check_text) .none kV22 dc22 pm22 an22 cd22 ct22), sl22⟩)
    (c22 : PySem.W.codeIn K cd22 "check_text" = true)
    (k22 : PySem.W.keepIn K (.ref f22) = true)
    (a23 : PySem.W.nsIn K mainGlobals "first_at" = some (some (.ref f23)))
    (l23 : K.lookup f23 = some ⟨oc23, od23, .func (PySem.W.fnOf "first_at" "first_at" (defArgs s_first_at) (defBody s_first_at) (defScope s_first_at) .none kV23 dc23 pm23 an23 cd23 ct23), sl23⟩)
    (c23 : PySem.W.codeIn K cd23 "first_at" = true)
    (k23 : PySem.W.keepIn K (.ref f23) = true)
    (a24 : PySem.W.nsIn K mainGlobals "longest_at" = some (some (.ref f24)))
    (l24 : K.lookup f24 = some ⟨oc24, od24, .func (PySem.W.fnOf "longest_at" "longest_at" (defArgs s_longest_at) (defBody s_longest_at) (defScope s_longest_at) .none kV24 dc24 pm24 an24 cd24 ct24), sl24⟩)
    (c24 : PySem.W.codeIn K cd24 "longest_at" = true)
    (k24 : PySem.W.keepIn K (.ref f24) = true)
    (a25 : PySem.W.nsIn K mainGlobals "flow" = some (some (.ref f25)))
    (l25 : K.lookup f25 = some ⟨oc25, od25, .func (PySem.W.fnOf "flow" "flow" (defArgs s_flow) (defBody s_flow) (defScope s_flow) .none kV25 dc25 pm25 an25 cd25 ct25), sl25⟩)
    (c25 : PySem.W.codeIn K cd25 "flow" = true)
    (k25 : PySem.W.keepIn K (.ref f25) = true)
    (a26 : PySem.W.nsIn K mainGlobals "joined" = some (some (.ref f26)))
    (l26 : K.lookup f26 = some ⟨oc26, od26, .func (PySem.W.fnOf "joined" "joined" (defArgs s_joined) (defBody s_joined) (defScope s_joined) .none kV26 dc26 pm26 an26 cd26 ct26), sl26⟩)
    (c26 : PySem.W.codeIn K cd26 "joined" = true)
    (k26 : PySem.W.keepIn K (.ref f26) = true)
    (a27 : PySem.W.nsIn K mainGlobals "are_pairs" = some (some (.ref f27)))
    (l27 : K.lookup f27 = some ⟨oc27, od27, .func (PySem.W.fnOf "are_pairs" "are_pairs" (defArgs s_are_pairs) (defBody s_are_pairs) (defScope s_are_pairs) .none kV27 dc27 pm27 an27 cd27 ct27), sl27⟩)
    (c27 : PySem.W.codeIn K cd27 "are_pairs" = true)
    (k27 : PySem.W.keepIn K (.ref f27) = true)
    (a28 : PySem.W.nsIn K mainGlobals "is_integer" = some (some (.ref f28)))
    (l28 : K.lookup f28 = some ⟨oc28, od28, .func (PySem.W.fnOf "is_integer" "is_integer" (defArgs s_is_integer) (defBody s_is_integer) (defScope s_is_integer) .none kV28 dc28 pm28 an28 cd28 ct28), sl28⟩)
    (c28 : PySem.W.codeIn K cd28 "is_integer" = true)
    (k28 : PySem.W.keepIn K (.ref f28) = true)
    (a29 : PySem.W.nsIn K mainGlobals "is_between" = some (some (.ref f29)))
    (l29 : K.lookup f29 = some ⟨oc29, od29, .func (PySem.W.fnOf "is_between" "is_between" (defArgs s_is_between) (defBody s_is_between) (defScope s_is_between) .none kV29 dc29 pm29 an29 cd29 ct29), sl29⟩)
    (c29 : PySem.W.codeIn K cd29 "is_between" = true)
    (k29 : PySem.W.keepIn K (.ref f29) = true)
    (aC : PySem.W.nsIn K mainGlobals "Exchange" = some (some (.ref C)))
    (pg : PySem.W.plainGet K C Str.empty = true)
    (hd : PySem.W.hasDictIn K C = true)
    (po : PySem.W.plainOver K C = true)
    (sa : PySem.W.findIn K (.ref C) "__setattr__" = some (some (.builtin "object.__setattr__")))
    (mk : PySem.W.makesIn K C = true)
    (kc : PySem.W.keepIn K (.ref C) = true)
    (nP : PySem.W.findIn K (.ref C) "own_pairs" = some none)
    (nW : PySem.W.findIn K (.ref C) "own_way" = some none)
    (a101 : PySem.W.findIn K (.ref C) "__init__" = some (some (.ref f101)))
    (i101 : PySem.W.isFn K (.ref f101) = true)
    (l101 : K.lookup f101 = some ⟨oc101, od101, .func (PySem.W.fnOf "__init__" "Exchange.__init__" (defArgs s_Exchangeu_initu) (defBody s_Exchangeu_initu) (defScope s_Exchangeu_initu) .none kV101 dc101 pm101 an101 cd101 ct101), sl101⟩)
    (c101 : PySem.W.codeIn K cd101 "Exchange.__init__" = true)
    (k101 : PySem.W.keepIn K (.ref f101) = true)
    (a102 : PySem.W.findIn K (.ref C) "pairs" = some (some (.ref q102)))
    (g102 : PySem.W.specialIn K (.ref q102) "__get__" = some (some (.builtin "property.__get__")))
    (t102 : PySem.W.takesIn K (.ref q102) = some true)
    (r102 : PySem.W.recIn K q102 "property" = some (.ref f102 :: rs102))
    (l102 : K.lookup f102 = some ⟨oc102, od102, .func (PySem.W.fnOf "pairs" "Exchange.pairs" (defArgs s_Exchange_pairs) (defBody s_Exchange_pairs) (defScope s_Exchange_pairs) .none kV102 dc102 pm102 an102 cd102 ct102), sl102⟩)
    (c102 : PySem.W.codeIn K cd102 "Exchange.pairs" = true)
    (k102 : PySem.W.keepIn K (.ref f102) = true)
    (a103 : PySem.W.findIn K (.ref C) "way" = some (some (.ref q103)))
    (g103 : PySem.W.specialIn K (.ref q103) "__get__" = some (some (.builtin "property.__get__")))
    (t103 : PySem.W.takesIn K (.ref q103) = some true)
    (r103 : PySem.W.recIn K q103 "property" = some (.ref f103 :: rs103))
    (l103 : K.lookup f103 = some ⟨oc103, od103, .func (PySem.W.fnOf "way" "Exchange.way" (defArgs s_Exchange_way) (defBody s_Exchange_way) (defScope s_Exchange_way) .none kV103 dc103 pm103 an103 cd103 ct103), sl103⟩)
    (c103 : PySem.W.codeIn K cd103 "Exchange.way" = true)
    (k103 : PySem.W.keepIn K (.ref f103) = true)
    (a104 : PySem.W.findIn K (.ref C) "__call__" = some (some (.ref f104)))
    (i104 : PySem.W.isFn K (.ref f104) = true)
    (n104 : PySem.W.fnIn K f104 = true)
    (l104 : K.lookup f104 = some ⟨oc104, od104, .func (PySem.W.fnOf "__call__" "Exchange.__call__" (defArgs s_Exchangeu_callu) (defBody s_Exchangeu_callu) (defScope s_Exchangeu_callu) .none kV104 dc104 pm104 an104 cd104 ct104), sl104⟩)
    (c104 : PySem.W.codeIn K cd104 "Exchange.__call__" = true)
    (k104 : PySem.W.keepIn K (.ref f104) = true)
    (aR : PySem.W.nsIn K mainGlobals "Row" = some (some (.ref R)))
    (pgR : PySem.W.plainGet K R Str.empty = true)
    (hdR : PySem.W.hasDictIn K R = true)
    (poR : PySem.W.plainOver K R = true)
    (saR : PySem.W.findIn K (.ref R) "__setattr__" = some (some (.builtin "object.__setattr__")))
    (mkR : PySem.W.makesIn K R = true)
    (kcR : PySem.W.keepIn K (.ref R) = true)
    (nS : PySem.W.findIn K (.ref R) "own_steps" = some none)
    (ca : PySem.W.findIn K (.ref C) "__class__" = some (some (.builtin "object.__class__")))
    (cn : PySem.W.specialIn K (.builtin "object.__class__") "__get__" = some (some (.builtin "getset_descriptor.__get__")))
    (ct : PySem.W.takesIn K (.builtin "object.__class__") = some true)
    (cm : PySem.W.mroIn K C (.type "object") = some true)
    (a201 : PySem.W.findIn K (.ref R) "__init__" = some (some (.ref f201)))
    (i201 : PySem.W.isFn K (.ref f201) = true)
    (l201 : K.lookup f201 = some ⟨oc201, od201, .func (PySem.W.fnOf "__init__" "Row.__init__" (defArgs s_Rowu_initu) (defBody s_Rowu_initu) (defScope s_Rowu_initu) (.ref T0) kV201 dc201 pm201 an201 cd201 ct201), sl201⟩)
    (c201 : PySem.W.codeIn K cd201 "Row.__init__" = true)
    (k201 : PySem.W.keepIn K (.ref f201) = true)
    (a202 : PySem.W.findIn K (.ref R) "__call__" = some (some (.ref f202)))
    (i202 : PySem.W.isFn K (.ref f202) = true)
    (n202 : PySem.W.fnIn K f202 = true)
    (l202 : K.lookup f202 = some ⟨oc202, od202, .func (PySem.W.fnOf "__call__" "Row.__call__" (defArgs s_Rowu_callu) (defBody s_Rowu_callu) (defScope s_Rowu_callu) .none kV202 dc202 pm202 an202 cd202 ct202), sl202⟩)
    (c202 : PySem.W.codeIn K cd202 "Row.__call__" = true)
    (k202 : PySem.W.keepIn K (.ref f202) = true)
    (a203 : PySem.W.findIn K (.ref R) "__len__" = some (some (.ref f203)))
    (i203 : PySem.W.isFn K (.ref f203) = true)
    (l203 : K.lookup f203 = some ⟨oc203, od203, .func (PySem.W.fnOf "__len__" "Row.__len__" (defArgs s_Rowu_lenu) (defBody s_Rowu_lenu) (defScope s_Rowu_lenu) .none kV203 dc203 pm203 an203 cd203 ct203), sl203⟩)
    (c203 : PySem.W.codeIn K cd203 "Row.__len__" = true)
    (k203 : PySem.W.keepIn K (.ref f203) = true)
    (a204 : PySem.W.findIn K (.ref R) "piece" = some (some (.ref f204)))
    (i204 : PySem.W.isFn K (.ref f204) = true)
    (l204 : K.lookup f204 = some ⟨oc204, od204, .func (PySem.W.fnOf "piece" "Row.piece" (defArgs s_Row_piece) (defBody s_Row_piece) (defScope s_Row_piece) .none kV204 dc204 pm204 an204 cd204 ct204), sl204⟩)
    (c204 : PySem.W.codeIn K cd204 "Row.piece" = true)
    (k204 : PySem.W.keepIn K (.ref f204) = true)
    (tT : K.lookup T0 = some ⟨ocT, odT, .seq #[.ref E0] nT, slT⟩)
    (tE : K.lookup E0 = some ⟨.type "tuple", odE, .seq #[] nE, slE⟩)
    (v_LETTERS : PySem.W.nsIn K mainGlobals "LETTERS" = some (some (.str "abcdefghijklmnopqrstuvwxyz" tk_LETTERS)))
    (v_MOST_LETTERS : PySem.W.nsIn K mainGlobals "MOST_LETTERS" = some (some (.int 3 tk_MOST_LETTERS)))
    (v_FIRST : PySem.W.nsIn K mainGlobals "FIRST" = some (some (.str "first" tk_FIRST)))
    (v_LONGEST : PySem.W.nsIn K mainGlobals "LONGEST" = some (some (.str "longest" tk_LONGEST)))
    (v_OPEN : PySem.W.nsIn K mainGlobals "OPEN" = some (some (.int (-1) tk_OPEN)))
    (v_PAIR : PySem.W.nsIn K mainGlobals "PAIR" = some (some (.int 2 tk_PAIR)))
    (v_MOST_PAIRS : PySem.W.nsIn K mainGlobals "MOST_PAIRS" = some (some (.int 3 tk_MOST_PAIRS)))
    (v_MOST_STEPS : PySem.W.nsIn K mainGlobals "MOST_STEPS" = some (some (.int 4 tk_MOST_STEPS)))
    (z_int : PySem.W.nsIn K mainGlobals "int" = some none)
    (z_len : PySem.W.nsIn K mainGlobals "len" = some none)
    (z_abs : PySem.W.nsIn K mainGlobals "abs" = some none)
    (z_max : PySem.W.nsIn K mainGlobals "max" = some none)
    (z_min : PySem.W.nsIn K mainGlobals "min" = some none)
    (z_range : PySem.W.nsIn K mainGlobals "range" = some none)
    (z_all : PySem.W.nsIn K mainGlobals "all" = some none)
    (z_list : PySem.W.nsIn K mainGlobals "list" = some none)
    (z_tuple : PySem.W.nsIn K mainGlobals "tuple" = some none)
    (z_repr : PySem.W.nsIn K mainGlobals "repr" = some none)
    (z_enumerate : PySem.W.nsIn K mainGlobals "enumerate" = some none)
    (z_isinstance : PySem.W.nsIn K mainGlobals "isinstance" = some none)
    (z_set : PySem.W.nsIn K mainGlobals "set" = some none)
    (z_str : PySem.W.nsIn K mainGlobals "str" = some none)
    (z_bool : PySem.W.nsIn K mainGlobals "bool" = some none) :
    ∃ fd : FuncData, (∀ (s : Shared) (v : Value), BindsTo s fd ⟨[v], []⟩ [("_law_script", v)]) ∧ ∀ base : Heap, K.In base → base.Ns mainGlobals mg → FnOk l.prog w K mg base CX0 11 fa fd ["_law_script"] (spOf K fs_law) := by
  cases hfa.symm.trans (PySem.W.mg_of X G a17)
  have F0 := fun_mk (st := s_law_pot) l0 c0 k0
  have F1 := fun_mk (st := s_law_take) l1 c1 k1
  have F2 := fun_mk (st := s_law_of) l2 c2 k2
  have F3 := fun_mk (st := s_law_some) l3 c3 k3
  have F4 := fun_mk (st := s_law_letters) l4 c4 k4
  have F5 := fun_mk (st := s_law_word) l5 c5 k5
  have F6 := fun_mk (st := s_law_put) l6 c6 k6
  have F7 := fun_mk (st := s_law_lore) l7 c7 k7
  have F8 := fun_mk (st := s_law_exchange) l8 c8 k8
  have F9 := fun_mk (st := s_law_pair_at) l9 c9 k9
  have F10 := fun_mk (st := s_law_at_once) l10 c10 k10
  have F11 := fun_mk (st := s_law_text) l11 c11 k11
  have F12 := fun_mk (st := s_law_lores) l12 c12 k12
  have F13 := fun_mk (st := s_law_row) l13 c13 k13
  have F14 := fun_mk (st := s_law_one_by_one) l14 c14 k14
  have F15 := fun_mk (st := s_law_row_right) l15 c15 k15
  have F16 := fun_mk (st := s_law_right) l16 c16 k16
  have F18 := fun_mk (st := s_is_tuple) l18 c18 k18
  have F19 := fun_mk (st := s_is_text) l19 c19 k19
  have F20 := fun_mk (st := s_is_put) l20 c20 k20
  have F21 := fun_mk (st := s_is_word) l21 c21 k21
  have F22 := fun_mk (st := s_check_text) l22 c22 k22
  have F23 := fun_mk (st := s_first_at) l23 c23 k23
  have F24 := fun_mk (st := s_longest_at) l24 c24 k24
  have F25 := fun_mk (st := s_flow) l25 c25 k25
  have F26 := fun_mk (st := s_joined) l26 c26 k26
  have F27 := fun_mk (st := s_are_pairs) l27 c27 k27
  have F28 := fun_mk (st := s_is_integer) l28 c28 k28
  have F29 := fun_mk (st := s_is_between) l29 c29 k29
  have T : Txt K mg := ⟨⟨_, _, F0, PySem.W.mg_of X G a0, F0.binds fun _ _ _ _ _ _ us hl => match us, hl with | [_, _], _ => rfl⟩,
    ⟨_, _, F1, PySem.W.mg_of X G a1, F1.binds fun _ _ _ _ _ _ us hl => match us, hl with | [_, _], _ => rfl⟩,
    ⟨_, _, F2, PySem.W.mg_of X G a2, F2.binds fun _ _ _ _ _ _ us hl => match us, hl with | [_, _], _ => rfl⟩,
    ⟨_, _, F3, PySem.W.mg_of X G a3, F3.binds fun _ _ _ _ _ _ us hl => match us, hl with | [_, _, _], _ => rfl⟩,
    ⟨_, _, F4, PySem.W.mg_of X G a4, F4.binds fun _ _ _ _ _ _ us hl => match us, hl with | [_], _ => rfl⟩,
    ⟨_, _, F5, PySem.W.mg_of X G a5, F5.binds fun _ _ _ _ _ _ us hl => match us, hl with | [_, _, _], _ => rfl⟩,
    ⟨_, _, F6, PySem.W.mg_of X G a6, F6.binds fun _ _ _ _ _ _ us hl => match us, hl with | [_, _, _], _ => rfl⟩,
    ⟨_, _, F7, PySem.W.mg_of X G a7, F7.binds fun _ _ _ _ _ _ us hl => match us, hl with | [_, _, _, _], _ => rfl⟩,
    ⟨_, _, F8, PySem.W.mg_of X G a8, F8.binds fun _ _ _ _ _ _ us hl => match us, hl with | [_], _ => rfl⟩,
    ⟨_, _, F9, PySem.W.mg_of X G a9, F9.binds fun _ _ _ _ _ _ us hl => match us, hl with | [_, _], _ => rfl⟩,
    ⟨_, _, F10, PySem.W.mg_of X G a10, F10.binds fun _ _ _ _ _ _ us hl => match us, hl with | [_, _], _ => rfl⟩,
    ⟨_, _, F11, PySem.W.mg_of X G a11, F11.binds fun _ _ _ _ _ _ us hl => match us, hl with | [_, _, _], _ => rfl⟩,
    ⟨_, _, F12, PySem.W.mg_of X G a12, F12.binds fun _ _ _ _ _ _ us hl => match us, hl with | [_, _, _, _, _], _ => rfl⟩,
    ⟨_, _, F13, PySem.W.mg_of X G a13, F13.binds fun _ _ _ _ _ _ us hl => match us, hl with | [_], _ => rfl⟩,
    ⟨_, _, F14, PySem.W.mg_of X G a14, F14.binds fun _ _ _ _ _ _ us hl => match us, hl with | [_, _], _ => rfl⟩,
    ⟨_, _, F15, PySem.W.mg_of X G a15, F15.binds fun _ _ _ _ _ _ us hl => match us, hl with | [_], _ => rfl⟩,
    ⟨_, _, F16, PySem.W.mg_of X G a16, F16.binds fun _ _ _ _ _ _ us hl => match us, hl with | [_], _ => rfl⟩,
    ⟨_, _, F18, PySem.W.mg_of X G a18, F18.binds fun _ _ _ _ _ _ us hl => match us, hl with | [_, _], _ => rfl⟩,
    ⟨_, _, F19, PySem.W.mg_of X G a19, F19.binds fun _ _ _ _ _ _ us hl => match us, hl with | [_], _ => rfl⟩,
    ⟨_, _, F20, PySem.W.mg_of X G a20, F20.binds fun _ _ _ _ _ _ us hl => match us, hl with | [_], _ => rfl⟩,
    ⟨_, _, F21, PySem.W.mg_of X G a21, F21.binds fun _ _ _ _ _ _ us hl => match us, hl with | [_], _ => rfl⟩,
    ⟨_, _, F22, PySem.W.mg_of X G a22, F22.binds fun _ _ _ _ _ _ us hl => match us, hl with | [_], _ => rfl⟩,
    ⟨_, _, F23, PySem.W.mg_of X G a23, F23.binds fun _ _ _ _ _ _ us hl => match us, hl with | [_, _, _], _ => rfl⟩,
    ⟨_, _, F24, PySem.W.mg_of X G a24, F24.binds fun _ _ _ _ _ _ us hl => match us, hl with | [_, _, _], _ => rfl⟩,
    ⟨_, _, F25, PySem.W.mg_of X G a25, F25.binds fun _ _ _ _ _ _ us hl => match us, hl with | [_, _, _], _ => rfl⟩,
    ⟨_, _, F26, PySem.W.mg_of X G a26, F26.binds fun _ _ _ _ _ _ us hl => match us, hl with | [_], _ => rfl⟩,
    ⟨_, _, F27, PySem.W.mg_of X G a27, F27.binds fun _ _ _ _ _ _ us hl => match us, hl with | [_], _ => rfl⟩,
    ⟨_, _, F28, PySem.W.mg_of X G a28, F28.binds fun _ _ _ _ _ _ us hl => match us, hl with | [_], _ => rfl⟩,
    ⟨_, _, F29, PySem.W.mg_of X G a29, F29.binds fun _ _ _ _ _ _ us hl => match us, hl with | [_, _, _], _ => rfl⟩,
    ⟨_, PySem.W.mg_of X G v_LETTERS⟩,
    ⟨_, PySem.W.mg_of X G v_MOST_LETTERS⟩,
    ⟨_, PySem.W.mg_of X G v_FIRST⟩,
    ⟨_, PySem.W.mg_of X G v_LONGEST⟩,
    ⟨_, PySem.W.mg_of X G v_OPEN⟩,
    ⟨_, PySem.W.mg_of X G v_PAIR⟩,
    ⟨_, PySem.W.mg_of X G v_MOST_PAIRS⟩,
    ⟨_, PySem.W.mg_of X G v_MOST_STEPS⟩,
    PySem.W.mg_none_of X G z_int,
    PySem.W.mg_none_of X G z_len,
    PySem.W.mg_none_of X G z_abs,
    PySem.W.mg_none_of X G z_max,
    PySem.W.mg_none_of X G z_min,
    PySem.W.mg_none_of X G z_range,
    PySem.W.mg_none_of X G z_all,
    PySem.W.mg_none_of X G z_list,
    PySem.W.mg_none_of X G z_tuple,
    PySem.W.mg_none_of X G z_repr,
    PySem.W.mg_none_of X G z_enumerate,
    PySem.W.mg_none_of X G z_isinstance,
    PySem.W.mg_none_of X G z_set,
    PySem.W.mg_none_of X G z_str,
    PySem.W.mg_none_of X G z_bool⟩
  have F101 := fun_mk (st := s_Exchangeu_initu) l101 c101 k101
  have F102 := fun_mk (st := s_Exchange_pairs) l102 c102 k102
  have F103 := fun_mk (st := s_Exchange_way) l103 c103 k103
  have F104 := fun_mk (st := s_Exchangeu_callu) l104 c104 k104
  have TX : TxtX K mg C := ⟨⟨pg, hd, po, sa⟩, nP, nW, PySem.W.mg_of X G aC, ⟨_, _, ⟨mk, a101, i101, kc⟩, F101⟩, ⟨_, _, _, ⟨a102, g102, t102, ⟨_, r102⟩⟩, F102, F102.binds fun _ _ _ _ _ _ us hl => match us, hl with | [_], _ => rfl⟩, ⟨_, _, _, ⟨a103, g103, t103, ⟨_, r103⟩⟩, F103, F103.binds fun _ _ _ _ _ _ us hl => match us, hl with | [_], _ => rfl⟩, ⟨_, _, ⟨a104, i104, n104⟩, F104, F104.binds fun _ _ _ _ _ _ us hl => match us, hl with | [_, _], _ => rfl⟩⟩
  have FR : FunD K "__init__" "Row.__init__" (defArgs s_Rowu_initu) (defBody s_Rowu_initu) (defScope s_Rowu_initu) [.ref E0] [] f201 _ := ⟨⟨_, _, _, _, _, _, _, _, _, _, rfl, l201, c201, .inr ⟨List.cons_ne_nil _ _, T0, _, [.ref E0], _, rfl, tT, rfl, .cons rfl .nil⟩, .inl rfl⟩, k201⟩
  have bR : Binds K (PySem.W.fnOf "__init__" "Row.__init__" (defArgs s_Rowu_initu) (defBody s_Rowu_initu) (defScope s_Rowu_initu) (.ref T0) kV201 dc201 pm201 an201 cd201 ct201) ["self", "steps"] [] := by
    obtain ⟨ds, v, b⟩ := FR.binds1 (ps := ["self", "steps"]) 2 1 (List.cons_ne_nil _ _) rfl (fun T kV doc pm an cdv ct us its h1 h2 => match us, its, h1, h2 with | [_, _], [_], _, _ => ⟨_, rfl, rfl⟩)
    cases v
    exact b
  have bR0 := FR.binds1 (ps := ["self", "steps"]) 1 0 (List.cons_ne_nil _ _) rfl (fun T kV doc pm an cdv ct us its h1 h2 => match us, its, h1, h2 with | [_], [_], _, _ => ⟨_, rfl, rfl⟩)
  have hE : ∀ ms H, (fT []).r K ms H (.ref E0) := fun ms H => ⟨E0, [], rfl, .inr ⟨_, #[], _, tE, rfl, rfl, by decide, .nil⟩, .nil⟩
  have F202 := fun_mk (st := s_Rowu_callu) l202 c202 k202
  have F203 := fun_mk (st := s_Rowu_lenu) l203 c203 k203
  have F204 := fun_mk (st := s_Row_piece) l204 c204 k204
  have TR : TxtR K mg C R := ⟨⟨pgR, hdR, poR, saR⟩,
    nS,
    ⟨ca, cn, ct, cm⟩,
    PySem.W.mg_of X G aR,
    ⟨_, _, E0, ⟨mkR, a201, i201, kcR⟩, FR, bR, bR0, hE⟩,
    ⟨_, _, ⟨a202, i202, n202⟩, F202, F202.binds fun _ _ _ _ _ _ us hl => match us, hl with | [_, _], _ => rfl⟩,
    ⟨_, _, a203, i203, F203, F203.binds fun _ _ _ _ _ _ us hl => match us, hl with | [_], _ => rfl⟩,
    ⟨_, _, ⟨a204, i204, k204⟩, F204, F204.binds fun _ _ _ _ _ _ us hl => match us, hl with | [_, _, _], _ => rfl⟩⟩
  exact ⟨PySem.W.fnOf "law" "law" (defArgs s_law) (defBody s_law) (defScope s_law) .none kV17 dc17 pm17 an17 cd17 ct17, fun s v => .of_eq rfl, fun base _ _ => law_all T TX TR (fun_mk (st := s_law) l17 c17 k17)⟩
theorem law_sp {K : PySem.W.Frag} {H : Hp} {a : Addr} {ns : List Int} (hl : ns.length ≤ 63) (h : SqL K H a (ns.map V.int)) {E : XK} : spOf K fs_law [.ref a] H (fun v _ => v = .bl true) E :=
  ⟨[fScr ns], [], fun F _ => F = fBl true, ⟨ns, rfl, hl, rfl⟩, .cons ⟨a, rfl, h.elim (fun q => .inl ⟨List.not_mem_nil, q⟩) .inr⟩ .nil, fun o ho => absurd ho List.not_mem_nil, List.nodup_nil, fun v H' F os' e _ r => by rw [e] at r; exact r⟩
theorem walkL {l : PySem.W.OpenLaw} {q : Program} {loose : List Str} {XP : (Str → Option Value) → Heap → Prop} {YP : World → Heap → Prop} {d : DefRec} {K : Params → PySem.W.Frag} (hn : l.most = some 63) (hdf : d.params.defaults = [])
    (hY : ∀ (w : World) (h : Heap), YP w h → (K w.params).In h)
    (F : ∀ (w : World) (mg : Str → Option Value) (fa : Addr) (h : Heap), (K w.params).In h → h.Ns mainGlobals mg → mg d.name = some (.ref fa) →
      ∃ fd : FuncData, (∀ (s : Shared) (u : Value), BindsTo s fd ⟨[u], []⟩ [("_law_script", u)]) ∧ ∀ base : Heap, (K w.params).In base → base.Ns mainGlobals mg → FnOk l.prog w (K w.params) mg base CX0 11 fa fd ["_law_script"] (spOf (K w.params) fs_law)) :
    PySem.W.WalkO q loose XP YP l.row.toRowW d [] (fun f vs => PySem.call f vs) :=
  L2.walk_of (n := 63) (k := 11) (x := "_law_script") (CX := fun _ => CX0) (sp := fun w => spOf (K w.params) fs_law) hn (by decide) hdf ⟨rfl, by decide, by decide⟩ hY F (fun _ _ a ns hl _ hS => law_sp hl hS) fun _ _ _ _ _ z => z

end G
open PySem PySem.W PyProof.Rows in
set_option maxRecDepth 100000 in
set_option maxHeartbeats 0 in
theorem PySem.Challenge.cw_onebyone_k08_whole_rows_one_by_one_holds : PySem.Challenge.rw_onebyone_k08_whole_rows_one_by_one.Holds := by
  w_on; o_law; k_head; (case hw => w_witness2)
  k_fill
  refine G.walkL (l := PySem.Challenge.rw_onebyone_k08_whole_rows_one_by_one) rfl rfl (fun w h Y => PySem.W.kIn_of Y) ?F
  case F =>
    intro w mg fa h KX GG hmg
    refine' G.all_mk KX GG hmg ?a0 ?l0 ?c0 ?k0 ?a1 ?l1 ?c1 ?k1 ?a2 ?l2 ?c2 ?k2 ?a3 ?l3 ?c3 ?k3 ?a4 ?l4 ?c4 ?k4 ?a5 ?l5 ?c5 ?k5 ?a6 ?l6 ?c6 ?k6 ?a7 ?l7 ?c7 ?k7 ?a8 ?l8 ?c8 ?k8 ?a9 ?l9 ?c9 ?k9 ?a10 ?l10 ?c10 ?k10 ?a11 ?l11 ?c11 ?k11 ?a12 ?l12 ?c12 ?k12 ?a13 ?l13 ?c13 ?k13 ?a14 ?l14 ?c14 ?k14 ?a15 ?l15 ?c15 ?k15 ?a16 ?l16 ?c16 ?k16 ?a17 ?l17 ?c17 ?k17 ?a18 ?l18 ?c18 ?k18 ?a19 ?l19 ?c19 ?k19 ?a20 ?l20 ?c20 ?k20 ?a21 ?l21 ?c21 ?k21 ?a22 ?l22 ?c22 ?k22 ?a23 ?l23 ?c23 ?k23 ?a24 ?l24 ?c24 ?k24 ?a25 ?l25 ?c25 ?k25 ?a26 ?l26 ?c26 ?k26 ?a27 ?l27 ?c27 ?k27 ?a28 ?l28 ?c28 ?k28 ?a29 ?l29 ?c29 ?k29 ?aC ?pg ?hd ?po ?sa ?mk ?kc ?nP ?nW ?a101 ?i101 ?l101 ?c101 ?k101 ?a102 ?g102 ?t102 ?r102 ?l102 ?c102 ?k102 ?a103 ?g103 ?t103 ?r103 ?l103 ?c103 ?k103 ?a104 ?i104 ?n104 ?l104 ?c104 ?k104 ?aR ?pgR ?hdR ?poR ?saR ?mkR ?kcR ?nS ?ca ?cn ?ct ?cm ?a201 ?i201 ?l201 ?c201 ?k201 ?a202 ?i202 ?n202 ?l202 ?c202 ?k202 ?a203 ?i203 ?l203 ?c203 ?k203 ?a204 ?i204 ?l204 ?c204 ?k204 ?tT ?tE ?v_LETTERS ?v_MOST_LETTERS ?v_FIRST ?v_LONGEST ?v_OPEN ?v_PAIR ?v_MOST_PAIRS ?v_MOST_STEPS ?z_int ?z_len ?z_abs ?z_max ?z_min ?z_range ?z_all ?z_list ?z_tuple ?z_repr ?z_enumerate ?z_isinstance ?z_set ?z_str ?z_bool
    (case a0 => k_is)
    (case l0 => k_is)
    (case c0 => k_is)
    (case k0 => k_is)
    (case a1 => k_is)
    (case l1 => k_is)
    (case c1 => k_is)
    (case k1 => k_is)
    (case a2 => k_is)
    (case l2 => k_is)
    (case c2 => k_is)
    (case k2 => k_is)
    (case a3 => k_is)
    (case l3 => k_is)
    (case c3 => k_is)
    (case k3 => k_is)
    (case a4 => k_is)
    (case l4 => k_is)
    (case c4 => k_is)
    (case k4 => k_is)
    (case a5 => k_is)
    (case l5 => k_is)
    (case c5 => k_is)
    (case k5 => k_is)
    (case a6 => k_is)
    (case l6 => k_is)
    (case c6 => k_is)
    (case k6 => k_is)
    (case a7 => k_is)
    (case l7 => k_is)
    (case c7 => k_is)
    (case k7 => k_is)
    (case a8 => k_is)
    (case l8 => k_is)
    (case c8 => k_is)
    (case k8 => k_is)
    (case a9 => k_is)
    (case l9 => k_is)
    (case c9 => k_is)
    (case k9 => k_is)
    (case a10 => k_is)
    (case l10 => k_is)
    (case c10 => k_is)
    (case k10 => k_is)
    (case a11 => k_is)
    (case l11 => k_is)
    (case c11 => k_is)
    (case k11 => k_is)
    (case a12 => k_is)
    (case l12 => k_is)
    (case c12 => k_is)
    (case k12 => k_is)
    (case a13 => k_is)
    (case l13 => k_is)
    (case c13 => k_is)
    (case k13 => k_is)
    (case a14 => k_is)
    (case l14 => k_is)
    (case c14 => k_is)
    (case k14 => k_is)
    (case a15 => k_is)
    (case l15 => k_is)
    (case c15 => k_is)
    (case k15 => k_is)
    (case a16 => k_is)
    (case l16 => k_is)
    (case c16 => k_is)
    (case k16 => k_is)
    (case a17 => k_is)
    (case l17 => k_is)
    (case c17 => k_is)
    (case k17 => k_is)
    (case a18 => k_is)
    (case l18 => k_is)
    (case c18 => k_is)
    (case k18 => k_is)
    (case a19 => k_is)
    (case l19 => k_is)
    (case c19 => k_is)
    (case k19 => k_is)
    (case a20 => k_is)
    (case l20 => k_is)
    (case c20 => k_is)
    (case k20 => k_is)
    (case a21 => k_is)
    (case l21 => k_is)
    (case c21 => k_is)
    (case k21 => k_is)
    (case a22 => k_is)
    (case l22 => k_is)
    (case c22 => k_is)
    (case k22 => k_is)
    (case a23 => k_is)
    (case l23 => k_is)
    (case c23 => k_is)
    (case k23 => k_is)
    (case a24 => k_is)
    (case l24 => k_is)
    (case c24 => k_is)
    (case k24 => k_is)
    (case a25 => k_is)
    (case l25 => k_is)
    (case c25 => k_is)
    (case k25 => k_is)
    (case a26 => k_is)
    (case l26 => k_is)
    (case c26 => k_is)
    (case k26 => k_is)
    (case a27 => k_is)
    (case l27 => k_is)
    (case c27 => k_is)
    (case k27 => k_is)
    (case a28 => k_is)
    (case l28 => k_is)
    (case c28 => k_is)
    (case k28 => k_is)
    (case a29 => k_is)
    (case l29 => k_is)
    (case c29 => k_is)
    (case k29 => k_is)
    (case aC => k_is)
    (case pg => k_is)
    (case hd => k_is)
    (case po => k_is)
    (case sa => k_is)
    (case mk => k_is)
    (case kc => k_is)
    (case nP => k_is)
    (case nW => k_is)
    (case a101 => k_is)
    (case i101 => k_is)
    (case l101 => k_is)
    (case c101 => k_is)
    (case k101 => k_is)
    (case a102 => k_is)
    (case g102 => k_is)
    (case t102 => k_is)
    (case r102 => k_is)
    (case l102 => k_is)
    (case c102 => k_is)
    (case k102 => k_is)
    (case a103 => k_is)
    (case g103 => k_is)
    (case t103 => k_is)
    (case r103 => k_is)
    (case l103 => k_is)
    (case c103 => k_is)
    (case k103 => k_is)
    (case a104 => k_is)
    (case i104 => k_is)
    (case n104 => k_is)
    (case l104 => k_is)
    (case c104 => k_is)
    (case k104 => k_is)
    (case aR => k_is)
    (case pgR => k_is)
    (case hdR => k_is)
    (case poR => k_is)
    (case saR => k_is)
    (case mkR => k_is)
    (case kcR => k_is)
    (case nS => k_is)
    (case ca => k_is)
    (case cn => k_is)
    (case ct => k_is)
    (case cm => k_is)
    (case a201 => k_is)
    (case i201 => k_is)
    (case l201 => k_is)
    (case c201 => k_is)
    (case k201 => k_is)
    (case a202 => k_is)
    (case i202 => k_is)
    (case n202 => k_is)
    (case l202 => k_is)
    (case c202 => k_is)
    (case k202 => k_is)
    (case a203 => k_is)
    (case i203 => k_is)
    (case l203 => k_is)
    (case c203 => k_is)
    (case k203 => k_is)
    (case a204 => k_is)
    (case i204 => k_is)
    (case l204 => k_is)
    (case c204 => k_is)
    (case k204 => k_is)
    (case tT => k_is)
    (case tE => k_is)
    (case v_LETTERS => k_is)
    (case v_MOST_LETTERS => k_is)
    (case v_FIRST => k_is)
    (case v_LONGEST => k_is)
    (case v_OPEN => k_is)
    (case v_PAIR => k_is)
    (case v_MOST_PAIRS => k_is)
    (case v_MOST_STEPS => k_is)
    (case z_int => k_is)
    (case z_len => k_is)
    (case z_abs => k_is)
    (case z_max => k_is)
    (case z_min => k_is)
    (case z_range => k_is)
    (case z_all => k_is)
    (case z_list => k_is)
    (case z_tuple => k_is)
    (case z_repr => k_is)
    (case z_enumerate => k_is)
    (case z_isinstance => k_is)
    (case z_set => k_is)
    (case z_str => k_is)
    (case z_bool => k_is)
