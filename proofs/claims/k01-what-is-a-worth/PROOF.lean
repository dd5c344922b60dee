import PyProof.Rows.All
import Wide.All
import OpenK.AllK
import Wide.FinOn
import HandS.ForMost
import HandS.Exc
import HandS.WordsExc
import HandS.Deep
import HandS.Wide
import HandS.IsInst
import HandS.TupAny
import HandS.RaiseMore
import HandS.Style
import HandS.More
import HandS.Text
import HandS.CallSlots
import HandS.Iter
import HandS.Comp
import PyProof.StrOps2
import HandS.Defaults
import HandS.Zip
import HandS.Ends
import HandS.Words
import HandS.WordsDict
import HandS.Head0
import HandS.Head1
import HandS.Head2
import HandS.HeadEnd
import HandS.HeadHook1
import HandS.HeadHook2
import KE.KUnpackStar
import HandS.Conv
import HandS.ExcValue
import HandS.HeadHook4
import KE.GoesEnum
import HandS.SetBool
import HandS.Strs
import HandS.SetFor
import HandS.TupSets
import HandS.TupMul
import KE.DataEq
import PySem.Challenge.RW_swiftkin_k01_what_is_a_worth
set_option Elab.async false
set_option linter.all false
set_option maxRecDepth 100000
namespace Sw
open PySem PySem.Spec PyProof.Rows L2

/-! ### values as trees -/
inductive T where
  | non | bl (b : Bool) | int (i : Int) | str (s : List Nat) | ty (n : String)
  | tup (ts : List T) | fz (ts : List T) | ref (a : Nat) | scr (ns : List Int) | dic (ks vs : List T)
instance : Inhabited T := ⟨.non⟩
inductive Ob where
  | lst (ts : List T) | dct (ks vs : List T) | dead
inductive Sl where
  | emp | val (t : T) | own (o : Ob)
structure Stt where
  σ : List Sl
  S : List Ob
/-- what is raised: the class by its name, its fields -/
structure Xn where
  c : String
  fs : List (List Nat × T)
inductive R (α : Type) where
  | ok (a : α) | exc (x : Xn)
abbrev M (α : Type) := Stt → Option (R α × Stt)
instance : Monad M where
  pure a := fun st => some (.ok a, st)
  bind m f := fun st => match m st with
    | some (.ok a, st1) => f a st1
    | some (.exc x, st1) => some (.exc x, st1)
    | none => none
theorem pure_def {α : Type} (a : α) (st : Stt) : (pure a : M α) st = some (.ok a, st) := rfl
theorem bind_def {α β : Type} (m : M α) (f : α → M β) (st : Stt) : (m >>= f) st = match m st with
    | some (.ok a, st1) => f a st1
    | some (.exc x, st1) => some (.exc x, st1)
    | none => none := rfl
def stuck {α : Type} : M α := fun _ => none
def ofO {α : Type} : Option α → M α
  | some a => pure a
  | none => stuck

/-! ### ghosts -/
inductive Ow where
  | out | fz | slot (i : Nat) | box (a : Nat)
structure Gh where
  own : Addr → Ow
  Z : Hp
  ρ : Nat → Addr
  n : Nat

def sS (s : List Nat) : Str := ⟨s.toArray⟩
/-- a dict's key -/
def keyOf : T → Option Key
  | .int i => some (.inl i)
  | .str s => some (.inr (sS s))
  | _ => none
mutual
def RepT (K : PySem.W.Frag) (g : Gh) : T → V → Prop
  | .non, v => v = .non
  | .bl b, v => v = .bl b
  | .int i, v => v = .int i
  | .str s, v => v = .str (sS s)
  | .ty n, v => v = .ty n
  | .tup ts, v => ∃ a xs, v = .ref a ∧ SqT K g.Z a xs ∧ RepL K g ts xs
  | .fz ts, v => ∃ a xs, v = .ref a ∧ g.Z a = some (.lst xs) ∧ RepL K g ts xs
  | .ref n, v => n < g.n ∧ v = .ref (g.ρ n)
  | .scr ns, v => ∃ a, v = .ref a ∧ SqL K g.Z a (ns.map V.int)
  | .dic ks vs, v => ∃ a kvs, v = .ref a ∧ g.Z a = some (.dK kvs) ∧ ks.map keyOf = kvs.map (fun p => some p.1) ∧ RepL K g vs (kvs.map (·.2))
def RepL (K : PySem.W.Frag) (g : Gh) : List T → List V → Prop
  | [], xs => xs = []
  | t :: ts, xs => ∃ x r, xs = x :: r ∧ RepT K g t x ∧ RepL K g ts r
end
def RepO (K : PySem.W.Frag) (g : Gh) : Ob → Option HO → Prop
  | .lst ts, o => ∃ xs, o = some (.lst xs) ∧ RepL K g ts xs
  | .dct ks vs, o => ∃ kvs, o = some (.dK kvs) ∧ ks.map keyOf = kvs.map (fun p => some p.1) ∧ RepL K g vs (kvs.map (·.2))
  | .dead, _ => True
def SlotRel (K : PySem.W.Frag) (g : Gh) (H : Hp) (i : Nat) : Sl → Option V → Prop
  | .emp, _ => True
  | .val t, v => ∃ x, v = some x ∧ RepT K g t x
  | .own ob, v => ∃ p, v = some (.ref p) ∧ g.own p = .slot i ∧ RepO K g ob (H p)
structure RelS (K : PySem.W.Frag) (g : Gh) (S : List Ob) (H : Hp) : Prop where
  zs : Same g.Z H
  zo : ∀ p o, g.Z p = some o → g.own p = .fz
  fr : ∀ p, H p = none → g.own p = .out
  n : g.n = S.length
  box : ∀ a ob, S[a]? = some ob → g.own (g.ρ a) = .box a ∧ RepO K g ob (H (g.ρ a))
structure Rel (K : PySem.W.Frag) (g : Gh) (st : Stt) (σV : L2.St) (H : Hp) : Prop extends RelS K g st.S H where
  len : st.σ.length = σV.length
  slot : ∀ i s v, st.σ[i]? = some s → σV[i]? = some v → SlotRel K g H i s v
structure Stp (g g' : Gh) (H H' : Hp) : Prop where
  z : Same g.Z g'.Z
  n : g.n ≤ g'.n
  ρ : ∀ a, a < g.n → g'.ρ a = g.ρ a
  out : ∀ p o, g.own p = .out → H p = some o → g'.own p = .out ∧ H' p = some o
theorem Stp.refl (g : Gh) (H : Hp) : Stp g g H H := ⟨Same.refl _, Nat.le_refl _, fun _ _ => rfl, fun _ _ a b => ⟨a, b⟩⟩
theorem Stp.trans {g g1 g2 : Gh} {H H1 H2 : Hp} (a : Stp g g1 H H1) (b : Stp g1 g2 H1 H2) : Stp g g2 H H2 :=
  ⟨a.z.trans b.z, Nat.le_trans a.n b.n, fun c h => (b.ρ c (Nat.lt_of_lt_of_le h a.n)).trans (a.ρ c h), fun p o h e => b.out p o (a.out p o h e).1 (a.out p o h e).2⟩

theorem sameT {K : PySem.W.Frag} {H H' : Hp} {a : Addr} {xs : List V} (e : Same H H') (h : SqT K H a xs) : SqT K H' a xs := by
  rcases h with (h | ⟨o, h⟩) | h
  · exact .inl (.inl (e _ _ h))
  · exact .inl (.inr ⟨o, e _ _ h⟩)
  · exact .inr h
section
variable {K : PySem.W.Frag} {g g' : Gh} {H H' : Hp}
mutual
theorem RepT.step (s : Stp g g' H H') : ∀ {t : T} {v : V}, RepT K g t v → RepT K g' t v
  | .non, v, h => by unfold RepT at h ⊢; exact h
  | .bl _, v, h => by unfold RepT at h ⊢; exact h
  | .int _, v, h => by unfold RepT at h ⊢; exact h
  | .str _, v, h => by unfold RepT at h ⊢; exact h
  | .ty _, v, h => by unfold RepT at h ⊢; exact h
  | .tup ts, v, h => by
    unfold RepT at h ⊢
    obtain ⟨a, xs, e, q, r⟩ := h
    exact ⟨a, xs, e, sameT s.z q, RepL.step s r⟩
  | .fz ts, v, h => by
    unfold RepT at h ⊢
    obtain ⟨a, xs, e, q, r⟩ := h
    exact ⟨a, xs, e, s.z _ _ q, RepL.step s r⟩
  | .ref n, v, h => by
    unfold RepT at h ⊢
    exact ⟨Nat.lt_of_lt_of_le h.1 s.n, by rw [h.2, s.ρ n h.1]⟩
  | .scr ns, v, h => by
    unfold RepT at h ⊢
    obtain ⟨a, e, q⟩ := h
    exact ⟨a, e, s.z.seq q⟩
  | .dic ks vs, v, h => by
    unfold RepT at h ⊢
    obtain ⟨a, kvs, e, q, hk, r⟩ := h
    exact ⟨a, kvs, e, s.z _ _ q, hk, RepL.step s r⟩
theorem RepL.step (s : Stp g g' H H') : ∀ {ts : List T} {xs : List V}, RepL K g ts xs → RepL K g' ts xs
  | [], xs, h => by unfold RepL at h ⊢; exact h
  | t :: ts, xs, h => by
    unfold RepL at h ⊢
    obtain ⟨x, r, e, a, b⟩ := h
    exact ⟨x, r, e, RepT.step s a, RepL.step s b⟩
end
end

theorem PE.mono {X : Cx} {e : Expr} {t t' : TE} (h : PE X e t) (w : ∀ σ H Q, t' σ H Q → t σ H Q) : PE X e t' :=
  ⟨fun pins s σ H Q I q => h.run pins s σ H Q I (w σ H Q q)⟩
theorem PT.mono {X : Cx} {e : Expr} {t t' : TT} (h : PT X e t) (w : ∀ σ H Q, t' σ H Q → t σ H Q) : PT X e t' :=
  ⟨fun pins s σ H Q I q => h.run pins s σ H Q I (w σ H Q q)⟩
theorem PA.mono {X : Cx} {e : List Expr} {t t' : TA} (h : PA X e t) (w : ∀ σ H Q, t' σ H Q → t σ H Q) : PA X e t' :=
  ⟨fun pos pins s σ H Q I q => h.run pos pins s σ H Q I (w σ H Q q)⟩
theorem PS.mono {X : Cx} {st : Stmt} {t t' : TS} (h : PS X st t) (w : ∀ D σ H, t' D σ H → t D σ H) : PS X st t' :=
  ⟨fun pins s σ H D I q => h.run pins s σ H D I (w D σ H q)⟩
theorem PSs.mono {X : Cx} {st : List Stmt} {t t' : TS} (h : PSs X st t) (w : ∀ D σ H, t' D σ H → t D σ H) : PSs X st t' :=
  ⟨fun pins s σ H D I q => h.run pins s σ H D I (w D σ H q)⟩


/-! ### the judgements -/
/-- what surrounds: the written part, and how an exception lies -/
structure Ev where
  K : PySem.W.Frag
  W : WX
  RX : Gh → Xn → Value → Option Addr → Hp → Prop
def run {α : Type} (m : M α) (st : Stt) (ok : α → Stt → Prop) (ex : Xn → Stt → Prop) : Prop :=
  match m st with
  | none => False
  | some (.ok a, st') => ok a st'
  | some (.exc x, st') => ex x st'
theorem run_pure {α : Type} {a : α} {st : Stt} {ok ex} (h : run (pure a : M α) st ok ex) : ok a st := h
theorem run_bind {α β : Type} {m : M α} {f : α → M β} {st : Stt} {ok : β → Stt → Prop} {ex} (h : run (m >>= f) st ok ex) :
    run m st (fun a st1 => run (f a) st1 ok ex) ex := by
  unfold run at h ⊢
  rw [bind_def] at h
  cases e : m st with
  | none => rw [e] at h; exact h
  | some p =>
    rw [e] at h
    obtain ⟨r, st1⟩ := p
    cases r with
    | ok a => exact h
    | exc x => exact h
theorem run_mono {α : Type} {m : M α} {st : Stt} {ok ok' : α → Stt → Prop} {ex ex' : Xn → Stt → Prop} (h : run m st ok ex) (h1 : ∀ a st', ok a st' → ok' a st') (h2 : ∀ x st', ex x st' → ex' x st') : run m st ok' ex' := by
  unfold run at h ⊢
  cases e : m st with
  | none => rw [e] at h; exact h
  | some p =>
    rw [e] at h
    obtain ⟨r, st1⟩ := p
    cases r with
    | ok a => exact h1 _ _ h
    | exc x => exact h2 _ _ h

section
variable (E : Ev)
/-- what is wanted where x is raised -/
def exW (g : Gh) (H : Hp) (σ : L2.St) (x : Xn) (st' : Stt) : Prop :=
  ∀ g' H' c d, Rel E.K g' st' σ H' → Stp g g' H H' → E.RX g' x c d H' → E.W c d σ H'
/-- behind a computation: any ghost and heap that bear the state -/
def beh (g : Gh) (H : Hp) (σ : L2.St) (st' : Stt) (P : Gh → Hp → Prop) : Prop :=
  ∀ g' H', Rel E.K g' st' σ H' → Stp g g' H H' → P g' H'
/-- the computation m at (g, st), its value told by Φ -/
def at_ {α : Type} (m : M α) (g : Gh) (σ : L2.St) (H : Hp) (Φ : α → Stt → Prop) : Prop :=
  ∃ st, Rel E.K g st σ H ∧ run m st Φ (exW E g H σ)
def okT (g : Gh) (H : Hp) (σ : L2.St) (Q : VK) (t : T) (st' : Stt) : Prop := beh E g H σ st' fun g' H' => ∀ v, RepT E.K g' t v → Q v H'
def teM (m : M T) : TE := fun σ H Q => ∃ g, at_ E m g σ H (okT E g H σ Q)
def okB (g : Gh) (H : Hp) (σ : L2.St) (Q : Bool → Hp → Prop) (b : Bool) (st' : Stt) : Prop := beh E g H σ st' fun _ H' => Q b H'
def ttM (m : M Bool) : TT := fun σ H Q => ∃ g, at_ E m g σ H (okB E g H σ Q)
def okL (g : Gh) (H : Hp) (σ : L2.St) (Q : List V → Hp → Prop) (ts : List T) (st' : Stt) : Prop := beh E g H σ st' fun g' H' => ∀ vs, RepL E.K g' ts vs → Q vs H'
def taM (m : M (List T)) : TA := fun σ H Q => ∃ g, at_ E m g σ H (okL E g H σ Q)
/-- a fresh object: what it is, laid where nothing was -/
def okF (g : Gh) (H : Hp) (σ : L2.St) (Q : VK) (ob : Ob) (st' : Stt) : Prop := beh E g H σ st' fun g' H' => ∀ p o, H' p = none → RepO E.K g' ob (some o) → Q (.ref p) (upd H' p o)
def tfM (m : M Ob) : TE := fun σ H Q => ∃ g, at_ E m g σ H (okF E g H σ Q)
/-- readers: a value that may change till it is read -/
abbrev Rdr := Stt → Option T
/-- as RepT, a list or dict as it stands in the heap now -/
def RepK (g : Gh) (H : Hp) : T → V → Prop
  | .fz ts, v => ∃ a xs, v = .ref a ∧ H a = some (.lst xs) ∧ RepL E.K g ts xs
  | .dic ks vs, v => ∃ a kvs, v = .ref a ∧ H a = some (.dK kvs) ∧ ks.map keyOf = kvs.map (fun p => some p.1) ∧ RepL E.K g vs (kvs.map (·.2))
  | t, v => RepT E.K g t v
def Reads (g : Gh) (H : Hp) (σ : L2.St) (rd : Rdr) (v : V) : Prop :=
  ∀ g' st' H' t, Rel E.K g' st' σ H' → Stp g g' H H' → rd st' = some t → RepK E g' H' t v
def okR (g : Gh) (H : Hp) (σ : L2.St) (Q : VK) (rd : Rdr) (st' : Stt) : Prop := beh E g H σ st' fun g' H' => ∀ v, Reads E g' H' σ rd v → Q v H'
def toM (m : M Rdr) : TE := fun σ H Q => ∃ g, at_ E m g σ H (okR E g H σ Q)
structure ME (X : Cx) (e : Expr) (m : M T) : Prop where pe : PE X e (teM E m)
structure TM (X : Cx) (e : Expr) (m : M Bool) : Prop where pt : PT X e (ttM E m)
structure AM (X : Cx) (e : List Expr) (m : M (List T)) : Prop where pa : PA X e (taM E m)
structure FE (X : Cx) (e : Expr) (m : M Ob) : Prop where pe : PE X e (tfM E m)
structure OE (X : Cx) (e : Expr) (m : M Rdr) : Prop where pe : PE X e (toM E m)
end

section
variable {E : Ev} {g g1 : Gh} {H H1 : Hp} {σ : L2.St}
theorem exW.step (s : Stp g g1 H H1) {x : Xn} {st' : Stt} (h : exW E g H σ x st') : exW E g1 H1 σ x st' := fun g' H' c d r t => h g' H' c d r (s.trans t)
theorem beh.step (s : Stp g g1 H H1) {st' : Stt} {P : Gh → Hp → Prop} (h : beh E g H σ st' P) : beh E g1 H1 σ st' P := fun g' H' r t => h g' H' r (s.trans t)
/-- m, then f: what m's end is to give -/
theorem at_bind {α β : Type} {m : M α} {f : α → M β} {Φ : β → Stt → Prop} {Ψ : α → Stt → Prop} (h : at_ E (m >>= f) g σ H Φ)
    (k : ∀ a st1, (∀ g1 H1, Rel E.K g1 st1 σ H1 → Stp g g1 H H1 → ∃ st, Rel E.K g1 st σ H1 ∧ run (f a) st Φ (exW E g1 H1 σ)) → Ψ a st1) : at_ E m g σ H Ψ := by
  obtain ⟨st, r, h⟩ := h
  refine ⟨st, r, run_mono (run_bind h) (fun a st1 q => k a st1 fun g1 H1 r1 s1 => ⟨st1, r1, run_mono q (fun _ _ z => z) fun _ _ z => z.step s1⟩) fun _ _ z => z⟩
theorem at_mono {α : Type} {m : M α} {Φ Ψ : α → Stt → Prop} (h : at_ E m g σ H Φ) (k : ∀ a st, Φ a st → Ψ a st) : at_ E m g σ H Ψ := by
  obtain ⟨st, r, h⟩ := h
  exact ⟨st, r, run_mono h k fun _ _ z => z⟩
theorem at_pure {α : Type} {a : α} {Φ : α → Stt → Prop} (h : at_ E (pure a) g σ H Φ) : ∃ st, Rel E.K g st σ H ∧ Φ a st := h
theorem at_ofO {α : Type} {o : Option α} {Φ : α → Stt → Prop} (h : at_ E (ofO o) g σ H Φ) : ∃ a st, o = some a ∧ Rel E.K g st σ H ∧ Φ a st := by
  cases o with
  | none => obtain ⟨_, _, h⟩ := h; exact h.elim
  | some a => obtain ⟨st, r, h⟩ := h; exact ⟨a, st, rfl, r, h⟩
end
end Sw
namespace Sw
open PySem PySem.Spec PyProof.Rows L2

section
variable {E : Ev} {g g1 : Gh} {H H1 : Hp} {σ : L2.St}
/-- a family of ends that goes with the ghost -/
def Steps {β : Type} (Φ : Gh → Hp → β → Stt → Prop) : Prop := ∀ g g1 H H1 b st, Stp g g1 H H1 → Φ g H b st → Φ g1 H1 b st
theorem st_okT {Q : VK} : Steps (fun g H => okT E g H σ Q) := fun _ _ _ _ _ _ s h => beh.step s h
theorem st_okB {Q : Bool → Hp → Prop} : Steps (fun g H => okB E g H σ Q) := fun _ _ _ _ _ _ s h => beh.step s h
theorem st_okL {Q : List V → Hp → Prop} : Steps (fun g H => okL E g H σ Q) := fun _ _ _ _ _ _ s h => beh.step s h
theorem st_okF {Q : VK} : Steps (fun g H => okF E g H σ Q) := fun _ _ _ _ _ _ s h => beh.step s h
theorem st_okR {Q : VK} : Steps (fun g H => okR E g H σ Q) := fun _ _ _ _ _ _ s h => beh.step s h

theorem at_step {α : Type} {m : M α} {Φ Ψ : α → Stt → Prop} {st : Stt} (r : Rel E.K g1 st σ H1) (q : run m st Φ (exW E g1 H1 σ)) (k : ∀ a st, Φ a st → Ψ a st) : at_ E m g1 σ H1 Ψ := ⟨st, r, run_mono q k fun _ _ z => z⟩
theorem seq_any {α β : Type} {m : M α} {f : α → M β} {Φ : Gh → Hp → β → Stt → Prop} (hΦ : Steps Φ) {Ψ : α → Stt → Prop} (h : at_ E (m >>= f) g σ H (Φ g H))
    (k : ∀ a st1, (∀ g1 H1, Rel E.K g1 st1 σ H1 → Stp g g1 H H1 → at_ E (f a) g1 σ H1 (Φ g1 H1)) → Ψ a st1) : at_ E m g σ H Ψ :=
  at_bind h fun a st1 q => k a st1 fun g1 H1 r1 s1 => by
    obtain ⟨st, r, z⟩ := q g1 H1 r1 s1
    exact ⟨st, r, run_mono z (fun b st' y => hΦ _ _ _ _ b st' s1 y) fun _ _ y => y⟩
theorem seqT {β : Type} {m : M T} {f : T → M β} {Φ : Gh → Hp → β → Stt → Prop} (hΦ : Steps Φ) {Q : VK} (h : at_ E (m >>= f) g σ H (Φ g H))
    (k : ∀ t v g1 H1, Stp g g1 H H1 → RepT E.K g1 t v → at_ E (f t) g1 σ H1 (Φ g1 H1) → Q v H1) : teM E m σ H Q :=
  ⟨g, seq_any hΦ h fun t st1 q g1 H1 r1 s1 v rv => k t v g1 H1 s1 rv (q g1 H1 r1 s1)⟩
theorem seqB {β : Type} {m : M Bool} {f : Bool → M β} {Φ : Gh → Hp → β → Stt → Prop} (hΦ : Steps Φ) {Q : Bool → Hp → Prop} (h : at_ E (m >>= f) g σ H (Φ g H))
    (k : ∀ b g1 H1, Stp g g1 H H1 → at_ E (f b) g1 σ H1 (Φ g1 H1) → Q b H1) : ttM E m σ H Q :=
  ⟨g, seq_any hΦ h fun t st1 q g1 H1 r1 s1 => k t g1 H1 s1 (q g1 H1 r1 s1)⟩
theorem seqO {β : Type} {m : M Rdr} {f : Rdr → M β} {Φ : Gh → Hp → β → Stt → Prop} (hΦ : Steps Φ) {Q : VK} (h : at_ E (m >>= f) g σ H (Φ g H))
    (k : ∀ t v g1 H1, Stp g g1 H H1 → Reads E g1 H1 σ t v → at_ E (f t) g1 σ H1 (Φ g1 H1) → Q v H1) : toM E m σ H Q :=
  ⟨g, seq_any hΦ h fun t st1 q g1 H1 r1 s1 v rv => k t v g1 H1 s1 rv (q g1 H1 r1 s1)⟩
theorem seqL {β : Type} {m : M (List T)} {f : List T → M β} {Φ : Gh → Hp → β → Stt → Prop} (hΦ : Steps Φ) {Q : List V → Hp → Prop} (h : at_ E (m >>= f) g σ H (Φ g H))
    (k : ∀ t v g1 H1, Stp g g1 H H1 → RepL E.K g1 t v → at_ E (f t) g1 σ H1 (Φ g1 H1) → Q v H1) : taM E m σ H Q :=
  ⟨g, seq_any hΦ h fun t st1 q g1 H1 r1 s1 v rv => k t v g1 H1 s1 rv (q g1 H1 r1 s1)⟩

/-! ### what stands is read as it stands -/
theorem RepT.k (zs : Same g.Z H) : ∀ {t : T} {v : V}, RepT E.K g t v → RepK E g H t v
  | .fz ts, v, h => by
    unfold RepT at h
    obtain ⟨a, xs, e, q, r⟩ := h
    exact ⟨a, xs, e, zs _ _ q, r⟩
  | .non, _, h => h
  | .bl _, _, h => h
  | .int _, _, h => h
  | .str _, _, h => h
  | .ty _, _, h => h
  | .tup _, _, h => h
  | .ref _, _, h => h
  | .scr _, _, h => h
  | .dic ks vs, v, h => by
    unfold RepT at h
    obtain ⟨a, kvs, e, q, hk, r⟩ := h
    exact ⟨a, kvs, e, zs _ _ q, hk, r⟩
theorem Reads.const {t : T} {v : V} (h : RepT E.K g t v) : Reads E g H σ (fun _ => some t) v := fun g' st' H' t' r s e => by
  cases e
  exact RepT.k r.zs (h.step s)
theorem Reads.step {rd : Rdr} {v : V} (s : Stp g g1 H H1) (h : Reads E g H σ rd v) : Reads E g1 H1 σ rd v := fun g' st' H' t r s' e => h g' st' H' t r (s.trans s') e
end

/-! ### names -/
def peekS : Sl → Option T
  | .emp => none
  | .val t => some t
  | .own (.lst ts) => some (.fz ts)
  | .own (.dct ks vs) => some (.dic ks vs)
  | .own _ => none
/-- a name's value as it stands, a boxed list as its items -/
def peekT (S : List Ob) : T → Option T
  | .ref a => match S[a]? with
    | some (.lst ts) => some (.fz ts)
    | some (.dct ks vs) => some (.dic ks vs)
    | _ => none
  | t => some t
def rVar (i : Nat) : Rdr := fun st => match st.σ[i]? with
  | some s => (peekS s).bind (peekT st.S)
  | none => none
/-- a name to be read -/
def oVar (i : Nat) : M Rdr := fun st => match st.σ[i]? with
  | some .emp => none
  | none => none
  | some _ => some (.ok (rVar i), st)
/-- a name's value -/
def eVar (i : Nat) : M T := fun st => match st.σ[i]? with
  | some (.val t) => some (.ok t, st)
  | _ => none
/-- a name's own list, given away: from here on it stands still -/
def eFrz (i : Nat) : M T := fun st => match st.σ[i]? with
  | some (.own (.lst ts)) => some (.ok (.fz ts), { st with σ := st.σ.set i (.val (.fz ts)) })
  | _ => none

section
variable {E : Ev} {g g1 : Gh} {H H1 : Hp} {σ : L2.St}
/-- an address comes to stand still -/
def Gh.frz (g : Gh) (p : Addr) (o : HO) : Gh := { g with own := fun q => if q = p then .fz else g.own q, Z := upd g.Z p o }
theorem Gh.frz_z {p : Addr} {o : HO} (h : g.Z p = none) : Same g.Z (g.frz p o).Z := fun b u e => by
  show upd g.Z p o b = some u
  rw [upd_ne (ne_of_none e h)]
  exact e
theorem Gh.frz_own {p q : Addr} {o : HO} (h : q ≠ p) : (g.frz p o).own q = g.own q := by
  show (if q = p then _ else _) = _
  rw [if_neg h]
/-- the ghost alone goes on -/
structure GStp (g g' : Gh) : Prop where
  z : Same g.Z g'.Z
  n : g.n ≤ g'.n
  ρ : ∀ a, a < g.n → g'.ρ a = g.ρ a
theorem Stp.gs {g g' : Gh} (s : Stp g g' H H1) : GStp g g' := ⟨s.z, s.n, s.ρ⟩
section
variable {K : PySem.W.Frag} {g' : Gh}
mutual
theorem RepT.gstep (s : GStp g g') : ∀ {t : T} {v : V}, RepT K g t v → RepT K g' t v
  | .non, v, h => by unfold RepT at h ⊢; exact h
  | .bl _, v, h => by unfold RepT at h ⊢; exact h
  | .int _, v, h => by unfold RepT at h ⊢; exact h
  | .str _, v, h => by unfold RepT at h ⊢; exact h
  | .ty _, v, h => by unfold RepT at h ⊢; exact h
  | .tup ts, v, h => by
    unfold RepT at h ⊢
    obtain ⟨a, xs, e, q, r⟩ := h
    exact ⟨a, xs, e, sameT s.z q, RepL.gstep s r⟩
  | .fz ts, v, h => by
    unfold RepT at h ⊢
    obtain ⟨a, xs, e, q, r⟩ := h
    exact ⟨a, xs, e, s.z _ _ q, RepL.gstep s r⟩
  | .ref n, v, h => by
    unfold RepT at h ⊢
    exact ⟨Nat.lt_of_lt_of_le h.1 s.n, by rw [h.2, s.ρ n h.1]⟩
  | .scr ns, v, h => by
    unfold RepT at h ⊢
    obtain ⟨a, e, q⟩ := h
    exact ⟨a, e, s.z.seq q⟩
  | .dic ks vs, v, h => by
    unfold RepT at h ⊢
    obtain ⟨a, kvs, e, q, hk, r⟩ := h
    exact ⟨a, kvs, e, s.z _ _ q, hk, RepL.gstep s r⟩
theorem RepL.gstep (s : GStp g g') : ∀ {ts : List T} {xs : List V}, RepL K g ts xs → RepL K g' ts xs
  | [], xs, h => by unfold RepL at h ⊢; exact h
  | t :: ts, xs, h => by
    unfold RepL at h ⊢
    obtain ⟨x, r, e, a, b⟩ := h
    exact ⟨x, r, e, RepT.gstep s a, RepL.gstep s b⟩
end
theorem RepO.gstep (s : GStp g g') : ∀ {ob : Ob} {o : Option HO}, RepO K g ob o → RepO K g' ob o
  | .lst _, _, ⟨xs, e, r⟩ => ⟨xs, e, r.gstep s⟩
  | .dct _ _, _, ⟨kvs, e, hk, r⟩ => ⟨kvs, e, hk, r.gstep s⟩
  | .dead, _, h => h
end
/-- a new object, laid to stand still -/
theorem Rel.frz {st : Stt} {p : Addr} {o : HO} (r : Rel E.K g st σ H) (hp : H p = none) : Rel E.K (g.frz p o) st σ (upd H p o) ∧ Stp g (g.frz p o) H (upd H p o) := by
  have zp : g.Z p = none := r.zs.free hp
  have op : g.own p = .out := r.fr p hp
  have gs : GStp g (g.frz p o) := ⟨Gh.frz_z zp, Nat.le_refl _, fun _ _ => rfl⟩
  refine ⟨⟨⟨fun b u e => ?_, fun b u e => ?_, fun b e => ?_, r.n, fun a ob e => ?_⟩, r.len, fun i s v e1 e2 => ?_⟩, ⟨gs.z, gs.n, gs.ρ, fun b u h1 h2 => ?_⟩⟩
  · by_cases hb : b = p
    · subst hb
      have e : upd g.Z b o b = some u := e
      rw [upd_same] at e ⊢
      exact e
    · have e : upd g.Z p o b = some u := e
      rw [upd_ne hb] at e ⊢
      exact r.zs b u e
  · by_cases hb : b = p
    · show (if b = p then _ else _) = _
      rw [if_pos hb]
    · have e : upd g.Z p o b = some u := e
      rw [upd_ne hb] at e
      rw [Gh.frz_own hb]
      exact r.zo b u e
  · by_cases hb : b = p
    · subst hb
      rw [upd_same] at e
      cases e
    · rw [upd_ne hb] at e
      rw [Gh.frz_own hb]
      exact r.fr b e
  · obtain ⟨h1, h2⟩ := r.box a ob e
    have hb : g.ρ a ≠ p := fun z => by rw [z, op] at h1; cases h1
    refine ⟨?_, ?_⟩
    · rw [Gh.frz_own (show (g.frz p o).ρ a ≠ p from hb)]
      exact h1
    · show RepO E.K _ ob (upd H p o (g.ρ a))
      rw [upd_ne hb]
      exact h2.gstep gs
  · have q := r.slot i s v e1 e2
    cases s with
    | emp => trivial
    | val t =>
      obtain ⟨x, e, q⟩ := q
      exact ⟨x, e, q.gstep gs⟩
    | own ob =>
      obtain ⟨p', e, q1, q2⟩ := q
      have hb : p' ≠ p := fun z => by rw [z, op] at q1; cases q1
      refine ⟨p', e, ?_, ?_⟩
      · rw [Gh.frz_own hb]
        exact q1
      · rw [upd_ne hb]
        exact q2.gstep gs
  · have hb : b ≠ p := ne_of_none h2 hp
    rw [Gh.frz_own hb, upd_ne hb]
    exact ⟨h1, h2⟩

theorem Reads.val {t : T} {v : V} (h : RepT E.K g t v) : Reads E g H σ (fun st => peekT st.S t) v := fun g' st' H' t' r s e => by
  cases t with
  | ref a =>
    unfold peekT at e
    have h' := h.step s
    unfold RepT at h'
    cases eb : st'.S[a]? with
    | none => simp only [eb] at e; cases e
    | some ob =>
      simp only [eb] at e
      cases ob with
      | lst ts =>
        cases e
        obtain ⟨_, xs, e1, e2⟩ := r.box a _ eb
        exact ⟨g'.ρ a, xs, h'.2, e1, e2⟩
      | dct ks vs =>
        cases e
        obtain ⟨_, kvs, e1, e2, e3⟩ := r.box a _ eb
        exact ⟨g'.ρ a, kvs, h'.2, e1, e2, e3⟩
      | dead => cases e
  | _ => cases e; exact RepT.k r.zs (h.step s)
/-- a value, read where it comes -/
def oE (m : M T) : M Rdr := do let t ← m; pure fun st => peekT st.S t
theorem ME.o {X : Cx} {e : Expr} {m : M T} (h : ME E X e m) : OE E X e (oE m) :=
  ⟨PE.mono h.pe fun σ H Q ⟨g, q⟩ => seqT st_okR q fun t v g1 H1 s1 rv q1 => by
    obtain ⟨st, r, z⟩ := at_pure q1
    exact z g1 H1 r (Stp.refl _ _) v (Reads.val rv)⟩
theorem var_rd {i : Nat} {st : Stt} {v : V} (h : σ[i]? = some (some v)) : Reads E g H σ (rVar i) v := fun g' st' H' t r s e => by
  unfold rVar at e
  cases es : st'.σ[i]? with
  | none => rw [es] at e; cases e
  | some sl =>
    rw [es] at e
    have q := r.slot i sl (some v) es h
    cases sl with
    | emp => cases e
    | val u =>
      obtain ⟨x, ex, rx⟩ := q
      cases ex
      have e : peekT st'.S u = some t := e
      cases u with
      | ref a =>
        unfold peekT at e
        cases eb : st'.S[a]? with
        | none => simp only [eb] at e; cases e
        | some ob =>
          simp only [eb] at e
          cases ob with
          | lst ts =>
            cases e
            obtain ⟨_, b2⟩ := r.box a _ eb
            unfold RepT at rx
            obtain ⟨xs, e1, e2⟩ := b2
            exact ⟨g'.ρ a, xs, rx.2, e1, e2⟩
          | dct ks vs =>
            cases e
            obtain ⟨_, b2⟩ := r.box a _ eb
            unfold RepT at rx
            obtain ⟨kvs, e1, e2, e3⟩ := b2
            exact ⟨g'.ρ a, kvs, rx.2, e1, e2, e3⟩
          | dead => cases e
      | _ => cases e; exact RepT.k r.zs rx
    | own ob =>
      obtain ⟨p, ex, _, ro⟩ := q
      cases ex
      cases ob with
      | lst ts =>
        have e : some (T.fz ts) = some t := e
        cases e
        obtain ⟨xs, e1, e2⟩ := ro
        exact ⟨p, xs, rfl, e1, e2⟩
      | dct ks vs =>
        have e : some (T.dic ks vs) = some t := e
        cases e
        obtain ⟨kvs, e1, e2, e3⟩ := ro
        exact ⟨p, kvs, rfl, e1, e2, e3⟩
      | dead => cases e
theorem oe_var {X : Cx} {i : Nat} {e : Expr} (h : PE X e (tVar i)) : OE E X e (oVar i) := by
  refine ⟨PE.mono h fun σ H Q ⟨g, st, r, q⟩ => ?_⟩
  unfold run oVar at q
  have key : ∀ s, st.σ[i]? = some s → s ≠ .emp → ∃ v, σ[i]? = some (some v) := fun s es hs => by
    have hi : i < σ.length := by rw [← r.len]; exact (List.getElem?_eq_some_iff.mp es).1
    have ev : σ[i]? = some σ[i] := List.getElem?_eq_getElem hi
    have z := r.slot i s _ es ev
    cases s with
    | emp => exact absurd rfl hs
    | val t => obtain ⟨x, e, _⟩ := z; exact ⟨x, by rw [ev, e]⟩
    | own ob => obtain ⟨p, e, _⟩ := z; exact ⟨_, by rw [ev, e]⟩
  cases es : st.σ[i]? with
  | none => rw [es] at q; exact q.elim
  | some s =>
    rw [es] at q
    cases s with
    | emp => exact q.elim
    | val t =>
      obtain ⟨v, ev⟩ := key _ es (fun z => by cases z)
      exact ⟨v, ev, q g H r (Stp.refl _ _) v (var_rd (st := st) ev)⟩
    | own ob =>
      obtain ⟨v, ev⟩ := key _ es (fun z => by cases z)
      exact ⟨v, ev, q g H r (Stp.refl _ _) v (var_rd (st := st) ev)⟩
theorem me_var {X : Cx} {i : Nat} {e : Expr} (h : PE X e (tVar i)) : ME E X e (eVar i) := by
  refine ⟨PE.mono h fun σ H Q ⟨g, st, r, q⟩ => ?_⟩
  unfold run eVar at q
  cases es : st.σ[i]? with
  | none => rw [es] at q; exact q.elim
  | some s =>
    rw [es] at q
    cases s with
    | emp => exact q.elim
    | own _ => exact q.elim
    | val t =>
      have hi : i < σ.length := by rw [← r.len]; exact (List.getElem?_eq_some_iff.mp es).1
      have ev : σ[i]? = some σ[i] := List.getElem?_eq_getElem hi
      obtain ⟨x, e, rx⟩ := r.slot i _ _ es ev
      exact ⟨x, by rw [ev, e], q g H r (Stp.refl _ _) x rx⟩
/-- an own list of a slot, frozen -/
theorem Rel.freeze {st : Stt} {i : Nat} {p : Addr} {ts : List T} {xs : List V} (r : Rel E.K g st σ H) (es : st.σ[i]? = some (.own (.lst ts))) (ev : σ[i]? = some (some (.ref p))) (op : g.own p = .slot i) (hp : H p = some (.lst xs)) (rl : RepL E.K g ts xs) :
    Rel E.K (g.frz p (.lst xs)) { st with σ := st.σ.set i (.val (.fz ts)) } σ H ∧ Stp g (g.frz p (.lst xs)) H H ∧ RepT E.K (g.frz p (.lst xs)) (.fz ts) (.ref p) := by
  have zp : g.Z p = none := by
    cases z : g.Z p with
    | none => rfl
    | some o => rw [r.zo p o z] at op; cases op
  have gs : GStp g (g.frz p (.lst xs)) := ⟨Gh.frz_z zp, Nat.le_refl _, fun _ _ => rfl⟩
  have zz : (g.frz p (.lst xs)).Z p = some (.lst xs) := upd_same
  have rt : RepT E.K (g.frz p (.lst xs)) (.fz ts) (.ref p) := by
    unfold RepT
    exact ⟨p, xs, rfl, zz, rl.gstep gs⟩
  refine ⟨⟨⟨fun b u e => ?_, fun b u e => ?_, fun b e => ?_, r.n, fun a ob e => ?_⟩, by simpa using r.len, fun j s v e1 e2 => ?_⟩, ⟨gs.z, gs.n, gs.ρ, fun b u h1 h2 => ?_⟩, rt⟩
  · by_cases hb : b = p
    · subst hb
      rw [zz] at e
      rw [hp]
      exact e
    · have e : upd g.Z p (.lst xs) b = some u := e
      rw [upd_ne hb] at e
      exact r.zs b u e
  · by_cases hb : b = p
    · show (if b = p then _ else _) = _
      rw [if_pos hb]
    · have e : upd g.Z p (.lst xs) b = some u := e
      rw [upd_ne hb] at e
      rw [Gh.frz_own hb]
      exact r.zo b u e
  · have hb : b ≠ p := fun z => by rw [z, hp] at e; cases e
    rw [Gh.frz_own hb]
    exact r.fr b e
  · obtain ⟨h1, h2⟩ := r.box a ob e
    have hb : g.ρ a ≠ p := fun z => by rw [z, op] at h1; cases h1
    refine ⟨?_, h2.gstep gs⟩
    rw [Gh.frz_own (show (g.frz p (.lst xs)).ρ a ≠ p from hb)]
    exact h1
  · by_cases hj : j = i
    · subst hj
      have hi : j < st.σ.length := (List.getElem?_eq_some_iff.mp es).1
      have e1 : (st.σ.set j (.val (.fz ts)))[j]? = some s := e1
      rw [List.getElem?_set_self hi] at e1
      cases e1
      rw [ev] at e2
      cases e2
      exact ⟨_, rfl, rt⟩
    · have e1 : (st.σ.set i (.val (.fz ts)))[j]? = some s := e1
      rw [List.getElem?_set_ne (Ne.symm hj)] at e1
      have q := r.slot j s v e1 e2
      cases s with
      | emp => trivial
      | val t =>
        obtain ⟨x, e, q⟩ := q
        exact ⟨x, e, q.gstep gs⟩
      | own ob =>
        obtain ⟨p', e, q1, q2⟩ := q
        have hb : p' ≠ p := fun z => by
          rw [z, op] at q1
          injection q1 with q1
          exact hj q1.symm
        refine ⟨p', e, ?_, q2.gstep gs⟩
        rw [Gh.frz_own hb]
        exact q1
  · have hb : b ≠ p := fun z => by rw [z, op] at h1; cases h1
    rw [Gh.frz_own hb]
    exact ⟨h1, h2⟩
theorem me_frz {X : Cx} {i : Nat} {e : Expr} (h : PE X e (tVar i)) : ME E X e (eFrz i) := by
  refine ⟨PE.mono h fun σ H Q ⟨g, st, r, q⟩ => ?_⟩
  unfold run eFrz at q
  cases es : st.σ[i]? with
  | none => rw [es] at q; exact q.elim
  | some s =>
    rw [es] at q
    cases s with
    | emp => exact q.elim
    | val _ => exact q.elim
    | own ob =>
      cases ob with
      | dct _ _ => exact q.elim
      | dead => exact q.elim
      | lst ts =>
        have hi : i < σ.length := by rw [← r.len]; exact (List.getElem?_eq_some_iff.mp es).1
        have ev : σ[i]? = some σ[i] := List.getElem?_eq_getElem hi
        obtain ⟨p, e, op, xs, hp, rl⟩ := r.slot i _ _ es ev
        rw [e] at ev
        obtain ⟨r', s', rt⟩ := r.freeze es ev op hp rl
        exact ⟨_, ev, q _ H r' s' _ rt⟩
end
end Sw
namespace Sw
open PySem PySem.Spec PyProof.Rows L2

/-! ### trees as data: ==, in -/
mutual
def T.pd : T → PyData
  | .non => .none
  | .bl b => .bool b
  | .int i => .int i
  | .str s => .str (sS s)
  | .ty _ => .none
  | .tup ts => .tuple (T.pds ts)
  | .fz ts => .list (T.pds ts)
  | .ref _ => .none
  | .scr _ => .none
  | .dic _ _ => .none
def T.pds : List T → List PyData
  | [] => []
  | t :: ts => t.pd :: T.pds ts
end
mutual
/-- plain data, of depth at most n -/
def T.dat : Nat → T → Bool
  | _, .non => true
  | _, .bl _ => true
  | _, .int _ => true
  | _, .str s => s.all (· < 0x110000)
  | _, .ty _ => false
  | 0, .tup _ => false
  | n + 1, .tup ts => T.dats n ts
  | 0, .fz _ => false
  | n + 1, .fz ts => T.dats n ts
  | _, .ref _ => false
  | _, .scr _ => false
  | _, .dic _ _ => false
def T.dats : Nat → List T → Bool
  | _, [] => true
  | n, t :: ts => T.dat n t && T.dats n ts
end
mutual
def T.eqv : T → T → Bool
  | .non, .non => true
  | .bl a, .bl b => a == b
  | .bl a, .int j => (if a then 1 else 0) == j
  | .int i, .bl b => i == (if b then 1 else 0)
  | .int i, .int j => i == j
  | .str x, .str y => x == y
  | .tup xs, .tup ys => T.eqvs xs ys
  | .fz xs, .fz ys => T.eqvs xs ys
  | _, _ => false
def T.eqvs : List T → List T → Bool
  | [], [] => true
  | x :: xs, y :: ys => T.eqv x y && T.eqvs xs ys
  | _, _ => false
end
theorem sS_eq {x y : List Nat} : (sS x == sS y) = (x == y) := by
  by_cases e : x = y
  · subst e
    simp
  · have h : sS x ≠ sS y := fun z => e (by
      have : x.toArray = y.toArray := congrArg Str.cps z
      simpa using this)
    rw [beq_eq_false_iff_ne.mpr e, beq_eq_false_iff_ne.mpr h]
mutual
theorem T.eqv_pd : ∀ {n m : Nat} {t u : T}, t.dat n = true → u.dat m = true → PyData.eqv t.pd u.pd = T.eqv t u
  | n, m, .ty _, u, h, _ => by cases n <;> simp [T.dat] at h
  | n, m, .ref _, u, h, _ => by cases n <;> simp [T.dat] at h
  | n, m, .scr _, u, h, _ => by cases n <;> simp [T.dat] at h
  | n, m, .dic _ _, u, h, _ => by cases n <;> simp [T.dat] at h
  | n, m, t, .ty _, _, h => by cases m <;> simp [T.dat] at h
  | n, m, t, .ref _, _, h => by cases m <;> simp [T.dat] at h
  | n, m, t, .scr _, _, h => by cases m <;> simp [T.dat] at h
  | n, m, t, .dic _ _, _, h => by cases m <;> simp [T.dat] at h
  | 0, m, .tup _, u, h, _ => by simp [T.dat] at h
  | 0, m, .fz _, u, h, _ => by simp [T.dat] at h
  | n, 0, t, .tup _, _, h => by simp [T.dat] at h
  | n, 0, t, .fz _, _, h => by simp [T.dat] at h
  | n + 1, m + 1, .tup xs, .tup ys, h, h' => by
    have h : T.dats n xs = true := by simpa [T.dat] using h
    have h' : T.dats m ys = true := by simpa [T.dat] using h'
    unfold T.pd T.eqv PyData.eqv
    exact T.eqvs_pd h h'
  | n + 1, m + 1, .fz xs, .fz ys, h, h' => by
    have h : T.dats n xs = true := by simpa [T.dat] using h
    have h' : T.dats m ys = true := by simpa [T.dat] using h'
    unfold T.pd T.eqv PyData.eqv
    exact T.eqvs_pd h h'
  | _, _, .non, .non, _, _ => by simp [T.pd, T.eqv, PyData.eqv]
  | _, _, .non, .bl _, _, _ => by simp [T.pd, T.eqv, PyData.eqv]
  | _, _, .non, .int _, _, _ => by simp [T.pd, T.eqv, PyData.eqv]
  | _, _, .non, .str _, _, _ => by simp [T.pd, T.eqv, PyData.eqv]
  | _, _ + 1, .non, .tup _, _, _ => by simp [T.pd, T.eqv, PyData.eqv]
  | _, _ + 1, .non, .fz _, _, _ => by simp [T.pd, T.eqv, PyData.eqv]
  | _, _, .bl _, .non, _, _ => by simp [T.pd, T.eqv, PyData.eqv]
  | _, _, .bl _, .bl _, _, _ => by simp [T.pd, T.eqv, PyData.eqv]
  | _, _, .bl _, .int _, _, _ => by simp [T.pd, T.eqv, PyData.eqv]
  | _, _, .bl _, .str _, _, _ => by simp [T.pd, T.eqv, PyData.eqv]
  | _, _ + 1, .bl _, .tup _, _, _ => by simp [T.pd, T.eqv, PyData.eqv]
  | _, _ + 1, .bl _, .fz _, _, _ => by simp [T.pd, T.eqv, PyData.eqv]
  | _, _, .int _, .non, _, _ => by simp [T.pd, T.eqv, PyData.eqv]
  | _, _, .int _, .bl _, _, _ => by simp [T.pd, T.eqv, PyData.eqv]
  | _, _, .int _, .int _, _, _ => by simp [T.pd, T.eqv, PyData.eqv]
  | _, _, .int _, .str _, _, _ => by simp [T.pd, T.eqv, PyData.eqv]
  | _, _ + 1, .int _, .tup _, _, _ => by simp [T.pd, T.eqv, PyData.eqv]
  | _, _ + 1, .int _, .fz _, _, _ => by simp [T.pd, T.eqv, PyData.eqv]
  | _, _, .str _, .non, _, _ => by simp [T.pd, T.eqv, PyData.eqv]
  | _, _, .str _, .bl _, _, _ => by simp [T.pd, T.eqv, PyData.eqv]
  | _, _, .str _, .int _, _, _ => by simp [T.pd, T.eqv, PyData.eqv]
  | _, _, .str x, .str y, _, _ => by
    unfold T.pd T.eqv PyData.eqv
    exact sS_eq
  | _, _ + 1, .str _, .tup _, _, _ => by simp [T.pd, T.eqv, PyData.eqv]
  | _, _ + 1, .str _, .fz _, _, _ => by simp [T.pd, T.eqv, PyData.eqv]
  | _ + 1, _, .tup _, .non, _, _ => by simp [T.pd, T.eqv, PyData.eqv]
  | _ + 1, _, .tup _, .bl _, _, _ => by simp [T.pd, T.eqv, PyData.eqv]
  | _ + 1, _, .tup _, .int _, _, _ => by simp [T.pd, T.eqv, PyData.eqv]
  | _ + 1, _, .tup _, .str _, _, _ => by simp [T.pd, T.eqv, PyData.eqv]
  | _ + 1, _ + 1, .tup _, .fz _, _, _ => by simp [T.pd, T.eqv, PyData.eqv]
  | _ + 1, _, .fz _, .non, _, _ => by simp [T.pd, T.eqv, PyData.eqv]
  | _ + 1, _, .fz _, .bl _, _, _ => by simp [T.pd, T.eqv, PyData.eqv]
  | _ + 1, _, .fz _, .int _, _, _ => by simp [T.pd, T.eqv, PyData.eqv]
  | _ + 1, _, .fz _, .str _, _, _ => by simp [T.pd, T.eqv, PyData.eqv]
  | _ + 1, _ + 1, .fz _, .tup _, _, _ => by simp [T.pd, T.eqv, PyData.eqv]
theorem T.eqvs_pd : ∀ {n m : Nat} {ts us : List T}, T.dats n ts = true → T.dats m us = true → PyData.eqvAll (T.pds ts) (T.pds us) = T.eqvs ts us
  | n, m, [], [], _, _ => by simp [T.pds, T.eqvs, PyData.eqvAll]
  | n, m, [], _ :: _, _, _ => by simp [T.pds, T.eqvs, PyData.eqvAll]
  | n, m, _ :: _, [], _, _ => by simp [T.pds, T.eqvs, PyData.eqvAll]
  | n, m, t :: ts, u :: us, h, h' => by
    have h : t.dat n = true ∧ T.dats n ts = true := by simpa [T.dats] using h
    have h' : u.dat m = true ∧ T.dats m us = true := by simpa [T.dats] using h'
    unfold T.pds T.eqvs PyData.eqvAll
    rw [T.eqv_pd h.1 h'.1, T.eqvs_pd h.2 h'.2]
end
mutual
theorem T.pd_ok : ∀ {n : Nat} {t : T}, t.dat n = true → t.pd.canLay0 = true ∧ t.pd.depth ≤ n
  | n, .ty _, h => by cases n <;> simp [T.dat] at h
  | n, .ref _, h => by cases n <;> simp [T.dat] at h
  | n, .scr _, h => by cases n <;> simp [T.dat] at h
  | n, .dic _ _, h => by cases n <;> simp [T.dat] at h
  | 0, .tup _, h => by simp [T.dat] at h
  | 0, .fz _, h => by simp [T.dat] at h
  | n, .non, _ => by simp [T.pd, PyData.canLay0, PyData.depth]
  | n, .bl _, _ => by simp [T.pd, PyData.canLay0, PyData.depth]
  | n, .int _, _ => by simp [T.pd, PyData.canLay0, PyData.depth]
  | n, .str s, h => by
    have h : s.all (· < 0x110000) = true := by cases n <;> simpa [T.dat] using h
    refine ⟨?_, by simp [T.pd, PyData.depth]⟩
    unfold T.pd PyData.canLay0 PySem.PyData.strOk sS
    simpa using h
  | n + 1, .tup ts, h => by
    have h : T.dats n ts = true := by simpa [T.dat] using h
    have q := T.pds_ok h
    unfold T.pd PyData.canLay0 PyData.depth
    exact ⟨q.1, Nat.succ_le_succ q.2⟩
  | n + 1, .fz ts, h => by
    have h : T.dats n ts = true := by simpa [T.dat] using h
    have q := T.pds_ok h
    unfold T.pd PyData.canLay0 PyData.depth
    exact ⟨q.1, Nat.succ_le_succ q.2⟩
theorem T.pds_ok : ∀ {n : Nat} {ts : List T}, T.dats n ts = true → PyData.canLayAll0 (T.pds ts) = true ∧ PyData.depthAll (T.pds ts) ≤ n
  | n, [], _ => by simp [T.pds, PyData.canLayAll0, PyData.depthAll]
  | n, t :: ts, h => by
    have h : t.dat n = true ∧ T.dats n ts = true := by simpa [T.dats] using h
    have q1 := T.pd_ok h.1
    have q2 := T.pds_ok h.2
    unfold T.pds PyData.canLayAll0 PyData.depthAll
    exact ⟨by rw [q1.1, q2.1]; rfl, Nat.max_le.mpr ⟨q1.2, q2.2⟩⟩
end
theorem T.shaped {t : T} {n : Nat} (h : t.dat n = true) (hn : n ≤ 64) : SeqAt.shaped t.pd = true := by
  have q := T.pd_ok h
  unfold SeqAt.shaped
  rw [q.1, Bool.true_and]
  exact decide_eq_true (Nat.le_trans q.2 hn)
section
variable {E : Ev} {g : Gh} {H : Hp}
mutual
theorem RepT.dp (zs : Same g.Z H) : ∀ {n : Nat} {t : T} {v : V}, t.dat n = true → RepT E.K g t v → Dp E.K H v t.pd
  | n, .ty _, _, h, _ => by cases n <;> simp [T.dat] at h
  | n, .ref _, _, h, _ => by cases n <;> simp [T.dat] at h
  | n, .scr _, _, h, _ => by cases n <;> simp [T.dat] at h
  | n, .dic _ _, _, h, _ => by cases n <;> simp [T.dat] at h
  | 0, .tup _, _, h, _ => by simp [T.dat] at h
  | 0, .fz _, _, h, _ => by simp [T.dat] at h
  | _, .non, v, _, r => by unfold RepT at r; subst r; exact .non
  | _, .bl b, v, _, r => by unfold RepT at r; subst r; exact .bl b
  | _, .int i, v, _, r => by unfold RepT at r; subst r; exact .int i
  | _, .str s, v, _, r => by unfold RepT at r; subst r; exact .str _
  | n + 1, .tup ts, v, h, r => by
    have h : T.dats n ts = true := by simpa [T.dat] using h
    unfold RepT at r
    obtain ⟨a, xs, rfl, q, r⟩ := r
    exact .tup (sameT zs q) (RepL.dp zs h r)
  | n + 1, .fz ts, v, h, r => by
    have h : T.dats n ts = true := by simpa [T.dat] using h
    unfold RepT at r
    obtain ⟨a, xs, rfl, q, r⟩ := r
    exact .lst (.inl (.inl (zs _ _ q))) (RepL.dp zs h r)
theorem RepL.dp (zs : Same g.Z H) : ∀ {n : Nat} {ts : List T} {xs : List V}, T.dats n ts = true → RepL E.K g ts xs → DpAll E.K H xs (T.pds ts)
  | n, [], xs, _, r => by unfold RepL at r; subst r; exact .nil
  | n, t :: ts, xs, h, r => by
    have h : t.dat n = true ∧ T.dats n ts = true := by simpa [T.dats] using h
    unfold RepL at r
    obtain ⟨x, q, rfl, r1, r2⟩ := r
    exact .cons (RepT.dp zs h.1 r1) (RepL.dp zs h.2 r2)
end
theorem RepK.dp (zs : Same g.Z H) {n : Nat} {t : T} {v : V} (h : t.dat n = true) (r : RepK E g H t v) : Dp E.K H v t.pd := by
  cases t with
  | fz ts =>
    obtain ⟨a, xs, rfl, q, r⟩ := r
    cases n with
    | zero => simp [T.dat] at h
    | succ n =>
      have h : T.dats n ts = true := by simpa [T.dat] using h
      exact .lst (.inl (.inl q)) (RepL.dp zs h r)
  | dic _ _ => cases n <;> simp [T.dat] at h
  | _ => exact RepT.dp (E := E) zs h r
end
/-- == where both are plain data -/
def eqO (t u : T) : Option Bool := if t.dat 60 && u.dat 60 then some (T.eqv t u) else none
def neO (t u : T) : Option Bool := if t.dat 60 && u.dat 60 then some (!T.eqv t u) else none
/-- x in a list -/
def inO (t u : T) : Option Bool := match u with
  | .fz us => if t.dat 60 && T.dats 59 us then some (us.any fun z => T.eqv z t) else none
  | _ => none
def ninO (t u : T) : Option Bool := match u with
  | .fz us => if t.dat 60 && T.dats 59 us then some (!us.any fun z => T.eqv z t) else none
  | _ => none
end Sw
namespace Sw
open PySem PySem.Spec PyProof.Rows L2

section
variable {E : Ev} {g g1 : Gh} {H H1 : Hp} {σ : L2.St} {X : Cx} {pos : Pos}

/-! ### constants -/
theorem at_con {t : T} {v : V} {Q : VK} (rt : ∀ g, RepT E.K g t v) (h : teM E (pure t) σ H Q) : Q v H := by
  obtain ⟨g, q⟩ := h
  obtain ⟨st, r, z⟩ := at_pure q
  exact z g H r (Stp.refl _ _) v (rt g)
theorem me_of {e : Expr} {t : T} {v : V} (h : PE X e (tC v)) (rt : ∀ g, RepT E.K g t v) : ME E X e (pure t) := ⟨PE.mono h fun _ _ _ q => at_con rt q⟩
theorem me_int {i : Int} {j} : ME E X (.Constant (.int i) j pos) (pure (.int i)) := me_of pe_int fun g => by unfold RepT; rfl
theorem me_bl {b : Bool} {j} : ME E X (.Constant (.bool b) j pos) (pure (.bl b)) := me_of pe_bl fun g => by unfold RepT; rfl
theorem me_non {j} : ME E X (.Constant .none j pos) (pure .non) := me_of pe_non fun g => by unfold RepT; rfl
theorem me_str {x : Str} {s : List Nat} {j} (h : x = sS s) : ME E X (.Constant (.str x) j pos) (pure (.str s)) := me_of pe_str fun g => by unfold RepT; rw [h]
/-- a module's constant -/
theorem me_glob {x : Str} {v : V} {u : Value} {t : T} (hg : Gl X x) (hm : X.mg x = some u) (r : RelV v u) (rt : ∀ g, RepT E.K g t v) (hd : (x == ("__debug__" : Str)) = false := by decide) : ME E X (.Name x pos) (pure t) := me_of (pe_glob hg hm r hd) rt

/-! ### operators by values -/
/-- the rule r gives f's value, nothing new laid -/
def LR2 (E : Ev) (r : R2) (f : T → T → Option T) : Prop := ∀ (g : Gh) (H : Hp) (t u s : T) (v w : V) (Q : VK), Same g.Z H → RepK E g H t v → RepK E g H u w → f t u = some s → (∀ x, RepT E.K g s x → Q x H) → r v w H Q
def eOp2 (f : T → T → Option T) (ma mb : M Rdr) : M T := do
  let ra ← ma
  let rb ← mb
  fun st => match ra st, rb st with
    | some a, some b => ofO (f a b) st
    | _, _ => none
/-- two readers, as they are read at the end -/
theorem at_rd2 {β : Type} {ra rb : Rdr} {f : T → T → M β} {Φ : β → Stt → Prop} {v w : V}
    (h : at_ E (fun st => match ra st, rb st with | some a, some b => f a b st | _, _ => none) g σ H Φ) (r1 : Reads E g H σ ra v) (r2 : Reads E g H σ rb w) :
    ∃ a b, RepK E g H a v ∧ RepK E g H b w ∧ at_ E (f a b) g σ H Φ := by
  obtain ⟨st, r, h⟩ := h
  unfold run at h
  cases e1 : ra st with
  | none => simp only [e1] at h
  | some a =>
    cases e2 : rb st with
    | none => simp only [e1, e2] at h
    | some b =>
      simp only [e1, e2] at h
      exact ⟨a, b, r1 g st H a r (Stp.refl _ _) e1, r2 g st H b r (Stp.refl _ _) e2, st, r, h⟩
theorem at_rd1 {β : Type} {ra : Rdr} {f : T → M β} {Φ : β → Stt → Prop} {v : V}
    (h : at_ E (fun st => match ra st with | some a => f a st | none => none) g σ H Φ) (r1 : Reads E g H σ ra v) :
    ∃ a, RepK E g H a v ∧ at_ E (f a) g σ H Φ := by
  obtain ⟨st, r, h⟩ := h
  unfold run at h
  cases e1 : ra st with
  | none => simp only [e1] at h
  | some a =>
    simp only [e1] at h
    exact ⟨a, r1 g st H a r (Stp.refl _ _) e1, st, r, h⟩
theorem at_zs {β : Type} {m : M β} {Φ : β → Stt → Prop} (h : at_ E m g σ H Φ) : Same g.Z H := let ⟨_, r, _⟩ := h; r.zs
theorem tOp_lift {r : R2} {f : T → T → Option T} {ta tb : TE} {ma mb : M Rdr} (hl : LR2 E r f) (ha : ∀ σ H Q, toM E ma σ H Q → ta σ H Q) (hb : ∀ σ H Q, toM E mb σ H Q → tb σ H Q) {Q : VK}
    (h : teM E (eOp2 f ma mb) σ H Q) : tOp r ta tb σ H Q := by
  obtain ⟨g, h⟩ := h
  refine ha _ _ _ (seqO st_okT h fun ra v g1 H1 s1 rd1 h1 => hb _ _ _ (seqO st_okT h1 fun rb w g2 H2 s2 rd2 h2 => ?_))
  obtain ⟨a, b, k1, k2, h3⟩ := at_rd2 h2 (rd1.step s2) rd2
  obtain ⟨s, st, e, rl, z⟩ := at_ofO h3
  exact hl g2 H2 a b s v w Q rl.zs k1 k2 e fun x rx => z g2 H2 rl (Stp.refl _ _) x rx
theorem me_op {op : Operator} {r : R2} {f : T → T → Option T} {a b : Expr} {ma mb : M Rdr} (ho : OpR X (binaryOp op) r) (hl : LR2 E r f) (ha : OE E X a ma) (hb : OE E X b mb) : ME E X (.BinOp a op b pos) (eOp2 f ma mb) :=
  ⟨PE.mono (pe_op ho ha.pe hb.pe) fun _ _ _ h => tOp_lift hl (fun _ _ _ z => z) (fun _ _ _ z => z) h⟩
theorem me_cmp {op : CmpOp} {r : R2} {f : T → T → Option T} {a b : Expr} {ma mb : M Rdr} (ho : OpR X (compareOp op) r) (hl : LR2 E r f) (ha : OE E X a ma) (hb : OE E X b mb) (hm : behindInMarks op b = false) : ME E X (.Compare a [op] [b] pos) (eOp2 f ma mb) :=
  ⟨PE.mono (pe_cmpR ho ha.pe hb.pe hm) fun _ _ _ h => tOp_lift hl (fun _ _ _ z => z) (fun _ _ _ z => z) h⟩
theorem me_ix {r : R2} {f : T → T → Option T} {a b : Expr} {ma mb : M Rdr} (ho : IxR X r) (hl : LR2 E r f) (ha : OE E X a ma) (hb : OE E X b mb) (hs : PlainIx b) : ME E X (.Subscript a b pos) (eOp2 f ma mb) :=
  ⟨PE.mono (pe_ix ho ha.pe hb.pe hs) fun _ _ _ h => tOp_lift hl (fun _ _ _ z => z) (fun _ _ _ z => z) h⟩
/-- a test by a value that is a bool -/
def asB (m : M T) : M Bool := do
  match ← m with
  | .bl b => pure b
  | _ => stuck
theorem RepT.bl_of {K : PySem.W.Frag} {b : Bool} {v : V} (h : RepT K g (.bl b) v) : v = .bl b := by unfold RepT at h; exact h
theorem asB_lift {m : M T} {Q : Bool → Hp → Prop} (h : ttM E (asB m) σ H Q) : teM E m σ H fun x H' => ∃ k, x = .bl k ∧ Q k H' := by
  obtain ⟨g, h⟩ := h
  refine seqT st_okB h fun t v g1 H1 s1 rt h1 => ?_
  cases t with
  | bl b =>
    obtain ⟨st, r, z⟩ := at_pure h1
    exact ⟨b, rt.bl_of, z g1 H1 r (Stp.refl _ _)⟩
  | _ => obtain ⟨_, _, z⟩ := h1; exact z.elim
theorem tm_val {e : Expr} {m : M T} (h : ME E X e m) (he : ∀ whole, isTrue e X.env whole = (do let v ← whole; standAt e.pos; holding [v] (truthy v)) := by intro _; rfl) : TM E X e (asB m) :=
  ⟨PT.mono (pt_val h.pe he) fun _ _ _ q => asB_lift q⟩
theorem tm_cmp {op : CmpOp} {r : R2} {f : T → T → Option T} {a b : Expr} {ma mb : M Rdr} (ho : OpR X (compareOp op) r) (hl : LR2 E r f) (ha : OE E X a ma) (hb : OE E X b mb) (hm : behindInMarks op b = false) : TM E X (.Compare a [op] [b] pos) (asB (eOp2 f ma mb)) :=
  ⟨PT.mono (pt_cmpR ho ha.pe hb.pe hm) fun σ H Q q => tOp_lift hl (fun _ _ _ z => z) (fun _ _ _ z => z) (asB_lift q)⟩
/-- a op b op' c -/
def eChain (f f' : T → T → Option T) (ma mb mc : M Rdr) : M T := do
  let ra ← ma
  let rb ← mb
  let z ← (fun st => match ra st, rb st with
    | some a, some b => ofO (f a b) st
    | _, _ => none : M T)
  match z with
  | .bl true => do
    let rc ← mc
    fun st => match rb st, rc st with
      | some b, some c => ofO (f' b c) st
      | _, _ => none
  | .bl false => pure (.bl false)
  | _ => stuck
theorem chain_lift {r r' : R2} {f f' : T → T → Option T} {ma mb mc : M Rdr} (hl : LR2 E r f) (hl' : LR2 E r' f') {Q : VK} (h : teM E (eChain f f' ma mb mc) σ H Q) : tChain r r' (toM E ma) (toM E mb) (toM E mc) σ H Q := by
  obtain ⟨g, h⟩ := h
  refine seqO st_okT h fun ra v g1 H1 s1 rd1 h1 => seqO st_okT h1 fun rb w g2 H2 s2 rd2 h2 => ?_
  obtain ⟨st, rl, h2⟩ := h2
  have h2 := run_bind h2
  unfold run at h2
  cases e1 : ra st with
  | none => simp only [e1] at h2
  | some a =>
    cases e2 : rb st with
    | none => simp only [e1, e2] at h2
    | some b =>
      simp only [e1, e2] at h2
      cases ef : f a b with
      | none => simp only [ef, ofO, stuck] at h2
      | some z =>
        simp only [ef, ofO, pure_def] at h2
        have k1 := rd1 g2 st H2 a rl s2 e1
        have k2 := rd2 g2 st H2 b rl (Stp.refl _ _) e2
        refine hl g2 H2 a b z v w _ rl.zs k1 k2 ef fun x rx => ?_
        cases z with
        | bl k =>
          cases k with
          | false => exact ⟨false, rx.bl_of, iteF (h2 g2 H2 rl (Stp.refl _ _) (.bl false) (by unfold RepT; rfl))⟩
          | true =>
            refine ⟨true, rx.bl_of, iteT ?_⟩
            have h3 : at_ E (mc >>= fun rc => (fun st => match rb st, rc st with | some b, some c => ofO (f' b c) st | _, _ => none : M T)) g2 σ H2 (okT E g2 H2 σ Q) := ⟨st, rl, h2⟩
            refine seqO st_okT h3 fun rc u g3 H3 s3 rd3 h4 => ?_
            obtain ⟨b', c', k3, k4, h5⟩ := at_rd2 h4 (rd2.step s3) rd3
            obtain ⟨s, st', e, rl', z⟩ := at_ofO h5
            exact hl' g3 H3 b' c' s w u Q rl'.zs k3 k4 e fun x rx => z g3 H3 rl' (Stp.refl _ _) x rx
        | _ => exact h2.elim
theorem me_chain {op op' : CmpOp} {r r' : R2} {f f' : T → T → Option T} {a b c : Expr} {ma mb mc : M Rdr} (ho : OpR X (compareOp op) r) (ho' : OpR X (compareOp op') r') (hl : LR2 E r f) (hl' : LR2 E r' f') (ha : OE E X a ma) (hb : OE E X b mb) (hc : OE E X c mc)
    (hm : lastMarks [op, op'] [b, c] = false := by with_unfolding_all rfl) : ME E X (.Compare a [op, op'] [b, c] pos) (eChain f f' ma mb mc) :=
  ⟨PE.mono (pe_chain ho ho' ha.pe hb.pe hc.pe hm) fun _ _ _ q => chain_lift hl hl' q⟩
theorem tm_chain {op op' : CmpOp} {r r' : R2} {f f' : T → T → Option T} {a b c : Expr} {ma mb mc : M Rdr} (ho : OpR X (compareOp op) r) (ho' : OpR X (compareOp op') r') (hl : LR2 E r f) (hl' : LR2 E r' f') (ha : OE E X a ma) (hb : OE E X b mb) (hc : OE E X c mc)
    (hm : lastMarks [op, op'] [b, c] = false := by with_unfolding_all rfl) : TM E X (.Compare a [op, op'] [b, c] pos) (asB (eChain f f' ma mb mc)) :=
  ⟨PT.mono (pt_chain ho ho' ha.pe hb.pe hc.pe hm) fun _ _ _ q => chain_lift hl hl' (asB_lift q)⟩

/-! ### not, and, or, if -/
def bNot (m : M Bool) : M Bool := do let b ← m; pure (!b)
def bAnd (m k : M Bool) : M Bool := do if ← m then k else pure false
def bOr (m k : M Bool) : M Bool := do if ← m then pure true else k
structure WM (E : Ev) (X : Cx) (e : Expr) (m : M Bool) : Prop where pw : PW X e (ttM E m)
theorem PW.mono {e : Expr} {t t' : TT} (h : PW X e t) (w : ∀ σ H Q, t' σ H Q → t σ H Q) : PW X e t' := ⟨fun wh pins s σ H Q I q => h.run wh pins s σ H Q I (w σ H Q q)⟩
theorem WM.tm {e : Expr} {m : M Bool} (h : WM E X e m) : TM E X e m := ⟨h.pw.pt⟩
theorem tm_not {a : Expr} {m : M Bool} (h : TM E X a m) : TM E X (.UnaryOp .Not a pos) (bNot m) :=
  ⟨PT.mono (pt_not h.pt) fun σ H Q ⟨g, q⟩ => seqB st_okB q fun b g1 H1 s1 h1 => by
    obtain ⟨st, r, z⟩ := at_pure h1
    exact z g1 H1 r (Stp.refl _ _)⟩
theorem wm_and1 {a : Expr} {m : M Bool} (h : TM E X a m) : WM E X (.BoolOp .And [a] pos) m := ⟨pw_and1 h.pt⟩
theorem wm_or1 {a : Expr} {m : M Bool} (h : TM E X a m) : WM E X (.BoolOp .Or [a] pos) m := ⟨pw_or1 h.pt⟩
theorem wm_and {a b : Expr} {rest : List Expr} {m k : M Bool} (ha : TM E X a m) (hb : WM E X (.BoolOp .And (b :: rest) pos) k) : WM E X (.BoolOp .And (a :: b :: rest) pos) (bAnd m k) :=
  ⟨PW.mono (pw_and ha.pt hb.pw) fun σ H Q ⟨g, q⟩ => seqB st_okB q fun c g1 H1 s1 h1 => by
    cases c with
    | true => exact iteT ⟨g1, h1⟩
    | false =>
      obtain ⟨st, r, z⟩ := at_pure h1
      exact iteF (z g1 H1 r (Stp.refl _ _))⟩
theorem wm_or {a b : Expr} {rest : List Expr} {m k : M Bool} (ha : TM E X a m) (hb : WM E X (.BoolOp .Or (b :: rest) pos) k) : WM E X (.BoolOp .Or (a :: b :: rest) pos) (bOr m k) :=
  ⟨PW.mono (pw_or ha.pt hb.pw) fun σ H Q ⟨g, q⟩ => seqB st_okB q fun c g1 H1 s1 h1 => by
    cases c with
    | false => exact iteF ⟨g1, h1⟩
    | true =>
      obtain ⟨st, r, z⟩ := at_pure h1
      exact iteT (z g1 H1 r (Stp.refl _ _))⟩
/-- .. as values, all but the last bools -/
def eNot (m : M T) : M T := do let b ← asB m; pure (.bl (!b))
def eAnd (m k : M T) : M T := do if ← asB m then k else pure (.bl false)
def eOr (m k : M T) : M T := do if ← asB m then pure (.bl true) else k
theorem at_asB {m : M T} {β : Type} {f : Bool → M β} {Φ : Gh → Hp → β → Stt → Prop} (hΦ : Steps Φ) (h : at_ E (asB m >>= f) g σ H (Φ g H)) {Q : VK}
    (k : ∀ b g1 H1, Stp g g1 H H1 → at_ E (f b) g1 σ H1 (Φ g1 H1) → ∃ c, V.bl b = .bl c ∧ Q (.bl c) H1) : teM E m σ H fun x H1 => ∃ c, x = .bl c ∧ Q (.bl c) H1 :=
  asB_lift (Q := fun c H1 => Q (.bl c) H1) (seqB hΦ h fun b g1 H1 s1 h1 => by
    obtain ⟨c, e, q⟩ := k b g1 H1 s1 h1
    cases e
    exact q)
theorem asB_seq {m : M T} {β : Type} {f : Bool → M β} {Φ : Gh → Hp → β → Stt → Prop} (hΦ : Steps Φ) (h : at_ E (asB m >>= f) g σ H (Φ g H)) {P : Bool → Hp → Prop}
    (k : ∀ b g1 H1, Stp g g1 H H1 → at_ E (f b) g1 σ H1 (Φ g1 H1) → P b H1) : teM E m σ H fun x H1 => ∃ c, x = .bl c ∧ P c H1 :=
  asB_lift (seqB hΦ h k)
theorem me_not {a : Expr} {m : M T} (h : ME E X a m) : ME E X (.UnaryOp .Not a pos) (eNot m) :=
  ⟨PE.mono (pe_not h.pe) fun σ H Q ⟨g, q⟩ => asB_seq st_okT q fun b g1 H1 s1 h1 => by
    obtain ⟨st, r, z⟩ := at_pure h1
    exact z g1 H1 r (Stp.refl _ _) _ (by unfold RepT; rfl)⟩
theorem me_one {op} {a : Expr} {m : M T} (h : ME E X a m) : ME E X (.BoolOp op [a] pos) m := ⟨pe_one h.pe⟩
theorem me_and {a b : Expr} {rest : List Expr} {m k : M T} (ha : ME E X a m) (hb : ME E X (.BoolOp .And (b :: rest) pos) k) : ME E X (.BoolOp .And (a :: b :: rest) pos) (eAnd m k) :=
  ⟨PE.mono (pe_and ha.pe hb.pe) fun σ H Q ⟨g, q⟩ => asB_seq st_okT q fun c g1 H1 s1 h1 => by
    cases c with
    | true => exact iteT ⟨g1, h1⟩
    | false =>
      obtain ⟨st, r, z⟩ := at_pure h1
      exact iteF (z g1 H1 r (Stp.refl _ _) _ (by unfold RepT; rfl))⟩
theorem me_or {a b : Expr} {rest : List Expr} {m k : M T} (ha : ME E X a m) (hb : ME E X (.BoolOp .Or (b :: rest) pos) k) : ME E X (.BoolOp .Or (a :: b :: rest) pos) (eOr m k) :=
  ⟨PE.mono (pe_or ha.pe hb.pe) fun σ H Q ⟨g, q⟩ => asB_seq st_okT q fun c g1 H1 s1 h1 => by
    cases c with
    | false => exact iteF ⟨g1, h1⟩
    | true =>
      obtain ⟨st, r, z⟩ := at_pure h1
      exact iteT (z g1 H1 r (Stp.refl _ _) _ (by unfold RepT; rfl))⟩
def eIf (c : M Bool) (a b : M T) : M T := do if ← c then a else b
theorem me_if {c a b : Expr} {mc : M Bool} {ma mb : M T} (hc : TM E X c mc) (ha : ME E X a ma) (hb : ME E X b mb) : ME E X (.IfExp c a b pos) (eIf mc ma mb) :=
  ⟨PE.mono (pe_ifExp hc.pt ha.pe hb.pe) fun σ H Q ⟨g, q⟩ => seqB st_okT q fun d g1 H1 s1 h1 => by
    cases d with
    | true => exact iteT ⟨g1, h1⟩
    | false => exact iteF ⟨g1, h1⟩⟩

/-! ### argument lists, displays -/
def aNil : M (List T) := pure []
def aCons (m : M T) (k : M (List T)) : M (List T) := do let t ← m; let ts ← k; pure (t :: ts)
theorem am_nil : AM E X [] aNil := ⟨PA.mono pa_nil fun σ H Q ⟨g, q⟩ => by
  obtain ⟨st, r, z⟩ := at_pure q
  exact z g H r (Stp.refl _ _) [] (by unfold RepL; rfl)⟩
theorem am_cons {e : Expr} {es : List Expr} {m : M T} {k : M (List T)} (ha : ME E X e m) (hr : AM E X es k) (hs : starEach (e :: es) X.env = (false, eval e X.env) :: starEach es X.env := by rfl) : AM E X (e :: es) (aCons m k) :=
  ⟨PA.mono (pa_cons ha.pe hr.pa hs) fun σ H Q ⟨g, q⟩ => seqT st_okL q fun t v g1 H1 s1 rt h1 => seqL st_okL h1 fun ts vs g2 H2 s2 rl h2 => by
    obtain ⟨st, r, z⟩ := at_pure h2
    exact z g2 H2 r (Stp.refl _ _) _ (by unfold RepL; exact ⟨v, vs, rfl, rt.step s2, rl⟩)⟩
theorem RepL.len {K : PySem.W.Frag} : ∀ {ts : List T} {xs : List V}, RepL K g ts xs → xs.length = ts.length
  | [], xs, h => by unfold RepL at h; rw [h]; rfl
  | t :: ts, xs, h => by
    unfold RepL at h
    obtain ⟨x, r, rfl, _, h⟩ := h
    rw [List.length_cons, List.length_cons, RepL.len h]
theorem thou {n : Nat} (h : n ≤ 1000) : n ≤ sizeLine := Nat.le_of_lt (small1000 h)
def eTup (m : M (List T)) : M T := do let ts ← m; if ts.length ≤ 1000 then pure (.tup ts) else stuck
def fLst (m : M (List T)) : M Ob := do let ts ← m; if ts.length ≤ 1000 then pure (.lst ts) else stuck
theorem rep_tup {ts : List T} {xs : List V} {p : Addr} (hp : H p = none) (zs : Same g.Z H) (r : RepL E.K g ts xs) : RepT E.K (g.frz p (.tup xs)) (.tup ts) (.ref p) := by
  unfold RepT
  exact ⟨p, xs, rfl, .inl (.inl upd_same), r.gstep ⟨Gh.frz_z (zs.free hp), Nat.le_refl _, fun _ _ => rfl⟩⟩
theorem rep_fz {ts : List T} {xs : List V} {p : Addr} (hp : H p = none) (zs : Same g.Z H) (r : RepL E.K g ts xs) : RepT E.K (g.frz p (.lst xs)) (.fz ts) (.ref p) := by
  unfold RepT
  exact ⟨p, xs, rfl, upd_same, r.gstep ⟨Gh.frz_z (zs.free hp), Nat.le_refl _, fun _ _ => rfl⟩⟩
/-- a new tuple -/
theorem new_tup {ts : List T} {xs : List V} {st : Stt} {Q : VK} (z : okT E g H σ Q (.tup ts) st) (r : Rel E.K g st σ H) (rl : RepL E.K g ts xs) : ∀ p, H p = none → Q (.ref p) (upd H p (.tup xs)) := fun p hp => by
  obtain ⟨r2, s2⟩ := r.frz (o := .tup xs) hp
  exact z _ _ r2 s2 _ (rep_tup hp r.zs rl)
theorem me_tup {es : List Expr} {m : M (List T)} {x1} (h : AM E X es m) : ME E X (.Tuple es x1 pos) (eTup m) :=
  ⟨PE.mono (pe_tup h.pa) fun σ H Q ⟨g, q⟩ => seqL st_okT q fun ts vs g1 H1 s1 rl h1 => by
    by_cases hz : ts.length ≤ 1000
    · rw [if_pos hz] at h1
      obtain ⟨st, r, z⟩ := at_pure h1
      exact ⟨by rw [rl.len]; exact thou hz, new_tup z r rl⟩
    · rw [if_neg hz] at h1
      obtain ⟨_, _, z⟩ := h1
      exact z.elim⟩
theorem fe_lst {es : List Expr} {m : M (List T)} (h : AM E X es m) : FE E X (.List es pos) (fLst m) :=
  ⟨PE.mono (pe_lst h.pa) fun σ H Q ⟨g, q⟩ => seqL st_okF q fun ts vs g1 H1 s1 rl h1 => by
    by_cases hz : ts.length ≤ 1000
    · rw [if_pos hz] at h1
      obtain ⟨st, r, z⟩ := at_pure h1
      exact ⟨by rw [rl.len]; exact thou hz, fun p hp => z g1 H1 r (Stp.refl _ _) p (.lst vs) hp ⟨vs, rfl, rl⟩⟩
    · rw [if_neg hz] at h1
      obtain ⟨_, _, z⟩ := h1
      exact z.elim⟩
/-- a fresh list that stands still -/
def eFz (m : M Ob) : M T := do
  match ← m with
  | .lst ts => pure (.fz ts)
  | _ => stuck
theorem FE.fz {e : Expr} {m : M Ob} (h : FE E X e m) : ME E X e (eFz m) :=
  ⟨PE.mono h.pe fun σ H Q ⟨g, q⟩ => ⟨g, seq_any (Φ := fun g H => okT E g H σ Q) st_okT q fun ob st1 k g1 H1 r1 s1 p o hp ro => by
    have h2 := k g1 H1 r1 s1
    cases ob with
    | lst ts =>
      obtain ⟨st, r, z⟩ := at_pure h2
      obtain ⟨xs, e, rl⟩ := ro
      cases e
      obtain ⟨r2, s2⟩ := r.frz (o := .lst xs) hp
      exact z _ _ r2 s2 _ (rep_fz hp r.zs rl)
    | _ => obtain ⟨_, _, z⟩ := h2; exact z.elim⟩⟩
end
end Sw
namespace Sw
open PySem PySem.Spec PyProof.Rows L2

section
variable {E : Ev} {g g1 : Gh} {H H1 : Hp} {σ : L2.St} {X : Cx} {pos : Pos}
theorem RepK.int_of {i : Int} {v : V} (h : RepK E g H (.int i) v) : v = .int i := by have h : RepT E.K g (.int i) v := h; unfold RepT at h; exact h
theorem RepK.bl_of {b : Bool} {v : V} (h : RepK E g H (.bl b) v) : v = .bl b := by have h : RepT E.K g (.bl b) v := h; unfold RepT at h; exact h
theorem RepK.str_of {s : List Nat} {v : V} (h : RepK E g H (.str s) v) : v = .str (sS s) := by have h : RepT E.K g (.str s) v := h; unfold RepT at h; exact h
theorem RepK.non_of {v : V} (h : RepK E g H .non v) : v = .non := by have h : RepT E.K g .non v := h; unfold RepT at h; exact h
theorem RepK.tup_of {ts : List T} {v : V} (h : RepK E g H (.tup ts) v) : ∃ a xs, v = .ref a ∧ SqT E.K g.Z a xs ∧ RepL E.K g ts xs := by have h : RepT E.K g (.tup ts) v := h; unfold RepT at h; exact h
theorem rt_int {K : PySem.W.Frag} (i : Int) : RepT K g (.int i) (.int i) := by unfold RepT; rfl
theorem rt_bl {K : PySem.W.Frag} (b : Bool) : RepT K g (.bl b) (.bl b) := by unfold RepT; rfl
theorem rt_str {K : PySem.W.Frag} (s : List Nat) : RepT K g (.str s) (.str (sS s)) := by unfold RepT; rfl
theorem rt_non {K : PySem.W.Frag} : RepT K g .non .non := by unfold RepT; rfl

/-! ### arithmetic -/
def iiO (c : Int → Int → Bool) (f : Int → Int → T) : T → T → Option T
  | .int i, .int j => if c i j then some (f i j) else none
  | _, _ => none
theorem lr_ii {C : Int → Int → Prop} {c : Int → Int → Bool} {f : Int → Int → V} {F : Int → Int → T} (hc : ∀ i j, c i j = true → C i j) (hf : ∀ (g : Gh) (K : PySem.W.Frag) i j, RepT K g (F i j) (f i j)) : LR2 E (rI C f) (iiO c F) := by
  intro g H t u s v w Q zs h1 h2 e q
  cases t <;> cases u <;> simp only [iiO] at e <;> try contradiction
  rename_i i j
  split at e
  · rename_i hq
    cases e
    rw [h1.int_of, h2.int_of]
    exact ⟨i, j, rfl, rfl, hc i j hq, q _ (hf g E.K i j)⟩
  · contradiction
theorem lr_ii0 {f : Int → Int → V} {F : Int → Int → T} (hf : ∀ (g : Gh) (K : PySem.W.Frag) i j, RepT K g (F i j) (f i j)) : LR2 E (rI0 f) (iiO (fun _ _ => true) F) := by
  intro g H t u s v w Q zs h1 h2 e q
  cases t <;> cases u <;> simp only [iiO] at e <;> try contradiction
  rename_i i j
  simp only [if_true] at e
  cases e
  rw [h1.int_of, h2.int_of]
  exact ⟨i, j, rfl, rfl, q _ (hf g E.K i j)⟩
def subO := iiO (fun _ _ => true) fun i j => .int (i - j)
theorem lr_sub : LR2 E (rI0 fun i j => .int (i - j)) subO := lr_ii0 fun _ _ _ _ => rt_int _
def mulC (i j : Int) : Bool := decide (-(2 ^ 64) < i ∧ i < 2 ^ 64) || decide (-(2 ^ 64) < j ∧ j < 2 ^ 64)
def modC (_ j : Int) : Bool := decide (0 < j)
def divC (_ j : Int) : Bool := decide (0 < j) && decide (j.natAbs.log2 < 9000)
def powC (i j : Int) : Bool := decide (0 ≤ j ∧ j ≤ 1000000 ∧ i.natAbs < 2 ^ 64)
def mulO := iiO mulC fun i j => .int (i * j)
def modO := iiO modC fun i j => .int (i % j)
def divO := iiO divC fun i j => .int (i / j)
def powO := iiO powC fun i j => .int (i ^ j.toNat)
theorem lr_mul : LR2 E (rI CMul fun i j => .int (i * j)) mulO := lr_ii (fun i j h => by
  unfold mulC at h
  rw [Bool.or_eq_true] at h
  rcases h with h | h
  · exact .inl (of_decide_eq_true h)
  · exact .inr (of_decide_eq_true h)) fun _ _ _ _ => rt_int _
theorem lr_mod : LR2 E (rI (fun _ j => 0 < j) fun i j => .int (i % j)) modO := lr_ii (fun i j h => of_decide_eq_true h) fun _ _ _ _ => rt_int _
theorem lr_div : LR2 E (rI CDivW fun i j => .int (i / j)) divO := lr_ii (fun i j h => by
  unfold divC at h
  rw [Bool.and_eq_true] at h
  exact ⟨of_decide_eq_true h.1, of_decide_eq_true h.2⟩) fun _ _ _ _ => rt_int _
theorem lr_pow : LR2 E (rI CPow fun i j => .int (i ^ j.toNat)) powO := lr_ii (fun i j h => by unfold powC at h; exact (of_decide_eq_true h : 0 ≤ j ∧ j ≤ 1000000 ∧ i.natAbs < 2 ^ 64)) fun _ _ _ _ => rt_int _
def ltO := iiO (fun _ _ => true) fun i j => .bl (decide (i < j))
def leO := iiO (fun _ _ => true) fun i j => .bl (decide (i ≤ j))
def gtO := iiO (fun _ _ => true) fun i j => .bl (decide (j < i))
def geO := iiO (fun _ _ => true) fun i j => .bl (decide (j ≤ i))
theorem lr_lt : LR2 E (rI0 fun i j => .bl (decide (i < j))) ltO := lr_ii0 fun _ _ _ _ => rt_bl _
theorem lr_le : LR2 E (rI0 fun i j => .bl (decide (i ≤ j))) leO := lr_ii0 fun _ _ _ _ => rt_bl _
theorem lr_gt : LR2 E (rI0 fun i j => .bl (decide (j < i))) gtO := lr_ii0 fun _ _ _ _ => rt_bl _
theorem lr_ge : LR2 E (rI0 fun i j => .bl (decide (j ≤ i))) geO := lr_ii0 fun _ _ _ _ => rt_bl _

theorem OpR.or {f : Value → Value → Sem Value} {r r' : R2} (h : OpR X f r) (h' : OpR X f r') : OpR X f (fun x y H Q => r x y H Q ∨ r' x y H Q) := by
  intro pins s σ H x y v u Q I rx ry q
  rcases q with q | q
  · exact h pins s σ H x y v u Q I rx ry q
  · exact h' pins s σ H x y v u Q I rx ry q
/-- ints, texts, tuples -/
def rAddS : R2 := fun x y H Q => ∃ i j, x = .str i ∧ y = .str j ∧ i.length + j.length ≤ sizeLine ∧ Q (.str (i ++ j)) H
def rAdd (K : PySem.W.Frag) : R2 := fun x y H Q => rI0 (fun i j => .int (i + j)) x y H Q ∨ rAddS x y H Q ∨ rCatA K x y H Q
theorem op_addA : OpR X (binaryOp .Add) (rAdd X.K) := OpR.or op_add (OpR.or op_add_str op_catA)
def addO : T → T → Option T
  | .int i, .int j => some (.int (i + j))
  | .str x, .str y => if x.length + y.length ≤ 1000000 then some (.str (x ++ y)) else none
  | _, _ => none
theorem sS_append (x y : List Nat) : sS x ++ sS y = sS (x ++ y) := by
  show (⟨x.toArray ++ y.toArray⟩ : Str) = ⟨(x ++ y).toArray⟩
  simp
theorem sS_len (x : List Nat) : (sS x).length = x.length := by
  show x.toArray.size = _
  simp
theorem mil {n : Nat} (h : n ≤ 1000000) : n ≤ sizeLine := by
  have : sizeLine = 16777216 := sizeLine_eq
  omega
theorem lr_add : LR2 E (rAdd E.K) addO := by
  intro g H t u s v w Q zs h1 h2 e q
  cases t <;> cases u <;> simp only [addO] at e <;> try contradiction
  · cases e
    rw [h1.int_of, h2.int_of]
    exact .inl ⟨_, _, rfl, rfl, q _ (rt_int _)⟩
  · split at e
    · rename_i hq
      cases e
      rw [h1.str_of, h2.str_of]
      refine .inr (.inl ⟨_, _, rfl, rfl, by rw [sS_len, sS_len]; exact mil hq, ?_⟩)
      rw [sS_append]
      exact q _ (rt_str _)
    · contradiction
def negO : T → Option T
  | .int i => some (.int (-i))
  | _ => none
def eNeg (m : M T) : M T := do
  match ← m with
  | .int i => pure (.int (-i))
  | _ => stuck
theorem me_neg {a : Expr} {m : M T} (h : ME E X a m) : ME E X (.UnaryOp .USub a pos) (eNeg m) :=
  ⟨PE.mono (pe_un un_neg h.pe) fun σ H Q ⟨g, q⟩ => seqT st_okT q fun t v g1 H1 s1 rt h1 => by
    cases t with
    | int i =>
      obtain ⟨st, r, z⟩ := at_pure h1
      exact ⟨i, (RepK.int_of (E := E) (g := g1) (H := H1) rt), z g1 H1 r (Stp.refl _ _) _ (rt_int _)⟩
    | _ => obtain ⟨_, _, z⟩ := h1; exact z.elim⟩

/-! ### comparisons of data -/
def eqT (t u : T) : Option T := (eqO t u).map .bl
def neT (t u : T) : Option T := (neO t u).map .bl
theorem lr_eq : LR2 E (rEqD E.K) eqT := by
  intro g H t u s v w Q zs h1 h2 e q
  unfold eqT eqO at e
  split at e
  · rename_i hq
    rw [Bool.and_eq_true] at hq
    cases e
    refine ⟨t.pd, u.pd, h1.dp zs hq.1, h2.dp zs hq.2, T.shaped hq.1 (by decide), T.shaped hq.2 (by decide), ?_⟩
    rw [T.eqv_pd hq.1 hq.2]
    exact q _ (rt_bl _)
  · contradiction
theorem lr_ne : LR2 E (rNeD E.K) neT := by
  intro g H t u s v w Q zs h1 h2 e q
  unfold neT neO at e
  split at e
  · rename_i hq
    rw [Bool.and_eq_true] at hq
    cases e
    refine ⟨t.pd, u.pd, h1.dp zs hq.1, h2.dp zs hq.2, T.shaped hq.1 (by decide), T.shaped hq.2 (by decide), ?_⟩
    rw [T.eqv_pd hq.1 hq.2]
    exact q _ (rt_bl _)
  · contradiction
/-- is None, is True -/
def isNO (t u : T) : Option T := match u with
  | .non => match t with
    | .non => some (.bl true)
    | _ => some (.bl false)
  | _ => none
def notNO (t u : T) : Option T := match u with
  | .non => match t with
    | .non => some (.bl false)
    | _ => some (.bl true)
  | _ => none
theorem RepK.ne_non {t : T} {v : V} (h : RepK E g H t v) (ht : t ≠ .non) : v ≠ .non := by
  cases t with
  | non => exact absurd rfl ht
  | bl b => rw [h.bl_of]; exact fun z => by cases z
  | int i => rw [h.int_of]; exact fun z => by cases z
  | str s => rw [h.str_of]; exact fun z => by cases z
  | ty n => have h : RepT E.K g (.ty n) v := h; unfold RepT at h; rw [h]; exact fun z => by cases z
  | tup ts => obtain ⟨a, xs, e, _⟩ := h.tup_of; rw [e]; exact fun z => by cases z
  | fz ts => obtain ⟨a, xs, e, _⟩ := h; rw [e]; exact fun z => by cases z
  | ref n => have h : RepT E.K g (.ref n) v := h; unfold RepT at h; rw [h.2]; exact fun z => by cases z
  | scr n => have h : RepT E.K g (.scr n) v := h; unfold RepT at h; obtain ⟨a, e, _⟩ := h; rw [e]; exact fun z => by cases z
  | dic ks vs => obtain ⟨a, kvs, e, _⟩ := h; rw [e]; exact fun z => by cases z
def rIsN : R2 := fun x y H Q => y = .non ∧ Q (.bl (decide (x = .non))) H
def rNotN : R2 := fun x y H Q => y = .non ∧ Q (.bl (!decide (x = .non))) H
theorem lr_isN : LR2 E rIsN isNO := by
  intro g H t u s v w Q zs h1 h2 e q
  cases u <;> simp only [isNO] at e <;> try contradiction
  refine ⟨h2.non_of, ?_⟩
  by_cases ht : t = .non
  · subst ht
    cases e
    rw [h1.non_of]
    exact q _ (rt_bl _)
  · rw [decide_eq_false (h1.ne_non ht)]
    have e' : s = .bl false := by
      cases t <;> first | exact absurd rfl ht | (simp only at e; cases e; rfl)
    rw [e'] at q
    exact q _ (rt_bl _)
theorem lr_notN : LR2 E rNotN notNO := by
  intro g H t u s v w Q zs h1 h2 e q
  cases u <;> simp only [notNO] at e <;> try contradiction
  refine ⟨h2.non_of, ?_⟩
  by_cases ht : t = .non
  · subst ht
    cases e
    rw [h1.non_of]
    exact q _ (rt_bl _)
  · rw [decide_eq_false (h1.ne_non ht)]
    have e' : s = .bl true := by
      cases t <;> first | exact absurd rfl ht | (simp only at e; cases e; rfl)
    rw [e'] at q
    exact q _ (rt_bl _)
def isBO (t u : T) : Option T := match t, u with
  | .bl a, .bl b => some (.bl (a == b))
  | _, _ => none
def notBO (t u : T) : Option T := match t, u with
  | .bl a, .bl b => some (.bl (!(a == b)))
  | _, _ => none
theorem lr_isB : LR2 E rIsB isBO := by
  intro g H t u s v w Q zs h1 h2 e q
  cases t <;> cases u <;> simp only [isBO] at e <;> try contradiction
  cases e
  rw [h1.bl_of, h2.bl_of]
  rename_i a b
  refine ⟨a, b, rfl, rfl, ?_⟩
  rw [show decide (a = b) = (a == b) by cases a <;> cases b <;> rfl]
  exact q _ (rt_bl _)
theorem lr_notB : LR2 E rNotB notBO := by
  intro g H t u s v w Q zs h1 h2 e q
  cases t <;> cases u <;> simp only [notBO] at e <;> try contradiction
  cases e
  rw [h1.bl_of, h2.bl_of]
  rename_i a b
  refine ⟨a, b, rfl, rfl, ?_⟩
  rw [show decide (a = b) = (a == b) by cases a <;> cases b <;> rfl]
  exact q _ (rt_bl _)
/-! ### in -/
def flatT : T → Bool
  | .non => true
  | .bl _ => true
  | .int _ => true
  | .str _ => true
  | _ => false
theorem RepK.flat {t : T} {v : V} (h : RepK E g H t v) (f : flatT t = true) : flatV v = true := by
  cases t <;> simp only [flatT] at f <;> try contradiction
  · rw [h.non_of]; rfl
  · rw [h.bl_of]; rfl
  · rw [h.int_of]; rfl
  · rw [h.str_of]; rfl
theorem flat_eqV {t u : T} {v w : V} (h1 : RepK E g H t v) (h2 : RepK E g H u w) (f1 : flatT t = true) (f2 : flatT u = true) : eqV v w = T.eqv t u := by
  cases t <;> simp only [flatT] at f1 <;> try contradiction
  all_goals (cases u <;> simp only [flatT] at f2 <;> try contradiction)
  all_goals (first | rw [h1.non_of] | rw [h1.bl_of] | rw [h1.int_of] | rw [h1.str_of])
  all_goals (first | rw [h2.non_of] | rw [h2.bl_of] | rw [h2.int_of] | rw [h2.str_of])
  all_goals (simp only [eqV, T.eqv] <;> try rfl)
  exact sS_eq
theorem RepL.flat (zs : Same g.Z H) : ∀ {ts : List T} {xs : List V}, RepL E.K g ts xs → ts.all flatT = true → xs.all flatV = true
  | [], xs, h, _ => by unfold RepL at h; rw [h]; rfl
  | t :: ts, xs, h, f => by
    rw [List.all_cons, Bool.and_eq_true] at f
    unfold RepL at h
    obtain ⟨x, r, rfl, h1, h2⟩ := h
    rw [List.all_cons, RepK.flat (E := E) (H := H) (RepT.k zs h1) f.1, RepL.flat zs h2 f.2]
    rfl
theorem RepL.inV (zs : Same g.Z H) {t : T} {v : V} (ht : RepK E g H t v) (ft : flatT t = true) : ∀ {ts : List T} {xs : List V}, RepL E.K g ts xs → ts.all flatT = true → inV v xs = ts.any fun z => T.eqv z t
  | [], xs, h, _ => by unfold RepL at h; rw [h]; rfl
  | u :: ts, xs, h, f => by
    rw [List.all_cons, Bool.and_eq_true] at f
    unfold RepL at h
    obtain ⟨x, r, rfl, h1, h2⟩ := h
    have ih := RepL.inV zs ht ft h2 f.2
    unfold L2.inV at ih ⊢
    rw [List.any_cons, List.any_cons, ih, flat_eqV (E := E) (H := H) (RepT.k zs h1) ht f.1 ft]
def rInS : R2 := fun x y H Q => ∃ (c : Nat) (z : Str), x = .str ⟨#[c]⟩ ∧ y = .str z ∧ Q (.bl (decide (c ∈ z.cps.toList))) H
def rNinS : R2 := fun x y H Q => ∃ (c : Nat) (z : Str), x = .str ⟨#[c]⟩ ∧ y = .str z ∧ Q (.bl (!decide (c ∈ z.cps.toList))) H
def rInA (K : PySem.W.Frag) : R2 := fun x y H Q => rInD K x y H Q ∨ rIn K false x y H Q ∨ rInS x y H Q
def rNinA (K : PySem.W.Frag) : R2 := fun x y H Q => rNotInD K x y H Q ∨ rIn K true x y H Q ∨ rNinS x y H Q
theorem op_inA (hu : X.A.units + 65 < cLine) : OpR X (compareOp .In) (rInA X.K) := OpR.or (op_inD hu) (OpR.or op_in_seq op_in_sign)
theorem op_ninA (hu : X.A.units + 65 < cLine) : OpR X (compareOp .NotIn) (rNinA X.K) := OpR.or (op_notInD hu) (OpR.or op_notIn_seq op_notIn_sign)
/-- x in a list of data, in a tuple of flat things, one sign in a text -/
def inB (t u : T) : Option Bool := match u with
  | .fz us => if t.dat 60 && T.dats 59 us then some (us.any fun z => T.eqv z t) else none
  | .tup us => if flatT t && us.all flatT then some (us.any fun z => T.eqv z t) else none
  | .str s => match t with
    | .str [c] => some (decide (c ∈ s))
    | _ => none
  | _ => none
def inT (t u : T) : Option T := (inB t u).map .bl
def ninT (t u : T) : Option T := (inB t u).map fun b => .bl (!b)
theorem any_pd {n m : Nat} {t : T} (ht : t.dat m = true) : ∀ {us : List T}, T.dats n us = true → ((T.pds us).any fun z => PyData.eqv z t.pd) = us.any fun z => T.eqv z t
  | [], _ => rfl
  | u :: us, h => by
    have h : u.dat n = true ∧ T.dats n us = true := by simpa [T.dats] using h
    unfold T.pds
    rw [List.any_cons, List.any_cons, any_pd ht h.2, T.eqv_pd h.1 ht]
theorem lr_in : LR2 E (rInA E.K) inT := by
  intro g H t u s v w Q zs h1 h2 e q
  unfold inT inB at e
  cases u <;> (try simp only [Option.map_none] at e) <;> try contradiction
  · rename_i z
    cases t <;> (try simp only [Option.map_none] at e) <;> try contradiction
    rename_i y
    match y, e with
    | [c], e =>
      simp only [Option.map_some] at e
      cases e
      rw [h1.str_of, h2.str_of]
      refine .inr (.inr ⟨c, sS z, rfl, rfl, ?_⟩)
      exact q _ (by have : (sS z).cps.toList = z := by simp [sS]
                    rw [this]; exact rt_bl _)
    | [], e => simp at e
    | _ :: _ :: _, e => simp at e
  · rename_i us
    split at e
    · rename_i hq
      rw [Bool.and_eq_true] at hq
      cases e
      obtain ⟨a, xs, rfl, hs, rl⟩ := h2.tup_of
      refine .inr (.inl ⟨a, xs, rfl, .inr (sameT zs hs), h1.flat hq.1, rl.flat zs hq.2, ?_⟩)
      rw [if_neg (by decide), rl.inV zs h1 hq.1 hq.2]
      exact q _ (rt_bl _)
    · contradiction
  · rename_i us
    split at e
    · rename_i hq
      rw [Bool.and_eq_true] at hq
      cases e
      have hd : (T.fz us).dat 60 = true := by unfold T.dat; exact hq.2
      refine .inl ⟨t.pd, T.pds us, h1.dp zs hq.1, h2.dp zs hd, T.shaped hq.1 (by decide), T.shaped hd (by decide), ?_⟩
      rw [any_pd hq.1 hq.2]
      exact q _ (rt_bl _)
    · contradiction
theorem lr_nin : LR2 E (rNinA E.K) ninT := by
  intro g H t u s v w Q zs h1 h2 e q
  unfold ninT inB at e
  cases u <;> (try simp only [Option.map_none] at e) <;> try contradiction
  · rename_i z
    cases t <;> (try simp only [Option.map_none] at e) <;> try contradiction
    rename_i y
    match y, e with
    | [c], e =>
      simp only [Option.map_some] at e
      cases e
      rw [h1.str_of, h2.str_of]
      refine .inr (.inr ⟨c, sS z, rfl, rfl, ?_⟩)
      exact q _ (by have : (sS z).cps.toList = z := by simp [sS]
                    rw [this]; exact rt_bl _)
    | [], e => simp at e
    | _ :: _ :: _, e => simp at e
  · rename_i us
    split at e
    · rename_i hq
      rw [Bool.and_eq_true] at hq
      cases e
      obtain ⟨a, xs, rfl, hs, rl⟩ := h2.tup_of
      refine .inr (.inl ⟨a, xs, rfl, .inr (sameT zs hs), h1.flat hq.1, rl.flat zs hq.2, ?_⟩)
      rw [if_pos rfl, rl.inV zs h1 hq.1 hq.2]
      exact q _ (rt_bl _)
    · contradiction
  · rename_i us
    split at e
    · rename_i hq
      rw [Bool.and_eq_true] at hq
      cases e
      have hd : (T.fz us).dat 60 = true := by unfold T.dat; exact hq.2
      refine .inl ⟨t.pd, T.pds us, h1.dp zs hq.1, h2.dp zs hd, T.shaped hq.1 (by decide), T.shaped hd (by decide), ?_⟩
      rw [any_pd hq.1 hq.2]
      exact q _ (rt_bl _)
    · contradiction

/-! ### items, slices -/
theorem RepL.get {K : PySem.W.Frag} : ∀ {ts : List T} {xs : List V} {i : Nat} {t : T}, RepL K g ts xs → ts[i]? = some t → ∃ x, xs[i]? = some x ∧ RepT K g t x
  | [], _, i, t, _, e => by simp at e
  | u :: ts, xs, i, t, h, e => by
    unfold RepL at h
    obtain ⟨x, r, rfl, h1, h2⟩ := h
    cases i with
    | zero =>
      rw [List.getElem?_cons_zero] at e
      cases e
      exact ⟨x, rfl, h1⟩
    | succ i =>
      rw [List.getElem?_cons_succ] at e
      rw [List.getElem?_cons_succ]
      exact RepL.get h2 e
theorem RepL.at_ {K : PySem.W.Frag} {ts : List T} {xs : List V} {i : Int} {t : T} (h : RepL K g ts xs) (e : atI ts i = some t) : ∃ x, atI xs i = some x ∧ RepT K g t x := by
  unfold atI at e ⊢
  rw [h.len]
  cases q : ixN ts.length i with
  | none => rw [q] at e; cases e
  | some j =>
    rw [q] at e
    exact h.get e
theorem RepL.drop {K : PySem.W.Frag} : ∀ {ts : List T} {xs : List V} (n : Nat), RepL K g ts xs → RepL K g (ts.drop n) (xs.drop n)
  | ts, xs, 0, h => h
  | [], xs, n + 1, h => by unfold RepL at h; rw [h]; simp; unfold RepL; rfl
  | t :: ts, xs, n + 1, h => by
    unfold RepL at h
    obtain ⟨x, r, rfl, _, h⟩ := h
    exact RepL.drop n h
theorem RepL.take {K : PySem.W.Frag} : ∀ {ts : List T} {xs : List V} (n : Nat), RepL K g ts xs → RepL K g (ts.take n) (xs.take n)
  | ts, xs, 0, h => by simp; unfold RepL; rfl
  | [], xs, n + 1, h => by unfold RepL at h; rw [h]; simp; unfold RepL; rfl
  | t :: ts, xs, n + 1, h => by
    unfold RepL at h
    obtain ⟨x, r, rfl, h1, h⟩ := h
    rw [List.take_succ_cons, List.take_succ_cons]
    unfold RepL
    exact ⟨x, _, rfl, h1, RepL.take n h⟩
theorem RepL.app {K : PySem.W.Frag} : ∀ {ts us : List T} {xs ys : List V}, RepL K g ts xs → RepL K g us ys → RepL K g (ts ++ us) (xs ++ ys)
  | [], us, xs, ys, h, h' => by unfold RepL at h; rw [h]; exact h'
  | t :: ts, us, xs, ys, h, h' => by
    unfold RepL at h
    obtain ⟨x, r, rfl, h1, h⟩ := h
    rw [List.cons_append, List.cons_append]
    unfold RepL
    exact ⟨x, _, rfl, h1, RepL.app h h'⟩
theorem RepL.nil {K : PySem.W.Frag} : RepL K g [] [] := by unfold RepL; rfl
theorem RepL.one {K : PySem.W.Frag} {t : T} {x : V} (h : RepT K g t x) : RepL K g [t] [x] := by unfold RepL; exact ⟨x, [], rfl, h, .nil⟩
theorem RepL.rev {K : PySem.W.Frag} : ∀ {ts : List T} {xs : List V}, RepL K g ts xs → RepL K g ts.reverse xs.reverse
  | [], xs, h => by unfold RepL at h; rw [h]; exact .nil
  | t :: ts, xs, h => by
    unfold RepL at h
    obtain ⟨x, r, rfl, h1, h⟩ := h
    rw [List.reverse_cons, List.reverse_cons]
    exact (RepL.rev h).app (.one h1)
def ixO (t u : T) : Option T := match u with
  | .int i => match t with
    | .fz ts => atI ts i
    | .tup ts => atI ts i
    | .str s => if s.length ≤ 1000000 then (atI s i).map fun c => .str [c] else none
    | _ => none
  | _ => none
theorem lr_ix : LR2 E (rIx E.K) ixO := by
  intro g H t u s v w Q zs h1 h2 e q
  cases u <;> simp only [ixO] at e <;> try contradiction
  rename_i i
  rw [h2.int_of]
  cases t <;> simp only at e <;> try contradiction
  · rename_i z
    split at e
    · rename_i hz
      cases ea : atI z i with
      | none => rw [ea] at e; cases e
      | some c =>
        rw [ea] at e
        cases e
        rw [h1.str_of]
        have : (sS z).cps.toList = z := by simp [sS]
        exact .inr (.inr ⟨sS z, i, c, rfl, rfl, by rw [sS_len]; exact mil hz, by rw [this]; exact ea, q _ (rt_str _)⟩)
    · contradiction
  · rename_i ts
    obtain ⟨a, xs, rfl, hs, rl⟩ := h1.tup_of
    obtain ⟨x, ex, rx⟩ := rl.at_ e
    exact .inr (.inl ⟨a, xs, i, x, rfl, rfl, sameT zs hs, ex, q _ rx⟩)
  · rename_i ts
    obtain ⟨a, xs, rfl, hs, rl⟩ := h1
    obtain ⟨x, ex, rx⟩ := rl.at_ e
    exact .inl ⟨a, xs, i, x, rfl, rfl, .inl (.inl hs), ex, q _ rx⟩
end
end Sw
namespace Sw
open PySem PySem.Spec PyProof.Rows L2

section
variable {E : Ev} {g g1 : Gh} {H H1 : Hp} {σ : L2.St} {X : Cx} {pos : Pos}
/-! ### calls of what is built in: arguments as readers -/
def ReadsL (E : Ev) (g : Gh) (H : Hp) (σ : L2.St) : List Rdr → List V → Prop
  | [], vs => vs = []
  | r :: rs, vs => ∃ v ws, vs = v :: ws ∧ Reads E g H σ r v ∧ ReadsL E g H σ rs ws
theorem ReadsL.step (s : Stp g g1 H H1) : ∀ {rs : List Rdr} {vs : List V}, ReadsL E g H σ rs vs → ReadsL E g1 H1 σ rs vs
  | [], _, h => h
  | r :: rs, _, ⟨v, ws, e, a, b⟩ => ⟨v, ws, e, a.step s, ReadsL.step s b⟩
def okRL (E : Ev) (g : Gh) (H : Hp) (σ : L2.St) (Q : List V → Hp → Prop) (rs : List Rdr) (st' : Stt) : Prop := beh E g H σ st' fun g' H' => ∀ vs, ReadsL E g' H' σ rs vs → Q vs H'
def tolM (E : Ev) (m : M (List Rdr)) : TA := fun σ H Q => ∃ g, at_ E m g σ H (okRL E g H σ Q)
structure OA (E : Ev) (X : Cx) (e : List Expr) (m : M (List Rdr)) : Prop where pa : PA X e (tolM E m)
theorem st_okRL {Q : List V → Hp → Prop} : Steps (fun g H => okRL E g H σ Q) := fun _ _ _ _ _ _ s h => beh.step s h
theorem seqRL {β : Type} {m : M (List Rdr)} {f : List Rdr → M β} {Φ : Gh → Hp → β → Stt → Prop} (hΦ : Steps Φ) {Q : List V → Hp → Prop} (h : at_ E (m >>= f) g σ H (Φ g H))
    (k : ∀ t v g1 H1, Stp g g1 H H1 → ReadsL E g1 H1 σ t v → at_ E (f t) g1 σ H1 (Φ g1 H1) → Q v H1) : tolM E m σ H Q :=
  ⟨g, seq_any hΦ h fun t st1 q g1 H1 r1 s1 v rv => k t v g1 H1 s1 rv (q g1 H1 r1 s1)⟩
def oNil : M (List Rdr) := pure []
def oCons (m : M Rdr) (k : M (List Rdr)) : M (List Rdr) := do let t ← m; let ts ← k; pure (t :: ts)
theorem oa_nil : OA E X [] oNil := ⟨PA.mono pa_nil fun σ H Q ⟨g, q⟩ => by
  obtain ⟨st, r, z⟩ := at_pure q
  exact z g H r (Stp.refl _ _) [] rfl⟩
theorem oa_cons {e : Expr} {es : List Expr} {m : M Rdr} {k : M (List Rdr)} (ha : OE E X e m) (hr : OA E X es k) (hs : starEach (e :: es) X.env = (false, eval e X.env) :: starEach es X.env := by rfl) : OA E X (e :: es) (oCons m k) :=
  ⟨PA.mono (pa_cons ha.pe hr.pa hs) fun σ H Q ⟨g, q⟩ => seqO st_okRL q fun t v g1 H1 s1 rt h1 => seqRL st_okRL h1 fun ts vs g2 H2 s2 rl h2 => by
    obtain ⟨st, r, z⟩ := at_pure h2
    exact z g2 H2 r (Stp.refl _ _) _ ⟨v, vs, rfl, rt.step s2, rl⟩⟩
def rdAll : List Rdr → Stt → Option (List T)
  | [], _ => some []
  | r :: rs, st => match r st, rdAll rs st with
    | some t, some ts => some (t :: ts)
    | _, _ => none
def RepKs (E : Ev) (g : Gh) (H : Hp) : List T → List V → Prop
  | [], vs => vs = []
  | t :: ts, vs => ∃ v ws, vs = v :: ws ∧ RepK E g H t v ∧ RepKs E g H ts ws
theorem ReadsL.rep {st : Stt} (r : Rel E.K g st σ H) : ∀ {rs : List Rdr} {vs : List V} {ts : List T}, ReadsL E g H σ rs vs → rdAll rs st = some ts → RepKs E g H ts vs
  | [], vs, ts, h, e => by cases e; exact h
  | rd :: rs, vs, ts, ⟨v, ws, ev, a, b⟩, e => by
    unfold rdAll at e
    cases e1 : rd st with
    | none => rw [e1] at e; cases e
    | some t =>
      cases e2 : rdAll rs st with
      | none => rw [e1, e2] at e; cases e
      | some us =>
        rw [e1, e2] at e
        cases e
        exact ⟨v, ws, ev, a g st H t r (Stp.refl _ _) e1, ReadsL.rep r b e2⟩
def rdM {α : Type} (rs : List Rdr) (f : List T → M α) : M α := fun st => match rdAll rs st with
  | some ts => f ts st
  | none => none
theorem at_rdM {α : Type} {rs : List Rdr} {f : List T → M α} {vs : List V} {Φ : α → Stt → Prop} (h : at_ E (rdM rs f) g σ H Φ) (r : ReadsL E g H σ rs vs) : ∃ ts, RepKs E g H ts vs ∧ at_ E (f ts) g σ H Φ := by
  obtain ⟨st, rl, h⟩ := h
  unfold run rdM at h
  cases e : rdAll rs st with
  | none => rw [e] at h; exact h.elim
  | some ts =>
    rw [e] at h
    exact ⟨ts, r.rep rl e, st, rl, h⟩
/-- a rule of a call: what f gives, nothing new laid -/
def LRC (E : Ev) (r : List V → Hp → VK → Prop) (f : List T → Option T) : Prop := ∀ (g : Gh) (H : Hp) (ts : List T) (s : T) (vs : List V) (Q : VK), Same g.Z H → RepKs E g H ts vs → f ts = some s → (∀ x, RepT E.K g s x → Q x H) → r vs H Q
/-- .. a new list -/
def LRF (E : Ev) (r : List V → Hp → VK → Prop) (f : List T → Option (List T)) : Prop := ∀ (g : Gh) (H : Hp) (ts us : List T) (vs : List V) (Q : VK), Same g.Z H → RepKs E g H ts vs → f ts = some us → (∀ p xs, H p = none → RepL E.K g us xs → Q (.ref p) (upd H p (.lst xs))) → r vs H Q
def eCall (f : List T → Option T) (m : M (List Rdr)) : M T := do let rs ← m; rdM rs fun ts => ofO (f ts)
def fCall (f : List T → Option (List T)) (m : M (List Rdr)) : M Ob := do let rs ← m; rdM rs fun ts => ofO ((f ts).map .lst)
theorem tCB_lift {r : List V → Hp → VK → Prop} {f : List T → Option T} {m : M (List Rdr)} (hl : LRC E r f) {Q : VK} (h : teM E (eCall f m) σ H Q) : tCB r (tolM E m) σ H Q := by
  obtain ⟨g, q⟩ := h
  refine seqRL st_okT q fun rs vs g1 H1 s1 rl h1 => ?_
  obtain ⟨ts, rk, h2⟩ := at_rdM h1 rl
  obtain ⟨s, st, e, r', z⟩ := at_ofO h2
  exact hl g1 H1 ts s vs Q r'.zs rk e fun x rx => z g1 H1 r' (Stp.refl _ _) x rx
theorem tCBF_lift {r : List V → Hp → VK → Prop} {f : List T → Option (List T)} {m : M (List Rdr)} (hl : LRF E r f) {Q : VK} (h : tfM E (fCall f m) σ H Q) : tCB r (tolM E m) σ H Q := by
  obtain ⟨g, q⟩ := h
  refine seqRL st_okF q fun rs vs g1 H1 s1 rl h1 => ?_
  obtain ⟨ts, rk, h2⟩ := at_rdM h1 rl
  obtain ⟨s, st, e, r', z⟩ := at_ofO h2
  cases ef : f ts with
  | none => rw [ef] at e; cases e
  | some us =>
    rw [ef] at e
    cases e
    exact hl g1 H1 ts us vs Q r'.zs rk ef fun p xs hp rx => z g1 H1 r' (Stp.refl _ _) p _ hp ⟨xs, rfl, rx⟩
section
variable {x : Str} {p : Pos} {e : Expr} {es : List Expr} {id Ty : String} {r : List V → Hp → VK → Prop}
theorem me_callB {f : List T → Option T} {m : M (List Rdr)} (hc : CallR X (.builtin id) r) (hl : LRC E r f) (hg : Gl X x) (hm : X.mg x = none) (hv : bootBuiltins x = some (.builtin id)) (ha : OA E X (e :: es) m) (hn : x ≠ "__name__" := by decide) (hdb : (x == ("__debug__" : Str)) = false := by decide)
    (he : starEach (e :: es) X.env = (false, eval e X.env) :: starEach es X.env := by rfl) (hpl : (backTo pos (starEach es X.env)).any (·.1) = false := by rfl) : ME E X (.Call (.Name x p) (e :: es) [] pos) (eCall f m) :=
  ⟨PE.mono (pe_callB hc hg hm hv ha.pa hn hdb he hpl) fun _ _ _ q => tCB_lift hl q⟩
theorem me_callTy {f : List T → Option T} {m : M (List Rdr)} (hc : CallR X (.type Ty) r) (hl : LRC E r f) (hg : Gl X x) (hm : X.mg x = none) (hv : bootBuiltins x = some (.type Ty)) (ha : OA E X (e :: es) m) (hn : x ≠ "__name__" := by decide) (hdb : (x == ("__debug__" : Str)) = false := by decide)
    (he : starEach (e :: es) X.env = (false, eval e X.env) :: starEach es X.env := by rfl) (hpl : (backTo pos (starEach es X.env)).any (·.1) = false := by rfl) : ME E X (.Call (.Name x p) (e :: es) [] pos) (eCall f m) :=
  ⟨PE.mono (pe_callTy hc hg hm hv ha.pa hn hdb he hpl) fun _ _ _ q => tCB_lift hl q⟩
theorem fe_callTy {f : List T → Option (List T)} {m : M (List Rdr)} (hc : CallR X (.type Ty) r) (hl : LRF E r f) (hg : Gl X x) (hm : X.mg x = none) (hv : bootBuiltins x = some (.type Ty)) (ha : OA E X (e :: es) m) (hn : x ≠ "__name__" := by decide) (hdb : (x == ("__debug__" : Str)) = false := by decide)
    (he : starEach (e :: es) X.env = (false, eval e X.env) :: starEach es X.env := by rfl) (hpl : (backTo pos (starEach es X.env)).any (·.1) = false := by rfl) : FE E X (.Call (.Name x p) (e :: es) [] pos) (fCall f m) :=
  ⟨PE.mono (pe_callTy hc hg hm hv ha.pa hn hdb he hpl) fun _ _ _ q => tCBF_lift hl q⟩
theorem fe_callB {f : List T → Option (List T)} {m : M (List Rdr)} (hc : CallR X (.builtin id) r) (hl : LRF E r f) (hg : Gl X x) (hm : X.mg x = none) (hv : bootBuiltins x = some (.builtin id)) (ha : OA E X (e :: es) m) (hn : x ≠ "__name__" := by decide) (hdb : (x == ("__debug__" : Str)) = false := by decide)
    (he : starEach (e :: es) X.env = (false, eval e X.env) :: starEach es X.env := by rfl) (hpl : (backTo pos (starEach es X.env)).any (·.1) = false := by rfl) : FE E X (.Call (.Name x p) (e :: es) [] pos) (fCall f m) :=
  ⟨PE.mono (pe_callB hc hg hm hv ha.pa hn hdb he hpl) fun _ _ _ q => tCBF_lift hl q⟩
end
theorem RepKs.one {t : T} {vs : List V} (h : RepKs E g H [t] vs) : ∃ v, vs = [v] ∧ RepK E g H t v := by
  obtain ⟨v, ws, e, a, b⟩ := h
  cases b
  exact ⟨v, e, a⟩
theorem RepKs.two {t u : T} {vs : List V} (h : RepKs E g H [t, u] vs) : ∃ v w, vs = [v, w] ∧ RepK E g H t v ∧ RepK E g H u w := by
  obtain ⟨v, ws, e, a, b⟩ := h
  obtain ⟨w, e2, c⟩ := b.one
  subst e2
  exact ⟨v, w, e, a, c⟩
/-! len, int, all, any, list, tuple, isinstance -/
def lenO : List T → Option T
  | [.str s] => if s.length ≤ 1000000 then some (.int s.length) else none
  | [.fz ts] => some (.int ts.length)
  | [.tup ts] => some (.int ts.length)
  | _ => none
theorem lr_len : LRC E (fun xs H Q => ∃ x n, xs = [x] ∧ LenV E.K x H n ∧ Q (.int n) H) lenO := by
  intro g H ts s vs Q zs rk e q
  match ts, e with
  | [.str z], e =>
    simp only [lenO] at e
    split at e
    · rename_i hz
      cases e
      obtain ⟨v, rfl, rv⟩ := rk.one
      rw [rv.str_of]
      exact ⟨_, z.length, rfl, ⟨by rw [sS_len]; exact mil hz, by rw [sS_len]⟩, q _ (rt_int _)⟩
    · contradiction
  | [.fz us], e =>
    simp only [lenO] at e
    cases e
    obtain ⟨v, rfl, rv⟩ := rk.one
    obtain ⟨a, xs, rfl, ha, rl⟩ := rv
    exact ⟨_, us.length, rfl, .inl ⟨xs, .inl (.inl ha), rl.len.symm⟩, q _ (rt_int _)⟩
  | [.tup us], e =>
    simp only [lenO] at e
    cases e
    obtain ⟨v, rfl, rv⟩ := rk.one
    obtain ⟨a, xs, rfl, ha, rl⟩ := rv.tup_of
    exact ⟨_, us.length, rfl, .inr ⟨xs, sameT zs ha, rl.len.symm⟩, q _ (rt_int _)⟩
def intO : List T → Option T
  | [.int i] => some (.int i)
  | [.bl b] => some (.int (if b then 1 else 0))
  | _ => none
theorem lr_int : LRC E (fun xs H Q => (∃ i, xs = [.int i] ∧ Q (.int i) H) ∨ ∃ k, xs = [.bl k] ∧ Q (.int (if k then 1 else 0)) H) intO := by
  intro g H ts s vs Q zs rk e q
  match ts, e with
  | [.int i], e =>
    simp only [intO] at e
    cases e
    obtain ⟨v, rfl, rv⟩ := rk.one
    rw [rv.int_of]
    exact .inl ⟨i, rfl, q _ (rt_int _)⟩
  | [.bl b], e =>
    simp only [intO] at e
    cases e
    obtain ⟨v, rfl, rv⟩ := rk.one
    rw [rv.bl_of]
    exact .inr ⟨b, rfl, q _ (rt_int _)⟩
def blsOf : List T → Option (List Bool)
  | [] => some []
  | .bl b :: ts => (blsOf ts).map (b :: ·)
  | _ => none
theorem RepL.bls {K : PySem.W.Frag} : ∀ {ts : List T} {xs : List V} {bs : List Bool}, RepL K g ts xs → blsOf ts = some bs → xs = bs.map V.bl
  | [], xs, bs, h, e => by unfold RepL at h; unfold blsOf at e; cases e; exact h
  | t :: ts, xs, bs, h, e => by
    unfold RepL at h
    obtain ⟨x, r, rfl, h1, h2⟩ := h
    cases t with
    | bl b =>
      unfold blsOf at e
      cases q : blsOf ts with
      | none => rw [q] at e; cases e
      | some cs =>
        rw [q] at e
        have e' : b :: cs = bs := Option.some.inj e
        rw [← e', RepL.bls h2 q, RepT.bl_of h1]
        rfl
    | _ => simp [blsOf] at e
def allO : List T → Option T
  | [.fz ts] => (blsOf ts).map fun bs => .bl (bs.all id)
  | _ => none
def anyO : List T → Option T
  | [.fz ts] => (blsOf ts).map fun bs => .bl (bs.any id)
  | _ => none
theorem lr_all : LRC E (rAll E.K) allO := by
  intro g H ts s vs Q zs rk e q
  match ts, e with
  | [.fz us], e =>
    simp only [allO] at e
    cases eb : blsOf us with
    | none => rw [eb] at e; cases e
    | some bs =>
      rw [eb] at e
      cases e
      obtain ⟨v, rfl, rv⟩ := rk.one
      obtain ⟨a, xs, rfl, ha, rl⟩ := rv
      rw [rl.bls eb] at ha
      exact ⟨a, bs, rfl, .inl (.inl ha), q _ (rt_bl _)⟩
theorem lr_any : LRC E (rAny E.K) anyO := by
  intro g H ts s vs Q zs rk e q
  match ts, e with
  | [.fz us], e =>
    simp only [anyO] at e
    cases eb : blsOf us with
    | none => rw [eb] at e; cases e
    | some bs =>
      rw [eb] at e
      cases e
      obtain ⟨v, rfl, rv⟩ := rk.one
      obtain ⟨a, xs, rfl, ha, rl⟩ := rv
      rw [rl.bls eb] at ha
      exact ⟨a, bs, rfl, .inl (.inl ha), q _ (rt_bl _)⟩
def listO : List T → Option (List T)
  | [.fz ts] => some ts
  | [.tup ts] => some ts
  | _ => none
theorem lr_list : LRF E (fun xs H Q => ∃ p ys, xs = [.ref p] ∧ (SqL E.K H p ys ∨ SqT E.K H p ys) ∧ ∀ l, H l = none → Q (.ref l) (upd H l (.lst ys))) listO := by
  intro g H ts us vs Q zs rk e q
  match ts, e with
  | [.fz ws], e =>
    simp only [listO] at e
    cases e
    obtain ⟨v, rfl, rv⟩ := rk.one
    obtain ⟨a, xs, rfl, ha, rl⟩ := rv
    exact ⟨a, xs, rfl, .inl (.inl (.inl ha)), fun l hl => q l xs hl rl⟩
  | [.tup ws], e =>
    simp only [listO] at e
    cases e
    obtain ⟨v, rfl, rv⟩ := rk.one
    obtain ⟨a, xs, rfl, ha, rl⟩ := rv.tup_of
    exact ⟨a, xs, rfl, .inr (sameT zs ha), fun l hl => q l xs hl rl⟩
/-- a tree's type -/
def T.tyOf : T → Option String
  | .non => some "NoneType"
  | .bl _ => some "bool"
  | .int _ => some "int"
  | .str _ => some "str"
  | .ty _ => none
  | .tup _ => some "tuple"
  | .fz _ => some "list"
  | .ref _ => none
  | .scr _ => none
  | .dic _ _ => none
theorem RepK.tyx (zs : Same g.Z H) {t : T} {v : V} {n : String} (h : RepK E g H t v) (e : t.tyOf = some n) : TyX E.K H v (.type n) := by
  cases t <;> simp only [T.tyOf] at e <;> try contradiction
  all_goals (injection e with e; subst e)
  · rw [h.non_of]; exact .base .non
  · rw [h.bl_of]; exact .base (.bl _)
  · rw [h.int_of]; exact .base (.int _)
  · rw [h.str_of]; exact .base (.str _)
  · obtain ⟨a, xs, rfl, hs, _⟩ := h.tup_of
    rcases sameT zs hs with (hs | ⟨o, hs⟩) | ⟨o, its, n, hk, hc, _⟩
    · exact .base (.tup hs)
    · exact .fTuple hs
    · exact .kTuple hk hc
  · obtain ⟨a, xs, rfl, hs, _⟩ := h
    exact .base (.lst hs)
/-- isinstance(x, one class), the answer by kitB -/
def isiO : List T → Option T
  | [t, .ty c] => match t.tyOf with
    | some n => (kitB n c).map .bl
    | none => none
  | _ => none
theorem lr_isi : LRC E (rIsi E.K) isiO := by
  intro g H ts s vs Q zs rk e q
  match ts, e with
  | [t, .ty c], e =>
    simp only [isiO] at e
    cases en : t.tyOf with
    | none => rw [en] at e; cases e
    | some n =>
      rw [en] at e
      simp only at e
      cases ek : kitB n c with
      | none => rw [ek] at e; cases e
      | some b =>
        rw [ek] at e
        cases e
        obtain ⟨v, w, rfl, rv, rw'⟩ := rk.two
        have ew : w = .ty c := by have h : RepT E.K g (.ty c) w := rw'; unfold RepT at h; exact h
        subst ew
        exact ⟨v, _, _, _, b, rfl, .ty c, rv.tyx zs en, kit_ty ek, q _ (rt_bl _)⟩
/-- a built-in class as a value -/
theorem me_ty {x : Str} {n : String} {p : Pos} (hg : Gl X x) (hm : X.mg x = none) (hv : bootBuiltins x = some (.type n)) (hn : x ≠ "__name__" := by decide) (hd : (x == ("__debug__" : Str)) = false := by decide) : ME E X (.Name x p) (pure (.ty n)) :=
  me_of (pe_bltn (v := .ty n) hg hm hv rfl hn hd) fun g => by unfold RepT; rfl

/-! ### slices -/
def cutL {α : Type} (xs : List α) (lo hi : Option Int) : List α := (xs.drop (HT.sIx xs.length 0 lo)).take (HT.sIx xs.length xs.length hi - HT.sIx xs.length 0 lo)
theorem RepL.cut {K : PySem.W.Frag} {ts : List T} {xs : List V} (h : RepL K g ts xs) (lo hi : Option Int) : RepL K g (cutL ts lo hi) (cutV xs lo hi) := by
  unfold cutL cutV
  rw [h.len]
  exact (h.drop _).take _
def okO (E : Ev) (g : Gh) (H : Hp) (σ : L2.St) (Q : Option Int → Hp → Prop) (o : Option Int) (st' : Stt) : Prop := beh E g H σ st' fun _ H' => Q o H'
def tpM (E : Ev) (m : M (Option Int)) : TO := fun σ H Q => ∃ g, at_ E m g σ H (okO E g H σ Q)
structure PM (E : Ev) (X : Cx) (e : Option Expr) (m : M (Option Int)) : Prop where po : PO X e (tpM E m)
theorem PO.mono {e : Option Expr} {t t' : TO} (h : PO X e t) (w : ∀ σ H Q, t' σ H Q → t σ H Q) : PO X e t' := ⟨fun pins s σ H Q I q => h.run pins s σ H Q I (w σ H Q q)⟩
theorem st_okO {Q : Option Int → Hp → Prop} : Steps (fun g H => okO E g H σ Q) := fun _ _ _ _ _ _ s h => beh.step s h
theorem seqP {β : Type} {m : M (Option Int)} {f : Option Int → M β} {Φ : Gh → Hp → β → Stt → Prop} (hΦ : Steps Φ) {Q : Option Int → Hp → Prop} (h : at_ E (m >>= f) g σ H (Φ g H))
    (k : ∀ o g1 H1, Stp g g1 H H1 → at_ E (f o) g1 σ H1 (Φ g1 H1) → Q o H1) : tpM E m σ H Q :=
  ⟨g, seq_any hΦ h fun t st1 q g1 H1 r1 s1 => k t g1 H1 s1 (q g1 H1 r1 s1)⟩
def pNo : M (Option Int) := pure none
def pSome (m : M T) : M (Option Int) := do
  match ← m with
  | .int i => pure (some i)
  | _ => stuck
theorem pm_no : PM E X none pNo := ⟨PO.mono po_none fun σ H Q ⟨g, q⟩ => by
  obtain ⟨st, r, z⟩ := at_pure q
  exact z g H r (Stp.refl _ _)⟩
theorem pm_some {e : Expr} {m : M T} (h : ME E X e m) : PM E X (some e) (pSome m) := ⟨PO.mono (po_some h.pe) fun σ H Q ⟨g, q⟩ => seqT st_okO q fun t v g1 H1 s1 rt h1 => by
  cases t with
  | int i =>
    obtain ⟨st, r, z⟩ := at_pure h1
    exact ⟨i, RepK.int_of (E := E) (g := g1) (H := H1) rt, z g1 H1 r (Stp.refl _ _)⟩
  | _ => obtain ⟨_, _, z⟩ := h1; exact z.elim⟩
/-- a list's slice, a new list -/
def fSlice (m : M Rdr) (ml mh : M (Option Int)) : M Ob := do
  let r ← m
  let lo ← ml
  let hi ← mh
  fun st => match r st with
    | some (.fz ts) => some (.ok (.lst (cutL ts lo hi)), st)
    | some (.scr ns) => some (.ok (.lst ((cutL ns lo hi).map .int)), st)
    | _ => none
theorem rep_ints {K : PySem.W.Frag} : ∀ ns : List Int, RepL K g (ns.map .int) (ns.map V.int)
  | [] => .nil
  | n :: ns => by
    rw [List.map_cons, List.map_cons]
    unfold RepL
    exact ⟨_, _, rfl, rt_int n, rep_ints ns⟩
theorem cutV_map (ns : List Int) (lo hi : Option Int) : cutV (ns.map V.int) lo hi = (cutL ns lo hi).map V.int := by
  unfold cutV cutL
  rw [List.length_map, ← List.map_drop, ← List.map_take]
theorem fe_slice {e : Expr} {lo hi : Option Expr} {p2 : Pos} {m : M Rdr} {ml mh : M (Option Int)} (he : OE E X e m) (hl : PM E X lo ml) (hh : PM E X hi mh) (hK : E.K = X.K := by rfl) : FE E X (.Subscript e (.Slice lo hi none p2) pos) (fSlice m ml mh) :=
  ⟨PE.mono (pe_slice sl_list he.pe hl.po hh.po) fun σ H Q ⟨g, q⟩ => seqO st_okF q fun rd v g1 H1 s1 rr h1 => seqP st_okF h1 fun l g2 H2 s2 h2 => seqP st_okF h2 fun u g3 H3 s3 h3 => by
    obtain ⟨st, r, z⟩ := h3
    unfold run at z
    cases e : rd st with
    | none => simp only [e] at z
    | some t =>
      simp only [e] at z
      cases t with
      | fz ts =>
        obtain ⟨a, xs, rfl, ha, rl⟩ := rr g3 st H3 _ r (s2.trans s3) e
        exact ⟨a, xs, rfl, .inl (.inl ha), fun p hp => z g3 H3 r (Stp.refl _ _) p _ hp ⟨_, rfl, rl.cut _ _⟩⟩
      | scr ns =>
        have h : RepT E.K g3 (.scr ns) v := rr g3 st H3 _ r (s2.trans s3) e
        unfold RepT at h
        obtain ⟨a, ev, ha⟩ := h
        rw [hK] at ha
        refine ⟨a, _, ev, r.zs.seq ha, fun p hp => z g3 H3 r (Stp.refl _ _) p _ hp ⟨_, rfl, ?_⟩⟩
        rw [cutV_map]
        exact rep_ints _
      | _ => exact z.elim⟩
/-- a text's slice, a tuple's slice -/
def eSlice (m : M Rdr) (ml mh : M (Option Int)) : M T := do
  let r ← m
  let lo ← ml
  let hi ← mh
  fun st => match r st with
    | some (.str s) => if s.length ≤ 1000000 then some (.ok (.str (cutL s lo hi)), st) else none
    | some (.tup ts) => some (.ok (.tup (cutL ts lo hi)), st)
    | _ => none
def rSlST (K : PySem.W.Frag) : V → Option Int → Option Int → Hp → VK → Prop := fun x lo hi H Q => rSlS x lo hi H Q ∨ rSlA K x lo hi H Q
theorem sl_st : SlR X (rSlST X.K) := by
  intro pins s σ H x v vl vu lo hi sl Q I rx hs pl pu h
  rcases h with h | h
  · exact sl_str pins s σ H x v vl vu lo hi sl Q I rx hs pl pu h
  · exact sl_tupA pins s σ H x v vl vu lo hi sl Q I rx hs pl pu h
theorem HT.sIx_whole {α : Type} {xs : List α} {lo hi : Option Int} (h : HT.sIx xs.length 0 lo = 0 ∧ HT.sIx xs.length xs.length hi = xs.length) : cutL xs lo hi = xs := by
  unfold cutL
  rw [h.1, h.2]
  simp
theorem me_slice {e : Expr} {lo hi : Option Expr} {p2 : Pos} {m : M Rdr} {ml mh : M (Option Int)} (he : OE E X e m) (hl : PM E X lo ml) (hh : PM E X hi mh) (hK : E.K = X.K := by rfl) : ME E X (.Subscript e (.Slice lo hi none p2) pos) (eSlice m ml mh) :=
  ⟨PE.mono (pe_slice sl_st he.pe hl.po hh.po) fun σ H Q ⟨g, q⟩ => seqO st_okT q fun rd v g1 H1 s1 rr h1 => seqP st_okT h1 fun l g2 H2 s2 h2 => seqP st_okT h2 fun u g3 H3 s3 h3 => by
    obtain ⟨st, r, z⟩ := h3
    unfold run at z
    cases e : rd st with
    | none => simp only [e] at z
    | some t =>
      simp only [e] at z
      cases t with
      | str s =>
        simp only at z
        by_cases hs : s.length ≤ 1000000
        · rw [if_pos hs] at z
          have ev := (rr g3 st H3 _ r (s2.trans s3) e).str_of
          subst ev
          refine .inl ⟨sS s, rfl, by rw [sS_len]; exact mil hs, ?_⟩
          have q2 := z g3 H3 r (Stp.refl _ _) (.str (sS (cutL s l u))) (rt_str _)
          have ec : cutS (sS s) l u = sS (cutL s l u) := by
            unfold cutS cutL
            rw [sS_len, show (sS s).cps.toList = s by simp [sS]]
            rfl
          rw [ec]
          exact q2
        · rw [if_neg hs] at z
          exact z.elim
      | tup ts =>
        obtain ⟨a, xs, rfl, ha, rl⟩ := (rr g3 st H3 _ r (s2.trans s3) e).tup_of
        rw [hK] at ha
        refine .inr ⟨a, xs, rfl, sameT r.zs ha, fun hw => ?_, fun _ => new_tup z r (rl.cut _ _)⟩
        refine z g3 H3 r (Stp.refl _ _) (.ref a) ?_
        rw [rl.len] at hw
        rw [HT.sIx_whole hw]
        unfold RepT
        rw [hK]
        exact ⟨a, xs, rfl, ha, by rw [← hK]; exact rl⟩
      | _ => exact z.elim⟩
/-- xs[::-1] -/
def fRev (m : M Rdr) : M Ob := do
  let r ← m
  fun st => match r st with
    | some (.fz ts) => some (.ok (.lst ts.reverse), st)
    | _ => none
theorem fe_rev {e : Expr} {k : Nat} {p1 p2 p3 : Pos} {m : M Rdr} (he : OE E X e m) : FE E X (.Subscript e (.Slice none none (some (.UnaryOp .USub (.Constant (.int 1) k p1) p2)) p3) pos) (fRev m) :=
  ⟨PE.mono (pe_revL he.pe) fun σ H Q ⟨g, q⟩ => seqO st_okF q fun rd v g1 H1 s1 rr h1 => by
    obtain ⟨st, r, z⟩ := h1
    unfold run at z
    cases e : rd st with
    | none => simp only [e] at z
    | some t =>
      simp only [e] at z
      cases t with
      | fz ts =>
        obtain ⟨a, xs, rfl, ha, rl⟩ := rr g1 st H1 _ r (Stp.refl _ _) e
        exact ⟨a, xs, rfl, .inl (.inl ha), fun p hp => z g1 H1 r (Stp.refl _ _) p _ hp ⟨_, rfl, rl.rev⟩⟩
      | _ => exact z.elim⟩
end
end Sw
namespace Sw
open PySem PySem.Spec PyProof.Rows L2

inductive Fl where
  | nxt | ret (t : T) | brk | cnt
abbrev Cmd := M Fl
section
variable {E : Ev} {g g1 : Gh} {H H1 : Hp} {σ : L2.St} {X : Cx} {pos : Pos}
/-! ### statements -/
def exS (E : Ev) (g : Gh) (H : Hp) (x : Xn) (st' : Stt) : Prop := ∀ g' σ' H' c d, Rel E.K g' st' σ' H' → Stp g g' H H' → E.RX g' x c d H' → E.W c d σ' H'
def endS (E : Ev) (D : Ends) (g' : Gh) (σ' : L2.St) (H' : Hp) : Fl → Prop
  | .nxt => D.nx σ' H'
  | .ret t => ∀ v, RepT E.K g' t v → D.rt v H'
  | .brk => D.bk σ' H'
  | .cnt => D.ct σ' H'
def okS (E : Ev) (D : Ends) (g : Gh) (H : Hp) (f : Fl) (st' : Stt) : Prop := ∀ g' σ' H', Rel E.K g' st' σ' H' → Stp g g' H H' → endS E D g' σ' H' f
def atS (E : Ev) (c : Cmd) (g : Gh) (σ : L2.St) (H : Hp) (D : Ends) : Prop := ∃ st, Rel E.K g st σ H ∧ run c st (okS E D g H) (exS E g H)
def tsM (E : Ev) (c : Cmd) : TS := fun D σ H => ∃ g, atS E c g σ H D
structure SM (E : Ev) (X : Cx) (st : Stmt) (c : Cmd) : Prop where ps : PS X st (tsM E c)
structure SSM (E : Ev) (X : Cx) (st : List Stmt) (c : Cmd) : Prop where pss : PSs X st (tsM E c)
theorem okS.step {D : Ends} (s : Stp g g1 H H1) {f : Fl} {st' : Stt} (h : okS E D g H f st') : okS E D g1 H1 f st' := fun g' σ' H' r t => h g' σ' H' r (s.trans t)
theorem exS.step (s : Stp g g1 H H1) {x : Xn} {st' : Stt} (h : exS E g H x st') : exS E g1 H1 x st' := fun g' σ' H' c d r t => h g' σ' H' c d r (s.trans t)
theorem exS.w {x : Xn} {st' : Stt} (h : exS E g H x st') : exW E g H σ x st' := fun g' H' c d r t => h g' σ H' c d r t
/-- first an expression's computation, then a statement's -/
theorem s_seq {α : Type} {m : M α} {f : α → Cmd} {D : Ends} (h : atS E (m >>= f) g σ H D) {Ψ : α → Stt → Prop}
    (k : ∀ a st1, (∀ g1 H1, Rel E.K g1 st1 σ H1 → Stp g g1 H H1 → atS E (f a) g1 σ H1 D) → Ψ a st1) : at_ E m g σ H Ψ := by
  obtain ⟨st, r, h⟩ := h
  exact ⟨st, r, run_mono (run_bind h) (fun a st1 q => k a st1 fun g1 H1 r1 s1 => ⟨st1, r1, run_mono q (fun _ _ z => z.step s1) fun _ _ z => z.step s1⟩) fun _ _ z => z.w⟩
theorem sT {m : M T} {f : T → Cmd} {D : Ends} {Q : VK} (h : atS E (m >>= f) g σ H D)
    (k : ∀ t v g1 H1, Stp g g1 H H1 → RepT E.K g1 t v → atS E (f t) g1 σ H1 D → Q v H1) : teM E m σ H Q :=
  ⟨g, s_seq h fun t st1 q g1 H1 r1 s1 v rv => k t v g1 H1 s1 rv (q g1 H1 r1 s1)⟩
theorem sB {m : M Bool} {f : Bool → Cmd} {D : Ends} {Q : Bool → Hp → Prop} (h : atS E (m >>= f) g σ H D)
    (k : ∀ t g1 H1, Stp g g1 H H1 → atS E (f t) g1 σ H1 D → Q t H1) : ttM E m σ H Q :=
  ⟨g, s_seq h fun t st1 q g1 H1 r1 s1 => k t g1 H1 s1 (q g1 H1 r1 s1)⟩
theorem sF {m : M Ob} {f : Ob → Cmd} {D : Ends} {Q : VK} (h : atS E (m >>= f) g σ H D)
    (k : ∀ ob p o g1 H1, Stp g g1 H H1 → H1 p = none → RepO E.K g1 ob (some o) → atS E (f ob) g1 σ H1 D → Q (.ref p) (upd H1 p o)) : tfM E m σ H Q :=
  ⟨g, s_seq h fun t st1 q g1 H1 r1 s1 p o hp ro => k t p o g1 H1 s1 hp ro (q g1 H1 r1 s1)⟩
theorem sO {m : M Rdr} {f : Rdr → Cmd} {D : Ends} {Q : VK} (h : atS E (m >>= f) g σ H D)
    (k : ∀ t v g1 H1, Stp g g1 H H1 → Reads E g1 H1 σ t v → atS E (f t) g1 σ H1 D → Q v H1) : toM E m σ H Q :=
  ⟨g, s_seq h fun t st1 q g1 H1 r1 s1 v rv => k t v g1 H1 s1 rv (q g1 H1 r1 s1)⟩
theorem atS_pure {f : Fl} {D : Ends} (h : atS E (pure f) g σ H D) : ∃ st, Rel E.K g st σ H ∧ okS E D g H f st := h
/-- one statement, then another -/
def cSeq (a b : Cmd) : Cmd := do
  match ← a with
  | .nxt => b
  | f => pure f
theorem ssm_nil : SSM E X [] (pure .nxt) := ⟨PSs.mono pss_nil fun D σ H ⟨g, st, r, q⟩ => q g σ H r (Stp.refl _ _)⟩
theorem ssm_one {s : Stmt} {c : Cmd} (h : SM E X s c) : SSM E X [s] c := ⟨pss_one h.ps⟩
theorem ssm_cons {s : Stmt} {rest : List Stmt} {c k : Cmd} (h1 : SM E X s c) (h2 : SSM E X rest k) : SSM E X (s :: rest) (cSeq c k) :=
  ⟨PSs.mono (pss_cons h1.ps h2.pss) fun D σ H ⟨g, st, r, q⟩ => ⟨g, st, r, run_mono (run_bind q) (fun f st1 z g1 σ1 H1 r1 s1 => by
    cases f with
    | nxt => exact ⟨g1, st1, r1, run_mono z (fun _ _ y => y.step s1) fun _ _ y => y.step s1⟩
    | ret t => exact z g1 σ1 H1 r1 s1
    | brk => exact z g1 σ1 H1 r1 s1
    | cnt => exact z g1 σ1 H1 r1 s1) fun _ _ z => z⟩⟩
theorem sm_pass : SM E X (.Pass pos) (pure .nxt) := ⟨PS.mono ps_pass fun D σ H ⟨g, st, r, q⟩ => q g σ H r (Stp.refl _ _)⟩
theorem sm_break : SM E X (.Break pos) (pure .brk) := ⟨PS.mono ps_break fun D σ H ⟨g, st, r, q⟩ => q g σ H r (Stp.refl _ _)⟩
theorem sm_continue : SM E X (.Continue pos) (pure .cnt) := ⟨PS.mono ps_continue fun D σ H ⟨g, st, r, q⟩ => q g σ H r (Stp.refl _ _)⟩
def cExpr (m : M T) : Cmd := do let _ ← m; pure .nxt
theorem sm_expr {e : Expr} {m : M T} (h : ME E X e m) (hs : swapsWith e none pos.line X.env = pure false := by rfl) : SM E X (.Expr e pos) (cExpr m) :=
  ⟨PS.mono (ps_expr h.pe hs) fun D σ H ⟨g, q⟩ => sT q fun t v g1 H1 s1 rv h1 => by
    obtain ⟨st, r, z⟩ := atS_pure h1
    exact z g1 σ H1 r (Stp.refl _ _)⟩
def cRet (m : M T) : Cmd := do let t ← m; pure (.ret t)
theorem sm_ret {e : Expr} {m : M T} (h : ME E X e m) : SM E X (.Return (some e) pos) (cRet m) :=
  ⟨PS.mono (ps_ret h.pe) fun D σ H ⟨g, q⟩ => sT q fun t v g1 H1 s1 rv h1 => by
    obtain ⟨st, r, z⟩ := atS_pure h1
    exact z g1 σ H1 r (Stp.refl _ _) v rv⟩
theorem sm_retN : SM E X (.Return none pos) (pure (.ret .non)) := ⟨PS.mono ps_retN fun D σ H ⟨g, st, r, q⟩ => q g σ H r (Stp.refl _ _) .non (by unfold RepT; rfl)⟩
def cIf (c : M Bool) (a b : Cmd) : Cmd := do if ← c then a else b
theorem sm_if {c : Expr} {a b : List Stmt} {m : M Bool} {ka kb : Cmd} (hc : TM E X c m) (ha : SSM E X a ka) (hb : SSM E X b kb) : SM E X (.If c a b pos) (cIf m ka kb) :=
  ⟨PS.mono (ps_if hc.pt ha.pss hb.pss) fun D σ H ⟨g, q⟩ => sB q fun b g1 H1 s1 h1 => by
    cases b with
    | true => exact iteT ⟨g1, h1⟩
    | false => exact iteF ⟨g1, h1⟩⟩

/-! ### names are stored -/
def setS (i : Nat) (s : Sl) (st : Stt) : Stt := { st with σ := st.σ.set i s }
theorem Rel.set {st : Stt} {i : Nat} {t : T} {v : V} (r : Rel E.K g st σ H) (rv : RepT E.K g t v) : Rel E.K g (setS i (.val t) st) (σ.set i (some v)) H := by
  refine ⟨r.toRelS, by simpa [setS] using r.len, fun j s w e1 e2 => ?_⟩
  by_cases hj : i = j
  · subst hj
    have e1 : (st.σ.set i (.val t))[i]? = some s := e1
    have hi : i < st.σ.length := by
      have := (List.getElem?_eq_some_iff.mp e1).1
      simpa using this
    rw [List.getElem?_set_self hi] at e1
    rw [List.getElem?_set_self (by rw [← r.len]; exact hi)] at e2
    cases e1
    cases e2
    exact ⟨v, rfl, rv⟩
  · have e1 : (st.σ.set i (.val t))[j]? = some s := e1
    rw [List.getElem?_set_ne hj] at e1 e2
    exact r.slot j s w e1 e2
def cSet (i : Nat) (m : M T) : Cmd := do let t ← m; fun st => some (.ok .nxt, setS i (.val t) st)
theorem tSet_lift {i : Nat} {te : TE} {m : M T} (hl : ∀ σ H Q, teM E m σ H Q → te σ H Q) {D : Ends} (h : tsM E (cSet i m) D σ H) : tAsg te (gName i) D σ H := by
  obtain ⟨g, q⟩ := h
  refine hl _ _ _ (sT q fun t v g1 H1 s1 rv h1 => ?_)
  obtain ⟨st, r, z⟩ := h1
  exact z g1 _ H1 (r.set rv) (Stp.refl _ _)
theorem sm_set {i : Nat} {x : Str} {e : Expr} {m : M T} {pos' : Pos} (hN : X.N.Nodup) (hi : X.N[i]? = some x) (hx : Loc X.env.scope x) (he : ME E X e m) (hs : swapsWith e (some (.Name x pos')) pos.line X.env = pure false := by rfl) (hf : X.fn x = true ∨ X.env.scope.names.lookup x = some .local := by first | exact .inl rfl | exact .inr rfl | assumption) :
    SM E X (.Assign [.Name x pos'] e pos) (cSet i m) := ⟨PS.mono (ps_set hN hi hx he.pe hs hf) fun D σ H h => tSet_lift (fun _ _ _ z => z) h⟩
/-- an address gets an owner -/
def Gh.give (g : Gh) (p : Addr) (l : Ow) : Gh := { g with own := fun q => if q = p then l else g.own q }
theorem Gh.give_own {p q : Addr} {l : Ow} (h : q ≠ p) : (g.give p l).own q = g.own q := by
  show (if q = p then _ else _) = _
  rw [if_neg h]
theorem Gh.give_gs {p : Addr} {l : Ow} : GStp g (g.give p l) := ⟨Same.refl _, Nat.le_refl _, fun _ _ => rfl⟩
/-- a new object, owned by slot i -/
theorem Rel.owns {st : Stt} {i : Nat} {p : Addr} {ob : Ob} {o : HO} (r : Rel E.K g st σ H) (hp : H p = none) (ro : RepO E.K g ob (some o)) :
    Rel E.K (g.give p (.slot i)) (setS i (.own ob) st) (σ.set i (some (.ref p))) (upd H p o) ∧ Stp g (g.give p (.slot i)) H (upd H p o) := by
  have op : g.own p = .out := r.fr p hp
  have zp : g.Z p = none := r.zs.free hp
  have gs : GStp g (g.give p (.slot i)) := Gh.give_gs
  refine ⟨⟨⟨fun b u e => ?_, fun b u e => ?_, fun b e => ?_, r.n, fun a ob' e => ?_⟩, by simpa [setS] using r.len, fun j s w e1 e2 => ?_⟩, ⟨gs.z, gs.n, gs.ρ, fun b u h1 h2 => ?_⟩⟩
  · have hb : b ≠ p := ne_of_none e zp
    rw [upd_ne hb]
    exact r.zs b u e
  · have hb : b ≠ p := ne_of_none e zp
    rw [Gh.give_own hb]
    exact r.zo b u e
  · by_cases hb : b = p
    · rw [hb, upd_same] at e
      cases e
    · rw [upd_ne hb] at e
      rw [Gh.give_own hb]
      exact r.fr b e
  · obtain ⟨h1, h2⟩ := r.box a ob' e
    have hb : g.ρ a ≠ p := fun z => by rw [z, op] at h1; cases h1
    refine ⟨?_, ?_⟩
    · rw [Gh.give_own (show (g.give p (.slot i)).ρ a ≠ p from hb)]
      exact h1
    · show RepO E.K _ ob' (upd H p o (g.ρ a))
      rw [upd_ne hb]
      exact h2.gstep gs
  · by_cases hj : i = j
    · subst hj
      have e1 : (st.σ.set i (.own ob))[i]? = some s := e1
      have hi : i < st.σ.length := by
        have := (List.getElem?_eq_some_iff.mp e1).1
        simpa using this
      rw [List.getElem?_set_self hi] at e1
      rw [List.getElem?_set_self (by rw [← r.len]; exact hi)] at e2
      cases e1
      cases e2
      refine ⟨p, rfl, ?_, ?_⟩
      · show (if p = p then _ else _) = _
        rw [if_pos rfl]
      · rw [upd_same]
        exact ro.gstep gs
    · have e1 : (st.σ.set i (.own ob))[j]? = some s := e1
      rw [List.getElem?_set_ne hj] at e1 e2
      have q := r.slot j s w e1 e2
      cases s with
      | emp => trivial
      | val t =>
        obtain ⟨x, e, q⟩ := q
        exact ⟨x, e, q.gstep gs⟩
      | own ob' =>
        obtain ⟨p', e, q1, q2⟩ := q
        have hb : p' ≠ p := fun z => by rw [z, op] at q1; cases q1
        refine ⟨p', e, ?_, ?_⟩
        · rw [Gh.give_own hb]
          exact q1
        · rw [upd_ne hb]
          exact q2.gstep gs
  · have hb : b ≠ p := ne_of_none h2 hp
    rw [Gh.give_own hb, upd_ne hb]
    exact ⟨h1, h2⟩
def cOwn (i : Nat) (m : M Ob) : Cmd := do let ob ← m; fun st => some (.ok .nxt, setS i (.own ob) st)
theorem tOwn_lift {i : Nat} {te : TE} {m : M Ob} (hl : ∀ σ H Q, tfM E m σ H Q → te σ H Q) {D : Ends} (h : tsM E (cOwn i m) D σ H) : tAsg te (gName i) D σ H := by
  obtain ⟨g, q⟩ := h
  refine hl _ _ _ (sF q fun ob p o g1 H1 s1 hp ro h1 => ?_)
  obtain ⟨st, r, z⟩ := h1
  obtain ⟨r2, s2⟩ := r.owns (i := i) hp ro
  exact z _ _ _ r2 s2
theorem sm_own {i : Nat} {x : Str} {e : Expr} {m : M Ob} {pos' : Pos} (hN : X.N.Nodup) (hi : X.N[i]? = some x) (hx : Loc X.env.scope x) (he : FE E X e m) (hs : swapsWith e (some (.Name x pos')) pos.line X.env = pure false := by rfl) (hf : X.fn x = true ∨ X.env.scope.names.lookup x = some .local := by first | exact .inl rfl | exact .inr rfl | assumption) :
    SM E X (.Assign [.Name x pos'] e pos) (cOwn i m) := ⟨PS.mono (ps_set hN hi hx he.pe hs hf) fun D σ H h => tOwn_lift (fun _ _ _ z => z) h⟩

/-! ### targets -/
inductive Tg where
  | nm (i : Nat)
  | tu (ts : List Tg)
mutual
def asgT : Tg → T → List Sl → Option (List Sl)
  | .nm i, t, σ => some (σ.set i (.val t))
  | .tu gs, .tup ts, σ => asgTs gs ts σ
  | .tu _, _, _ => none
def asgTs : List Tg → List T → List Sl → Option (List Sl)
  | [], [], σ => some σ
  | g :: gs, t :: ts, σ => (asgT g t σ).bind (asgTs gs ts)
  | _, _, _ => none
end
mutual
def Tg.ix : Tg → List Nat
  | .nm i => [i]
  | .tu gs => Tg.ixs gs
def Tg.ixs : List Tg → List Nat
  | [] => []
  | g :: gs => g.ix ++ Tg.ixs gs
end
/-- the slots of l alone have changed -/
def Only (l : List Nat) (σ σ' : L2.St) : Prop := σ'.length = σ.length ∧ ∀ i, i ∉ l → σ'[i]? = σ[i]?
theorem Only.refl (l : List Nat) (σ : L2.St) : Only l σ σ := ⟨rfl, fun _ _ => rfl⟩
theorem Only.trans {l : List Nat} {σ σ1 σ2 : L2.St} (a : Only l σ σ1) (b : Only l σ1 σ2) : Only l σ σ2 := ⟨b.1.trans a.1, fun i h => (b.2 i h).trans (a.2 i h)⟩
theorem Only.mono {l l' : List Nat} {σ σ' : L2.St} (a : Only l σ σ') (h : ∀ i ∈ l, i ∈ l') : Only l' σ σ' := ⟨a.1, fun i hi => a.2 i fun z => hi (h i z)⟩
theorem wipe_get {σ : L2.St} : ∀ {vs : List Nat} {i : Nat}, (wipe σ vs)[i]? = if i ∈ vs then (σ[i]?).map (fun _ => none) else σ[i]?
  | [], i => by simp [wipe]
  | v :: vs, i => by
    unfold wipe
    by_cases h : v = i
    · subst h
      rw [if_pos List.mem_cons_self]
      by_cases hv : v < σ.length
      · rw [List.getElem?_set_self (by rw [wipe_length]; exact hv), List.getElem?_eq_getElem hv]
        rfl
      · rw [List.getElem?_eq_none (by simp [wipe_length]; omega), List.getElem?_eq_none (by omega)]
        rfl
    · rw [List.getElem?_set_ne h, wipe_get]
      by_cases hm : i ∈ vs
      · rw [if_pos hm, if_pos (List.mem_cons_of_mem _ hm)]
      · rw [if_neg hm, if_neg (by simp only [List.mem_cons, not_or]; exact ⟨fun z => h z.symm, hm⟩)]
theorem Only.wipe {l : List Nat} {σ σ' : L2.St} (a : Only l σ σ') : L2.wipe σ' l = L2.wipe σ l := by
  apply List.ext_getElem?
  intro i
  rw [wipe_get, wipe_get]
  by_cases h : i ∈ l
  · rw [if_pos h, if_pos h]
    by_cases hi : i < σ.length
    · rw [List.getElem?_eq_getElem hi, List.getElem?_eq_getElem (by rw [a.1]; exact hi)]
      rfl
    · rw [List.getElem?_eq_none (Nat.le_of_not_lt (by rw [a.1]; exact hi)), List.getElem?_eq_none (Nat.le_of_not_lt hi)]
  · rw [if_neg h, if_neg h, a.2 i h]
def tgM (E : Ev) (tg : Tg) : TG := fun v σ H Q => ∃ g st t σ', Rel E.K g st σ H ∧ RepT E.K g t v ∧ asgT tg t st.σ = some σ' ∧ ∀ σV, Rel E.K g { st with σ := σ' } σV H → Only tg.ix σ σV → Q σV H
def tgsM (E : Ev) (tg : List Tg) : TGs := fun vs σ H Q => ∃ g st ts σ', Rel E.K g st σ H ∧ RepL E.K g ts vs ∧ asgTs tg ts st.σ = some σ' ∧ ∀ σV, Rel E.K g { st with σ := σ' } σV H → Only (Tg.ixs tg) σ σV → Q σV H
structure GM (E : Ev) (X : Cx) (e : Expr) (tg : Tg) : Prop where pg : PG X e (tgM E tg)
structure GsM (E : Ev) (X : Cx) (e : List Expr) (tg : List Tg) : Prop where pg : PGs X e (tgsM E tg)
theorem PG.mono {e : Expr} {t t' : TG} (h : PG X e t) (w : ∀ v σ H Q, t' v σ H Q → t v σ H Q) : PG X e t' := ⟨fun pins s σ H v u Q I r q => h.run pins s σ H v u Q I r (w v σ H Q q)⟩
theorem PGs.mono {e : List Expr} {t t' : TGs} (h : PGs X e t) (w : ∀ v σ H Q, t' v σ H Q → t v σ H Q) : PGs X e t' := ⟨fun pins s σ H v u Q I r q => h.run pins s σ H v u Q I r (w v σ H Q q)⟩
theorem gm_name {i : Nat} {x : Str} (hN : X.N.Nodup) (hi : X.N[i]? = some x) (hx : Loc X.env.scope x) (hf : X.fn x = true ∨ X.env.scope.names.lookup x = some .local := by first | exact .inl rfl | exact .inr rfl | assumption) : GM E X (.Name x pos) (.nm i) :=
  ⟨PG.mono (pg_name hN hi hx hf) fun v σ H Q ⟨g, st, t, σ', r, rv, e, q⟩ => by
    unfold asgT at e
    cases e
    refine q _ (r.set rv) ⟨by simp, fun j hj => ?_⟩
    have hj : j ≠ i := fun z => hj (by rw [z]; unfold Tg.ix; exact List.mem_singleton.mpr rfl)
    rw [List.getElem?_set_ne (Ne.symm hj)]⟩
theorem gsm_nil : GsM E X [] [] := ⟨PGs.mono pgs_nil fun v σ H Q ⟨g, st, t, σ', r, rv, e, q⟩ => by
  cases t with
  | nil =>
    unfold asgTs at e
    cases e
    unfold RepL at rv
    exact ⟨rv, q σ r (Only.refl _ _)⟩
  | cons _ _ => simp [asgTs] at e⟩
theorem gsm_cons {e : Expr} {es : List Expr} {tg : Tg} {tgs : List Tg} (h1 : GM E X e tg) (h2 : GsM E X es tgs)
    (hs : (assignEach (e :: es) X.env).map (·.2) = assign e X.env :: (assignEach es X.env).map (·.2) := by rfl) : GsM E X (e :: es) (tg :: tgs) :=
  ⟨PGs.mono (pgs_cons h1.pg h2.pg hs) fun vs σ H Q ⟨g, st, ts, σ', r, rv, e, q⟩ => by
    cases ts with
    | nil => simp [asgTs] at e
    | cons t ts =>
      unfold RepL at rv
      obtain ⟨v, ws, ev, r1, r2⟩ := rv
      unfold asgTs at e
      cases e1 : asgT tg t st.σ with
      | none => rw [e1] at e; cases e
      | some σ1 =>
        rw [e1] at e
        refine ⟨v, ws, ev, g, st, t, σ1, r, r1, e1, fun σV r' o1 => ⟨g, { st with σ := σ1 }, ts, σ', r', r2, e, fun σW r'' o2 => q σW r'' ?_⟩⟩
        unfold Tg.ixs
        exact (o1.mono fun i hi => List.mem_append_left _ hi).trans (o2.mono fun i hi => List.mem_append_right _ hi)⟩
theorem gm_tup {es : List Expr} {k : Nat} {tgs : List Tg} (hc : X.calm = true) (h : GsM E X es tgs)
    (hn : (assignEach es X.env).length = tgs.length := by rfl) (hst : (assignEach es X.env).findIdx? (·.1) = none := by rfl) (hK : E.K = X.K := by rfl) : GM E X (.Tuple es k pos) (.tu tgs) :=
  ⟨PG.mono (pg_tup hc h.pg hn hst) fun v σ H Q ⟨g, st, t, σ', r, rv, e, q⟩ => by
    cases t with
    | tup ts =>
      unfold asgT at e
      unfold RepT at rv
      obtain ⟨a, xs, ev, hs, rl⟩ := rv
      have hl : ∀ {gs : List Tg} {us : List T} {s s' : List Sl}, asgTs gs us s = some s' → us.length = gs.length := by
        intro gs
        induction gs with
        | nil =>
          intro us s s' e
          cases us with
          | nil => rfl
          | cons _ _ => simp [asgTs] at e
        | cons g gs ih =>
          intro us s s' e
          cases us with
          | nil => simp [asgTs] at e
          | cons u us =>
            unfold asgTs at e
            cases e1 : asgT g u s with
            | none => rw [e1] at e; cases e
            | some s1 =>
              rw [e1] at e
              rw [List.length_cons, List.length_cons, ih e]
      rw [hK] at hs
      exact ⟨a, xs, ev, sameT r.zs hs, by rw [rl.len, hl e], g, st, ts, σ', r, rl, e, fun σV r' o => q σV r' (by unfold Tg.ix; exact o)⟩
    | _ => simp [asgT] at e⟩
/-- a, b = e -/
def cUnp (tg : Tg) (m : M T) : Cmd := do
  let t ← m
  fun st => match asgT tg t st.σ with
    | some σ' => some (.ok .nxt, { st with σ := σ' })
    | none => none
theorem sm_unp {te e : Expr} {tg : Tg} {m : M T} (he : ME E X e m) (hg : GM E X te tg) (hs : swapsWithSole [te] e pos.line X.env = pure false := by rfl) (hw : swappedStores [te] e X.env = pure none := by rfl)
    (h1 : (assignEach [te] X.env).map (·.2) = [assign te X.env] := by rfl) : SM E X (.Assign [te] e pos) (cUnp tg m) :=
  ⟨PS.mono (ps_asg he.pe hg.pg hs hw h1) fun D σ H ⟨g, q⟩ => sT q fun t v g1 H1 s1 rv h1 => by
    obtain ⟨st, r, z⟩ := h1
    unfold run at z
    cases e : asgT tg t st.σ with
    | none => simp only [e] at z
    | some σ' =>
      simp only [e] at z
      exact ⟨g1, st, t, σ', r, rv, e, fun σV r' _ => z g1 σV H1 r' (Stp.refl _ _)⟩⟩

/-! ### defs: what they are, how they are called -/
abbrev FnM := List T → List Ob → Option (R T × List Ob)
def spM (K : PySem.W.Frag) (RX : Gh → Xn → Value → Option Addr → Hp → Prop) (n : Nat) (m : FnM) : Sp := fun vs H Q Ex => ∃ g S ts, ts.length = n ∧ RelS K g S H ∧ RepL K g ts vs ∧ (∀ p i, g.own p ≠ .slot i) ∧ match m ts S with
  | none => False
  | some (.ok t, S') => ∀ g' H' v, RelS K g' S' H' → Stp g g' H H' → RepT K g' t v → Q v H'
  | some (.exc x, S') => ∀ g' H' c d, RelS K g' S' H' → Stp g g' H H' → RX g' x c d H' → Ex c d H'
/-- a def's body, from its arguments -/
def fnM (n : Nat) (c : Cmd) : FnM := fun ts S => match c ⟨ts.map .val ++ List.replicate (n - ts.length) .emp, S⟩ with
  | some (.ok .nxt, st') => some (.ok .non, st'.S)
  | some (.ok (.ret t), st') => some (.ok t, st'.S)
  | some (.ok _, _) => none
  | some (.exc x, st') => some (.exc x, st'.S)
  | none => none
theorem start_rel {K : PySem.W.Frag} {S : List Ob} {ts : List T} {vs : List V} {N : List Str} (r : RelS K g S H) (rl : RepL K g ts vs) : Rel K g ⟨ts.map .val ++ List.replicate (N.length - ts.length) .emp, S⟩ (L2.start N vs) H := by
  have hl := rl.len
  refine ⟨r, by simp [L2.start, hl], fun i s v e1 e2 => ?_⟩
  by_cases hi : i < ts.length
  · have e1 : (ts.map Sl.val ++ List.replicate (N.length - ts.length) Sl.emp)[i]? = some s := e1
    rw [List.getElem?_append_left (by simpa using hi), List.getElem?_map, List.getElem?_eq_getElem hi] at e1
    cases e1
    unfold L2.start at e2
    rw [List.getElem?_append_left (by simpa [hl] using hi), List.getElem?_map] at e2
    obtain ⟨x, ex, rx⟩ := rl.get (List.getElem?_eq_getElem hi)
    rw [ex] at e2
    cases e2
    exact ⟨x, rfl, rx⟩
  · have e1 : (ts.map Sl.val ++ List.replicate (N.length - ts.length) Sl.emp)[i]? = some s := e1
    rw [List.getElem?_append_right (by simpa using hi), List.getElem?_replicate] at e1
    split at e1
    · cases e1
      trivial
    · cases e1
section
variable {P : Program} {w : World} {K : PySem.W.Frag} {mg : Str → Option Value} {base : Heap} {RX : Gh → Xn → Value → Option Addr → Hp → Prop}
/-- THE RULE for a def -/
theorem fn_okM {x qual : Str} {st : Stmt} {f : Addr} {fd : FuncData} {N ps : List Str} {k : Nat} {c : Cmd} (F : Fun K x qual st f fd) (S : FnScope N ps (defScope st))
    (hbody : ∀ (cdv : Value) (A : Around) (outer : List Env) (s : Shared) (H : Hp) (Ex : XK), Room k (A.deeper (envOfC qual (defScope st) s.heap.objs.size f cdv)) →
      Takes (cxOf (L2.CX P w) P w K mg base N qual (defScope st) f cdv A outer s H Ex) (fun cls d _ H => Ex cls d H) →
      SSM ⟨K, fun cls d _ H => Ex cls d H, RX⟩ (cxOf (L2.CX P w) P w K mg base N qual (defScope st) f cdv A outer s H Ex) (defBody st) c) :
    FnOk P w K mg base (L2.CX P w) (k + 1) f fd ps (spM K RX ps.length (fnM N.length c)) := by
  refine F.okX S (fun vs H Q Ex h => ?_) (fun cdv A outer s H vs Q Ex hr h => ?_)
  · obtain ⟨g, Sx, ts, hn, r, rl, _⟩ := h
    rw [rl.len, hn]
  · obtain ⟨g, Sx, ts, hn, r, rl, _, h⟩ := h
    refine ⟨_, (hbody cdv A outer s H Ex hr (takes_of rfl rfl rfl rfl)).pss, g, ⟨ts.map .val ++ List.replicate (N.length - ts.length) .emp, Sx⟩, start_rel r rl, ?_⟩
    unfold fnM at h
    unfold run
    cases e : c ⟨ts.map .val ++ List.replicate (N.length - ts.length) .emp, Sx⟩ with
    | none => rw [e] at h; exact h.elim
    | some p =>
      obtain ⟨q, st'⟩ := p
      rw [e] at h
      cases q with
      | exc x => exact fun g' σ' H' c d r' s' rx => h g' H' c d r'.toRelS s' rx
      | ok fl =>
        cases fl with
        | nxt => exact fun g' σ' H' r' s' => h g' H' .non r'.toRelS s' (by unfold RepT; rfl)
        | ret t => exact fun g' σ' H' r' s' v rv => h g' H' v r'.toRelS s' rv
        | brk => exact h.elim
        | cnt => exact h.elim
end
/-- the caller's own things are nobody's business below -/
def Gh.low (g : Gh) : Gh := { g with own := fun p => match g.own p with | .slot _ => .out | l => l }
def Gh.back (g g' : Gh) : Gh := { g' with own := fun p => match g.own p with | .slot i => .slot i | _ => (match g'.own p with | .slot _ => .out | l => l) }
theorem low_slot {g : Gh} {p : Addr} {i : Nat} : g.low.own p ≠ .slot i := by
  intro h
  have h : (match g.own p with | .slot _ => Ow.out | l => l) = .slot i := h
  cases e : g.own p <;> rw [e] at h <;> cases h
theorem Rel.low {K : PySem.W.Frag} {st : Stt} (r : Rel K g st σ H) : RelS K g.low st.S H := by
  have key : ∀ p, g.low.own p = (match g.own p with | .slot _ => .out | l => l) := fun _ => rfl
  have gs : GStp g g.low := ⟨Same.refl _, Nat.le_refl _, fun _ _ => rfl⟩
  refine ⟨r.zs, fun p o e => ?_, fun p e => ?_, r.n, fun a ob e => ?_⟩
  · rw [key, r.zo p o e]
  · rw [key, r.fr p e]
  · obtain ⟨h1, h2⟩ := r.box a ob e
    exact ⟨by rw [key]; show (match g.own (g.ρ a) with | .slot _ => Ow.out | l => l) = _; rw [h1], h2.gstep gs⟩
theorem Rel.back {K : PySem.W.Frag} {st : Stt} {g' : Gh} {H' : Hp} {S' : List Ob} (r : Rel K g st σ H) (r' : RelS K g' S' H') (s : Stp g.low g' H H') : Rel K (g.back g') ⟨st.σ, S'⟩ σ H' ∧ Stp g (g.back g') H H' ∧ GStp g' (g.back g') := by
  have key : ∀ p, (g.back g').own p = (match g.own p with | .slot i => .slot i | _ => (match g'.own p with | .slot _ => .out | l => l)) := fun _ => rfl
  have lo : ∀ p, g.low.own p = (match g.own p with | .slot _ => .out | l => l) := fun _ => rfl
  have gs : GStp g' (g.back g') := ⟨Same.refl _, Nat.le_refl _, fun _ _ => rfl⟩
  have gs2 : GStp g (g.back g') := ⟨s.z, s.n, s.ρ⟩
  -- an owned object of the caller's stays
  have stay : ∀ p i o, g.own p = .slot i → H p = some o → g'.own p = .out ∧ H' p = some o := fun p i o h1 h2 => s.out p o (by rw [lo, h1]) h2
  have some_ : ∀ p i, g.own p = .slot i → ∃ o, H p = some o := fun p i h => by
    cases e : H p with
    | some o => exact ⟨o, rfl⟩
    | none => rw [r.fr p e] at h; cases h
  refine ⟨⟨⟨r'.zs, fun p o e => ?_, fun p e => ?_, r'.n, fun a ob e => ?_⟩, r.len, fun i sl v e1 e2 => ?_⟩, ⟨s.z, s.n, s.ρ, fun p o h1 h2 => ?_⟩, gs⟩
  · rw [key]
    cases h : g.own p with
    | slot i =>
      obtain ⟨o', ho⟩ := some_ p i h
      have := (stay p i o' h ho).1
      rw [r'.zo p o e] at this
      cases this
    | _ => simp only [r'.zo p o e]
  · rw [key]
    cases h : g.own p with
    | slot i =>
      obtain ⟨o', ho⟩ := some_ p i h
      have := (stay p i o' h ho).2
      rw [e] at this
      cases this
    | _ => simp only [r'.fr p e]
  · obtain ⟨h1, h2⟩ := r'.box a ob e
    refine ⟨?_, h2.gstep gs⟩
    rw [key]
    show (match g.own (g'.ρ a) with | .slot i => Ow.slot i | _ => (match g'.own (g'.ρ a) with | .slot _ => Ow.out | l => l)) = .box a
    cases h : g.own (g'.ρ a) with
    | slot i =>
      obtain ⟨o', ho⟩ := some_ _ i h
      have := (stay _ i o' h ho).1
      rw [h1] at this
      cases this
    | _ => simp only [h1]
  · have q := r.slot i sl v e1 e2
    cases sl with
    | emp => trivial
    | val t =>
      obtain ⟨x, e, q⟩ := q
      exact ⟨x, e, q.gstep gs2⟩
    | own ob =>
      obtain ⟨p, e, q1, q2⟩ := q
      obtain ⟨o', ho⟩ := some_ p i q1
      refine ⟨p, e, by rw [key, q1], ?_⟩
      rw [(stay p i o' q1 ho).2, ← ho]
      exact q2.gstep gs2
  · have h3 := s.out p o (by rw [lo, h1]) h2
    refine ⟨?_, h3.2⟩
    rw [key, h1]
    simp only [h3.1]
/-- a call of a def -/
def eFn (m : FnM) (ma : M (List T)) : M T := do
  let ts ← ma
  fun st => match m ts st.S with
    | some (r, S') => some (r, { st with S := S' })
    | none => none
/-- what is told of an exception stays told -/
def RXok (RX : Gh → Xn → Value → Option Addr → Hp → Prop) : Prop := ∀ g g' x c d H, GStp g g' → RX g x c d H → RX g' x c d H
theorem fn_call {n : Nat} {m : FnM} {ma : M (List T)} {Q : VK} (hR : RXok E.RX) (hn : ∀ ts st, (∃ st', ma st = some (.ok ts, st')) → ts.length = n) (h : teM E (eFn m ma) σ H Q) :
    taM E ma σ H fun vs H1 => spM E.K E.RX n m (vs ++ []) H1 Q (fun c d H' => E.W c d σ H') := by
  obtain ⟨g, st, r, h⟩ := h
  have h := run_bind h
  refine ⟨g, st, r, ?_⟩
  unfold run at h ⊢
  cases e : ma st with
  | none => simp only [e] at h
  | some p =>
    obtain ⟨q, st1⟩ := p
    simp only [e] at h ⊢
    cases q with
    | exc x => exact h
    | ok ts =>
      simp only at h ⊢
      intro g1 H1 r1 s1 vs rl
      rw [List.append_nil]
      refine ⟨g1.low, st1.S, ts, hn ts st ⟨st1, e⟩, r1.low, rl.gstep (g := g1) (g' := g1.low) ⟨Same.refl _, Nat.le_refl _, fun _ _ => rfl⟩, fun _ _ => low_slot, ?_⟩
      cases em : m ts st1.S with
      | none => simp only [em] at h
      | some p =>
        obtain ⟨q, S'⟩ := p
        simp only [em] at h
        cases q with
        | ok t =>
          intro g' H' v r' s' rv
          obtain ⟨r2, s2, gs⟩ := r1.back r' s'
          exact h _ H' r2 (s1.trans s2) v (rv.gstep gs)
        | exc x =>
          intro g' H' c d r' s' rx
          obtain ⟨r2, s2, gs⟩ := r1.back r' s'
          exact h _ H' c d r2 (s1.trans s2) (hR _ _ _ _ _ _ gs rx)
theorem pass_at {W : WX} (tk : Takes X W) : ∀ σ, PassesAt (L2.CX X.prog X.w) X σ (fun c d H' => W c d σ H') := fun σ => passAt tk σ
theorem me_fn {k n : Nat} {f : Addr} {fd : FuncData} {ps : List Str} {m : FnM} {ma : M (List T)} {x : Str} {p : Pos} {e : Expr} {es : List Expr} (F : FnOk X.prog X.w X.K X.mg X.base (L2.CX X.prog X.w) k f fd ps (spM E.K E.RX n m)) (hr : Room k X.A) (hg : Gl X x) (hm : X.mg x = some (.ref f)) (hk : PySem.W.keepIn X.K (.ref f) = true) (hb : Binds X.K fd ps [])
    (tk : Takes X E.W) (hR : RXok E.RX) (ha : AM E X (e :: es) ma) (hn : ∀ ts st, (∃ st', ma st = some (.ok ts, st')) → ts.length = n) (hdb : (x == ("__debug__" : Str)) = false := by decide) (he : starEach (e :: es) X.env = (false, eval e X.env) :: starEach es X.env := by rfl) (hpl : (backTo pos (starEach es X.env)).any (·.1) = false := by rfl) :
    ME E X (.Call (.Name x p) (e :: es) [] pos) (eFn m ma) :=
  ⟨PE.mono (pe_callSD F hr hg hm hk hb .nil (pass_at tk) ha.pa hdb he hpl) fun σ H Q q => fn_call hR hn q⟩
end
end Sw
namespace Sw
open PySem PySem.Spec PyProof.Rows L2
open Classical

section
variable {E : Ev} {g g1 : Gh} {H H1 : Hp} {σ : L2.St} {X : Cx} {pos : Pos}
/-! ### what is walked -/
structure Itr where
  ts : List T
  chk : Stt → Prop
/-- the iterator J yields ts, as long as chk holds -/
structure ItOk (E : Ev) (g : Gh) (σ0 : L2.St) (l : List Nat) (J : It) (it : Itr) : Prop where
  go : ∀ g' st' σ' H' i, Rel E.K g' st' σ' H' → GStp g g' → it.chk st' → (∀ j ∈ l, σ'[j]? = σ0[j]?) → i < it.ts.length → J.go i H'
  stop : ∀ g' st' σ' H', Rel E.K g' st' σ' H' → GStp g g' → it.chk st' → (∀ j ∈ l, σ'[j]? = σ0[j]?) → J.stop it.ts.length H'
  yld : ∀ g' st' σ' H' i x H2, Rel E.K g' st' σ' H' → GStp g g' → it.chk st' → (∀ j ∈ l, σ'[j]? = σ0[j]?) → i < it.ts.length → J.yld i H' x H2 → ∃ g2 t, Rel E.K g2 st' σ' H2 ∧ Stp g' g2 H' H2 ∧ it.ts[i]? = some t ∧ RepT E.K g2 t x
def okI (E : Ev) (l : List Nat) (g : Gh) (H : Hp) (σ : L2.St) (R : It → Hp → Prop) (it : Itr) (st' : Stt) : Prop := beh E g H σ st' fun g' H' => ∀ J, ItOk E g' σ l J it → R J H'
def tiM (E : Ev) (l : List Nat) (m : M Itr) : TI := fun σ H R => ∃ g, at_ E m g σ H (okI E l g H σ R)
structure IM (E : Ev) (l : List Nat) (X : Cx) (tg iter : Expr) (m : M Itr) : Prop where pi : PI X tg iter (tiM E l m)
theorem PI.mono {tg e : Expr} {t t' : TI} (h : PI X tg e t) (w : ∀ σ H Q, t' σ H Q → t σ H Q) : PI X tg e t' := ⟨fun pins s σ H Q I q => h.run pins s σ H Q I (w σ H Q q)⟩
theorem st_okI {l : List Nat} {R : It → Hp → Prop} : Steps (fun g H => okI E l g H σ R) := fun _ _ _ _ _ _ s h => beh.step s h
theorem RepT.fz_of {K : PySem.W.Frag} {ts : List T} {v : V} (h : RepT K g (.fz ts) v) : ∃ a xs, v = .ref a ∧ g.Z a = some (.lst xs) ∧ RepL K g ts xs := by unfold RepT at h; exact h
theorem RepT.tup_of {K : PySem.W.Frag} {ts : List T} {v : V} (h : RepT K g (.tup ts) v) : ∃ a xs, v = .ref a ∧ SqT K g.Z a xs ∧ RepL K g ts xs := by unfold RepT at h; exact h
theorem RepT.str_of {K : PySem.W.Frag} {s : List Nat} {v : V} (h : RepT K g (.str s) v) : v = .str (sS s) := by unfold RepT at h; exact h
theorem RepT.int_of {K : PySem.W.Frag} {i : Int} {v : V} (h : RepT K g (.int i) v) : v = .int i := by unfold RepT at h; exact h
theorem lt_get {α : Type} {ts : List α} {i : Nat} (h : i < ts.length) : ∃ t, ts[i]? = some t := ⟨ts[i], List.getElem?_eq_getElem h⟩
theorem it_list {a : Addr} {xs : List V} {ts : List T} {l : List Nat} (hz : g.Z a = some (.lst xs)) (rl : RepL E.K g ts xs) : ItOk E g σ l (Itl X.K a) ⟨ts, fun _ => True⟩ := by
  have sq : ∀ {g' st' σ' H'}, Rel E.K g' st' σ' H' → GStp g g' → SqL X.K H' a xs := fun r s => .inl (.inl (r.zs _ _ (s.z _ _ hz)))
  refine ⟨fun g' st' σ' H' i r s _ _ hi => ?_, fun g' st' σ' H' r s _ _ => ⟨xs, sq r s, by rw [rl.len]; exact Nat.le_refl _⟩, fun g' st' σ' H' i x H2 r s _ _ hi y => ?_⟩
  · obtain ⟨t, e⟩ := lt_get hi
    obtain ⟨x, ex, _⟩ := rl.get e
    exact ⟨xs, x, sq r s, ex⟩
  · obtain ⟨t, e⟩ := lt_get hi
    obtain ⟨x', ex, rx⟩ := rl.get e
    obtain ⟨eH, y⟩ := y
    subst eH
    have e2 := y xs (sq r s)
    rw [ex] at e2
    cases e2
    exact ⟨g', t, r, Stp.refl _ _, e, rx.gstep s⟩
/-- a list that stands still -/
def iFz (m : M T) : M Itr := do
  match ← m with
  | .fz ts => pure ⟨ts, fun _ => True⟩
  | _ => stuck
theorem im_fz {l : List Nat} {tg e : Expr} {m : M T} (h : ME E X e m) : IM E l X tg e (iFz m) :=
  ⟨PI.mono (pi_list h.pe) fun σ H R ⟨g, q⟩ => seqT st_okI q fun t v g1 H1 s1 rv h1 => by
    cases t with
    | fz ts =>
      obtain ⟨st, r, z⟩ := at_pure h1
      obtain ⟨a, xs, e, hz, rl⟩ := rv.fz_of
      exact ⟨a, e, ⟨xs, .inl (.inl (r.zs _ _ hz))⟩, z g1 H1 r (Stp.refl _ _) _ (it_list hz rl)⟩
    | _ => obtain ⟨_, _, z⟩ := h1; exact z.elim⟩
/-- a tuple -/
def iTu (m : M T) : M Itr := do
  match ← m with
  | .tup ts => pure ⟨ts, fun _ => True⟩
  | _ => stuck
theorem im_tu {l : List Nat} {tg e : Expr} {m : M T} (h : ME E X e m) (hK : E.K = X.K := by rfl) : IM E l X tg e (iTu m) :=
  ⟨PI.mono (pi_tup h.pe) fun σ H R ⟨g, q⟩ => seqT st_okI q fun t v g1 H1 s1 rv h1 => by
    cases t with
    | tup ts =>
      obtain ⟨st, r, z⟩ := at_pure h1
      obtain ⟨a, xs, e, hz, rl⟩ := rv.tup_of
      rw [hK] at hz
      refine ⟨a, e, ⟨xs, sameT r.zs hz⟩, z g1 H1 r (Stp.refl _ _) _ ?_⟩
      have sq : ∀ {g' st' σ' H'}, Rel E.K g' st' σ' H' → GStp g1 g' → SqT X.K H' a xs := fun r s => sameT r.zs (sameT s.z hz)
      refine ⟨fun g' st' σ' H' i r s _ _ hi => ?_, fun g' st' σ' H' r s _ _ => ⟨xs, sq r s, by rw [rl.len]; exact Nat.le_refl _⟩, fun g' st' σ' H' i x H2 r s _ _ hi y => ?_⟩
      · obtain ⟨t, e⟩ := lt_get hi
        obtain ⟨x, ex, _⟩ := rl.get e
        exact ⟨xs, x, sq r s, ex⟩
      · obtain ⟨t, e⟩ := lt_get hi
        obtain ⟨x', ex, rx⟩ := rl.get e
        obtain ⟨eH, y⟩ := y
        subst eH
        have e2 := y xs (sq r s)
        rw [ex] at e2
        cases e2
        exact ⟨g', t, r, Stp.refl _ _, e, rx.gstep s⟩
    | _ => obtain ⟨_, _, z⟩ := h1; exact z.elim⟩
/-- a list as it stands at each turn: it must not change -/
def iVar (i : Nat) : M Itr := fun st => match rVar i st with
  | some (.fz ts) => some (.ok ⟨ts, fun st' => rVar i st' = some (.fz ts)⟩, st)
  | _ => none
/-- range(n) -/
def iRange (m : M (List T)) : M Itr := do
  match ← m with
  | [.int n] => if n ≤ 1000000 ∧ -1000000 ≤ n then pure ⟨(List.range n.toNat).map fun k => .int (k : Nat), fun _ => True⟩ else stuck
  | _ => stuck
theorem RepL.one_of {K : PySem.W.Frag} {t : T} {vs : List V} (h : RepL K g [t] vs) : ∃ v, vs = [v] ∧ RepT K g t v := by
  unfold RepL at h
  obtain ⟨v, r, e, a, b⟩ := h
  unfold RepL at b
  subst b
  exact ⟨v, e, a⟩
theorem it_range {lo : Int} {n : Nat} {l : List Nat} : ItOk E g σ l (L2.Itr lo n) ⟨(List.range n).map fun k => .int (lo + (k : Nat)), fun _ => True⟩ := by
  refine ⟨fun g' st' σ' H' i r s _ _ hi => by show i < n; simpa using hi, fun g' st' σ' H' r s _ _ => ?_, fun g' st' σ' H' i x H2 r s _ _ hi y => ?_⟩
  · show n ≤ _
    simp
  · obtain ⟨e1, e2⟩ := y
    subst e1
    subst e2
    have hi : i < n := by simpa using hi
    exact ⟨g', .int (lo + i), r, Stp.refl _ _, by simp [hi], rt_int _⟩
theorem im_range {l : List Nat} {tg a : Expr} {m : M (List T)} {p : Pos} (hg : Gl X "range") (hm : X.mg "range" = none) (ha : AM E X [a] m) (hs : starEach [a] X.env = [(false, eval a X.env)] := by rfl) : IM E l X tg (.Call (.Name "range" p) [a] [] pos) (iRange m) :=
  ⟨PI.mono (pi_range1 hg hm ha.pa hs) fun σ H R ⟨g, q⟩ => ⟨g, seq_any (Φ := fun g H => okI E l g H σ R) st_okI q fun ts st1 k g1 H1 r1 s1 vs rl => by
    have h1 := k g1 H1 r1 s1
    match ts, h1 with
    | [.int n], h1 =>
      simp only at h1
      by_cases hn : n ≤ 1000000 ∧ -1000000 ≤ n
      · rw [if_pos hn] at h1
        obtain ⟨st, r, z⟩ := at_pure h1
        obtain ⟨v, e, rv⟩ := rl.one_of
        refine ⟨n, by rw [e, rv.int_of], by omega, by omega, z g1 H1 r (Stp.refl _ _) _ ?_⟩
        have := it_range (E := E) (g := g1) (σ := σ) (lo := 0) (n := n.toNat) (l := l)
        simpa using this
      · rw [if_neg hn] at h1
        obtain ⟨_, _, z⟩ := h1
        exact z.elim
    | [], h1 => obtain ⟨_, _, z⟩ := h1; exact z.elim
    | .non :: _, h1 => obtain ⟨_, _, z⟩ := h1; exact z.elim
    | .bl _ :: _, h1 => obtain ⟨_, _, z⟩ := h1; exact z.elim
    | .str _ :: _, h1 => obtain ⟨_, _, z⟩ := h1; exact z.elim
    | .ty _ :: _, h1 => obtain ⟨_, _, z⟩ := h1; exact z.elim
    | .tup _ :: _, h1 => obtain ⟨_, _, z⟩ := h1; exact z.elim
    | .fz _ :: _, h1 => obtain ⟨_, _, z⟩ := h1; exact z.elim
    | .ref _ :: _, h1 => obtain ⟨_, _, z⟩ := h1; exact z.elim
    | .scr _ :: _, h1 => obtain ⟨_, _, z⟩ := h1; exact z.elim
    | .dic _ _ :: _, h1 => obtain ⟨_, _, z⟩ := h1; exact z.elim
    | .int _ :: _ :: _, h1 => obtain ⟨_, _, z⟩ := h1; exact z.elim⟩⟩
/-- a text, sign by sign -/
def iStrM (m : M T) : M Itr := do
  match ← m with
  | .str s => pure ⟨s.map fun c => .str [c], fun _ => True⟩
  | _ => stuck
theorem im_str {l : List Nat} {tg e : Expr} {m : M T} (h : ME E X e m) : IM E l X tg e (iStrM m) :=
  ⟨PI.mono (pi_str h.pe) fun σ H R ⟨g, q⟩ => seqT st_okI q fun t v g1 H1 s1 rv h1 => by
    cases t with
    | str s =>
      obtain ⟨st, r, z⟩ := at_pure h1
      have hz : (sS s).cps.size = s.length := by simp [sS]
      refine ⟨sS s, rv.str_of, z g1 H1 r (Stp.refl _ _) _ ⟨fun g' st' σ' H' i r s' _ _ hi => ?_, fun g' st' σ' H' r s' _ _ => ?_, fun g' st' σ' H' i x H2 r s' _ _ hi y => ?_⟩⟩
      · show i < (sS s).cps.size
        rw [hz]
        simpa using hi
      · show (sS s).cps.size ≤ _
        rw [hz]
        simp
      · obtain ⟨e1, c, e2, e3⟩ := y
        subst e1
        subst e3
        have e2 : s[i]? = some c := by simpa [sS] using e2
        exact ⟨g', .str [c], r, Stp.refl _ _, by simp [e2], rt_str _⟩
    | _ => obtain ⟨_, _, z⟩ := h1; exact z.elim⟩
/-- enumerate(a list that stands still) -/
def enumT (ts : List T) : List T := ts.mapIdx fun k t => .tup [.int (k : Nat), t]
def iEnumM (m : M (List T)) : M Itr := do
  match ← m with
  | [.fz ts] => pure ⟨enumT ts, fun _ => True⟩
  | _ => stuck
theorem RepL.two {K : PySem.W.Frag} {t u : T} {x y : V} (h1 : RepT K g t x) (h2 : RepT K g u y) : RepL K g [t, u] [x, y] := by
  unfold RepL
  exact ⟨x, [y], rfl, h1, .one h2⟩
theorem it_enum {a : Addr} {xs : List V} {ts : List T} {l : List Nat} (hz : g.Z a = some (.lst xs)) (rl : RepL E.K g ts xs) : ItOk E g σ l (Ite X.K a) ⟨enumT ts, fun _ => True⟩ := by
  have sq : ∀ {g' st' σ' H'}, Rel E.K g' st' σ' H' → GStp g g' → SqL X.K H' a xs := fun r s => .inl (.inl (r.zs _ _ (s.z _ _ hz)))
  have hlen : (enumT ts).length = ts.length := by simp [enumT]
  refine ⟨fun g' st' σ' H' i r s _ _ hi => ?_, fun g' st' σ' H' r s _ _ => ⟨xs, sq r s, by rw [rl.len, ← hlen]; exact Nat.le_refl _⟩, fun g' st' σ' H' i x H2 r s _ _ hi y => ?_⟩
  · have hi : i < ts.length := by rw [← hlen]; exact hi
    obtain ⟨t, e⟩ := lt_get hi
    obtain ⟨x, ex, _⟩ := rl.get e
    exact ⟨xs, x, sq r s, ex⟩
  · have hi : i < ts.length := by rw [← hlen]; exact hi
    obtain ⟨t, e⟩ := lt_get hi
    obtain ⟨x', ex, rx⟩ := rl.get e
    obtain ⟨p, z, e1, hp, e2, y⟩ := y
    have e3 := y xs (sq r s)
    rw [ex] at e3
    cases e3
    obtain ⟨r2, s2⟩ := r.frz (o := .tup [.int (i : Nat), x']) hp
    rw [e1, e2]
    refine ⟨_, .tup [.int (i : Nat), t], r2, s2, by simp [enumT, e], rep_tup hp r.zs (.two (rt_int _) (rx.gstep s))⟩
theorem im_enum {l : List Nat} {e : Expr} {m : M (List T)} {p tpos : Pos} {elts : List Expr} {kk : Nat} (hg : Gl X "enumerate") (hm : X.mg "enumerate" = none) (ha : AM E X [e] m) (hs : starEach [e] X.env = [(false, eval e X.env)] := by rfl) :
    IM E l X (.Tuple elts kk tpos) (.Call (.Name "enumerate" p) [e] [] pos) (iEnumM m) :=
  ⟨PI.mono (pi_enum hg hm ha.pa hs) fun σ H R ⟨g, q⟩ => ⟨g, seq_any (Φ := fun g H => okI E l g H σ R) st_okI q fun ts st1 k g1 H1 r1 s1 vs rl => by
    have h1 := k g1 H1 r1 s1
    match ts, h1 with
    | [.fz us], h1 =>
      obtain ⟨st, r, z⟩ := at_pure h1
      obtain ⟨v, e, rv⟩ := rl.one_of
      obtain ⟨a, xs, e2, hz, rl'⟩ := rv.fz_of
      exact ⟨a, xs, by rw [e, e2], .inl (.inl (r.zs _ _ hz)), z g1 H1 r (Stp.refl _ _) _ (it_enum hz rl')⟩
    | [], h1 => obtain ⟨_, _, z⟩ := h1; exact z.elim
    | .non :: _, h1 => obtain ⟨_, _, z⟩ := h1; exact z.elim
    | .bl _ :: _, h1 => obtain ⟨_, _, z⟩ := h1; exact z.elim
    | .str _ :: _, h1 => obtain ⟨_, _, z⟩ := h1; exact z.elim
    | .ty _ :: _, h1 => obtain ⟨_, _, z⟩ := h1; exact z.elim
    | .tup _ :: _, h1 => obtain ⟨_, _, z⟩ := h1; exact z.elim
    | .int _ :: _, h1 => obtain ⟨_, _, z⟩ := h1; exact z.elim
    | .ref _ :: _, h1 => obtain ⟨_, _, z⟩ := h1; exact z.elim
    | .scr _ :: _, h1 => obtain ⟨_, _, z⟩ := h1; exact z.elim
    | .dic _ _ :: _, h1 => obtain ⟨_, _, z⟩ := h1; exact z.elim
    | .fz _ :: _ :: _, h1 => obtain ⟨_, _, z⟩ := h1; exact z.elim⟩⟩
/-- zip of two lists that stand still -/
def zipT (ts us : List T) : List T := (ts.zip us).map fun p => .tup [p.1, p.2]
def iZipM (m : M (List T)) : M Itr := do
  match ← m with
  | [.fz ts, .fz us] => pure ⟨zipT ts us, fun _ => True⟩
  | _ => stuck
theorem RepL.two_of {K : PySem.W.Frag} {t u : T} {vs : List V} (h : RepL K g [t, u] vs) : ∃ v w, vs = [v, w] ∧ RepT K g t v ∧ RepT K g u w := by
  unfold RepL at h
  obtain ⟨v, r, e, a, b⟩ := h
  obtain ⟨w, e2, c⟩ := b.one_of
  subst e2
  exact ⟨v, w, e, a, c⟩
theorem it_zip {a b : Addr} {xs ys : List V} {ts us : List T} {l : List Nat} (hz : g.Z a = some (.lst xs)) (rl : RepL E.K g ts xs) (hz2 : g.Z b = some (.lst ys)) (rl2 : RepL E.K g us ys) : ItOk E g σ l (Itz X.K a b) ⟨zipT ts us, fun _ => True⟩ := by
  have sq : ∀ {g' st' σ' H'}, Rel E.K g' st' σ' H' → GStp g g' → SqL X.K H' a xs := fun r s => .inl (.inl (r.zs _ _ (s.z _ _ hz)))
  have sq2 : ∀ {g' st' σ' H'}, Rel E.K g' st' σ' H' → GStp g g' → SqL X.K H' b ys := fun r s => .inl (.inl (r.zs _ _ (s.z _ _ hz2)))
  have hlen : (zipT ts us).length = min ts.length us.length := by simp [zipT]
  refine ⟨fun g' st' σ' H' i r s _ _ hi => ?_, fun g' st' σ' H' r s _ _ => ⟨xs, ys, sq r s, sq2 r s, ?_⟩, fun g' st' σ' H' i x H2 r s _ _ hi y => ?_⟩
  · have hi : i < min ts.length us.length := by rw [← hlen]; exact hi
    obtain ⟨t, e⟩ := lt_get (show i < ts.length by omega)
    obtain ⟨x, ex, _⟩ := rl.get e
    obtain ⟨t, e⟩ := lt_get (show i < us.length by omega)
    obtain ⟨y, ey, _⟩ := rl2.get e
    exact ⟨xs, ys, x, y, sq r s, sq2 r s, ex, ey⟩
  · show xs.length ≤ (zipT ts us).length ∨ ys.length ≤ (zipT ts us).length
    rw [hlen, rl.len, rl2.len]
    omega
  · have hi : i < min ts.length us.length := by rw [← hlen]; exact hi
    obtain ⟨t, e⟩ := lt_get (show i < ts.length by omega)
    obtain ⟨x', ex, rx⟩ := rl.get e
    obtain ⟨u, e'⟩ := lt_get (show i < us.length by omega)
    obtain ⟨y', ey, ry⟩ := rl2.get e'
    obtain ⟨p, z, z2, e1, hp, e2, yx, yy⟩ := y
    have e3 := yx xs (sq r s)
    rw [ex] at e3
    cases e3
    have e4 := yy ys (sq2 r s)
    rw [ey] at e4
    cases e4
    obtain ⟨r2, s2⟩ := r.frz (o := .tup [x', y']) hp
    rw [e1, e2]
    refine ⟨_, .tup [t, u], r2, s2, ?_, rep_tup hp r.zs (.two (rx.gstep s) (ry.gstep s))⟩
    simp only [zipT]
    have ez : (ts.zip us)[i]? = some (t, u) := List.getElem?_zip_eq_some.mpr ⟨e, e'⟩
    rw [List.getElem?_map, ez]
    rfl
theorem im_zip {l : List Nat} {e e2 : Expr} {m : M (List T)} {p tpos : Pos} {elts : List Expr} {kk : Nat} (hg : Gl X "zip") (hm : X.mg "zip" = none) (ha : AM E X [e, e2] m)
    (hs : starEach [e, e2] X.env = (false, eval e X.env) :: starEach [e2] X.env := by rfl) (hpl : (backTo pos (starEach [e2] X.env)).any (·.1) = false := by rfl) :
    IM E l X (.Tuple elts kk tpos) (.Call (.Name "zip" p) [e, e2] [] pos) (iZipM m) :=
  ⟨PI.mono (pi_zip hg hm ha.pa hs hpl) fun σ H R ⟨g, q⟩ => ⟨g, seq_any (Φ := fun g H => okI E l g H σ R) st_okI q fun ts st1 k g1 H1 r1 s1 vs rl => by
    have h1 := k g1 H1 r1 s1
    have key : ∀ {α : Type} {Φ : α → Stt → Prop}, at_ E (stuck : M α) g1 σ H1 Φ → False := fun ⟨_, _, z⟩ => z
    match ts, h1 with
    | [.fz us, .fz ws], h1 =>
      obtain ⟨st, r, z⟩ := at_pure h1
      obtain ⟨v, w, e, rv, rw'⟩ := rl.two_of
      obtain ⟨a, xs, e1, hz, rl1⟩ := rv.fz_of
      obtain ⟨b, ys, e2, hz2, rl2⟩ := rw'.fz_of
      exact ⟨a, b, xs, ys, by rw [e, e1, e2], .inl (.inl (r.zs _ _ hz)), .inl (.inl (r.zs _ _ hz2)), z g1 H1 r (Stp.refl _ _) _ (it_zip hz rl1 hz2 rl2)⟩
    | [], h1 => exact (key h1).elim
    | [x], h1 => cases x <;> exact (key h1).elim
    | x :: y :: z :: r, h1 => cases x <;> first | exact (key h1).elim | (cases y <;> exact (key h1).elim)
    | [.non, _], h1 => exact (key h1).elim
    | [.bl _, _], h1 => exact (key h1).elim
    | [.int _, _], h1 => exact (key h1).elim
    | [.str _, _], h1 => exact (key h1).elim
    | [.ty _, _], h1 => exact (key h1).elim
    | [.tup _, _], h1 => exact (key h1).elim
    | [.ref _, _], h1 => exact (key h1).elim
    | [.scr _, _], h1 => exact (key h1).elim
    | [.dic _ _, _], h1 => exact (key h1).elim
    | [.fz _, .non], h1 => exact (key h1).elim
    | [.fz _, .bl _], h1 => exact (key h1).elim
    | [.fz _, .int _], h1 => exact (key h1).elim
    | [.fz _, .str _], h1 => exact (key h1).elim
    | [.fz _, .ty _], h1 => exact (key h1).elim
    | [.fz _, .tup _], h1 => exact (key h1).elim
    | [.fz _, .scr _], h1 => exact (key h1).elim
    | [.fz _, .dic _ _], h1 => exact (key h1).elim
    | [.fz _, .ref _], h1 => exact (key h1).elim⟩⟩

/-! ### for -/
noncomputable def forL (chk : Stt → Prop) (tg : Tg) (body : Cmd) : List T → Cmd
  | [] => fun st => if chk st then some (.ok .nxt, st) else none
  | t :: ts => fun st => if chk st then match asgT tg t st.σ with
      | none => none
      | some σ' => match body { st with σ := σ' } with
        | some (.ok .nxt, st') => forL chk tg body ts st'
        | some (.ok .cnt, st') => forL chk tg body ts st'
        | some (.ok .brk, st') => some (.ok .nxt, st')
        | some (.ok (.ret v), st') => some (.ok (.ret v), st')
        | some (.exc x, st') => some (.exc x, st')
        | none => none
    else none
noncomputable def cFor (mi : M Itr) (tg : Tg) (body : Cmd) : Cmd := do let it ← mi; forL it.chk tg body it.ts
theorem Stp.toG {g g' : Gh} {H H' : Hp} (s : Stp g g' H H') : GStp g g' := ⟨s.z, s.n, s.ρ⟩
theorem sm_for {tge iter : Expr} {body : List Stmt} {mi : M Itr} {tg : Tg} {c : Cmd} (hp : PassesOwn (model X.prog X.w) X.A X.env X.xe) (hc : X.calm = true) (hi : IM E [] X tge iter mi) (hg : GM E X tge tg) (hb : SSM E X body c)
    (hs : ∀ x, foldedSetIterable iter X.env x = pure x := by intro _; rfl) : SM E X (.For tge iter body [] pos) (cFor mi tg c) :=
  ⟨PS.mono (ps_for hp hc hi.pi hg.pg hb.pss hs) fun D σ H ⟨g, q⟩ => ⟨g, s_seq q fun it st1 k g1 H1 r1 s1 J ok => by
    obtain ⟨st, r, z⟩ := k g1 H1 r1 s1
    refine ⟨fun i m σ2 H2 => ∃ g2 st2, Rel E.K g2 st2 σ2 H2 ∧ Stp g1 g2 H1 H2 ∧ m = it.ts.length - i ∧ i ≤ it.ts.length ∧ run (forL it.chk tg c (it.ts.drop i)) st2 (okS E D g1 H1) (exS E g1 H1),
      ⟨it.ts.length, g1, st, r, Stp.refl _ _, rfl, Nat.zero_le _, z⟩, ?_⟩
    rintro i m σ2 H2 ⟨g2, st2, r2, s2, rfl, hi, z2⟩
    by_cases hlt : i < it.ts.length
    · have ed : it.ts.drop i = it.ts[i] :: it.ts.drop (i + 1) := List.drop_eq_getElem_cons hlt
      rw [ed] at z2
      unfold run forL at z2
      by_cases hch : it.chk st2
      · simp only [if_pos hch] at z2
        refine .inr ⟨ok.go g2 st2 σ2 H2 i r2 s2.toG hch (fun _ h => nomatch h) hlt, fun σ3 H3 => ∃ g3 st3, Rel E.K g3 st3 σ3 H3 ∧ Stp g1 g3 H1 H3 ∧ run (forL it.chk tg c (it.ts.drop (i + 1))) st3 (okS E D g1 H1) (exS E g1 H1), ?_, ?_⟩
        · rintro σ3 H3 ⟨g3, st3, r3, s3, z3⟩
          exact ⟨it.ts.length - (i + 1), by omega, g3, st3, r3, s3, rfl, hlt, z3⟩
        · intro x H3 y
          obtain ⟨g3, t, r3, s3, et, rt⟩ := ok.yld g2 st2 σ2 H2 i x H3 r2 s2.toG hch (fun _ h => nomatch h) hlt y
          rw [List.getElem?_eq_getElem hlt] at et
          cases et
          cases ea : asgT tg it.ts[i] st2.σ with
          | none => simp only [ea] at z2
          | some σ' =>
            simp only [ea] at z2
            refine ⟨g3, st2, it.ts[i], σ', r3, rt, ea, fun σV rV _ => ⟨g3, { st2 with σ := σ' }, rV, ?_⟩⟩
            have s13 := s2.trans s3
            unfold run
            cases eb : c { st2 with σ := σ' } with
            | none => simp only [eb] at z2
            | some p =>
              obtain ⟨fl, st4⟩ := p
              simp only [eb] at z2
              cases fl with
              | exc x => exact exS.step s13 z2
              | ok fl =>
                cases fl with
                | nxt => exact fun g' σ' H' r' s' => ⟨g', st4, r', s13.trans s', z2⟩
                | cnt => exact fun g' σ' H' r' s' => ⟨g', st4, r', s13.trans s', z2⟩
                | brk => exact fun g' σ' H' r' s' => z2 g' σ' H' r' (s13.trans s')
                | ret v => exact fun g' σ' H' r' s' => z2 g' σ' H' r' (s13.trans s')
      · simp only [if_neg hch] at z2
    · have e : i = it.ts.length := by omega
      subst e
      rw [List.drop_length] at z2
      unfold run forL at z2
      by_cases hch : it.chk st2
      · simp only [if_pos hch] at z2
        exact .inl ⟨ok.stop g2 st2 σ2 H2 r2 s2.toG hch (fun _ h => nomatch h), z2 g2 σ2 H2 r2 s2⟩
      · simp only [if_neg hch] at z2⟩⟩

/-! ### while -/
def whileL (b : M Bool) (body : Cmd) : Nat → Cmd
  | 0 => stuck
  | n + 1 => do
    if ← b then
      match ← body with
      | .nxt => whileL b body n
      | .cnt => whileL b body n
      | .brk => pure .nxt
      | .ret v => pure (.ret v)
    else pure .nxt
theorem sm_while {te : Expr} {body : List Stmt} {b : M Bool} {c : Cmd} (n : Nat) (hp : PassesOwn (model X.prog X.w) X.A X.env X.xe) (hb : TM E X te b) (hc : SSM E X body c) : SM E X (.While te body [] pos) (whileL b c n) :=
  ⟨PS.mono (ps_while hp hb.pt hc.pss) fun D σ H ⟨g, st, r, z⟩ => by
    refine ⟨fun m σ2 H2 => ∃ g2 st2, Rel E.K g2 st2 σ2 H2 ∧ Stp g g2 H H2 ∧ run (whileL b c m) st2 (okS E D g H) (exS E g H), ⟨n, g, st, r, Stp.refl _ _, z⟩, ?_⟩
    rintro m σ2 H2 ⟨g2, st2, r2, s2, z2⟩
    cases m with
    | zero => exact z2.elim
    | succ m =>
      have z2 := run_bind z2
      refine ⟨g2, st2, r2, run_mono z2 (fun d st3 y g3 H3 r3 s3 => ?_) fun _ _ y => (y.step s2).w⟩
      have s23 := s2.trans s3
      cases d with
      | false => exact iteF (y g3 σ2 H3 r3 s23)
      | true =>
        refine iteT ⟨fun σ4 H4 => ∃ g4 st4, Rel E.K g4 st4 σ4 H4 ∧ Stp g g4 H H4 ∧ run (whileL b c m) st4 (okS E D g H) (exS E g H), fun σ4 H4 ⟨g4, st4, r4, s4, z4⟩ => ⟨m, Nat.lt_succ_self m, g4, st4, r4, s4, z4⟩, ?_⟩
        refine ⟨g3, st3, r3, run_mono (run_bind y) (fun fl st4 y g4 σ4 H4 r4 s4 => ?_) fun _ _ y => y.step s23⟩
        cases fl with
        | nxt => exact ⟨g4, st4, r4, s23.trans s4, y⟩
        | cnt => exact ⟨g4, st4, r4, s23.trans s4, y⟩
        | brk => exact y g4 σ4 H4 r4 (s23.trans s4)
        | ret v => exact y g4 σ4 H4 r4 (s23.trans s4)⟩
end
end Sw
namespace Sw
open PySem PySem.Spec PyProof.Rows L2
open Classical

section
variable {E : Ev} {g g1 : Gh} {H H1 : Hp} {σ : L2.St} {X : Cx} {pos : Pos}
theorem rVar_some {st : Stt} {i : Nat} {t : T} (r : Rel E.K g st σ H) (e : rVar i st = some t) : ∃ v, σ[i]? = some (some v) := by
  unfold rVar at e
  cases es : st.σ[i]? with
  | none => rw [es] at e; cases e
  | some sl =>
    have hi : i < σ.length := by rw [← r.len]; exact (List.getElem?_eq_some_iff.mp es).1
    have ev : σ[i]? = some σ[i] := List.getElem?_eq_getElem hi
    have q := r.slot i sl _ es ev
    cases sl with
    | emp => rw [es] at e; cases e
    | val t => obtain ⟨x, e, _⟩ := q; exact ⟨x, by rw [ev, e]⟩
    | own ob => obtain ⟨p, e, _⟩ := q; exact ⟨_, by rw [ev, e]⟩
/-! ### a list as it stands at each turn -/
theorem im_var {tg e : Expr} {i : Nat} (h : PE X e (tVar i)) : IM E [i] X tg e (iVar i) :=
  ⟨PI.mono (pi_list h) fun σ H R ⟨g, st, r, z⟩ => by
    unfold run iVar at z
    cases e1 : rVar i st with
    | none => simp only [e1] at z
    | some t =>
      simp only [e1] at z
      cases t with
      | fz ts =>
        simp only at z
        obtain ⟨v, ev⟩ := rVar_some r e1
        have rd := var_rd (E := E) (g := g) (H := H) (st := st) ev
        obtain ⟨a, xs, e, ha, rl⟩ := rd g st H _ r (Stp.refl _ _) e1
        have sq : ∀ {g' st' σ' H'}, Rel E.K g' st' σ' H' → (∀ j ∈ [i], σ'[j]? = σ[j]?) → rVar i st' = some (.fz ts) → ∃ xs, H' a = some (.lst xs) ∧ RepL E.K g' ts xs := fun {g' st' σ' H'} r' hs e' => by
          have ev' : σ'[i]? = some (some v) := (hs i (List.mem_singleton.mpr rfl)).trans ev
          have rd' := var_rd (E := E) (g := g') (H := H') (st := st') ev'
          obtain ⟨b, ys, e2, hb, rl2⟩ := rd' g' st' H' _ r' (Stp.refl _ _) e'
          rw [e] at e2
          cases e2
          exact ⟨ys, hb, rl2⟩
        refine ⟨v, ev, a, e, ⟨xs, .inl (.inl ha)⟩, z g H r (Stp.refl _ _) _ ⟨fun g' st' σ' H' k r' s hch hs hi => ?_, fun g' st' σ' H' r' s hch hs => ?_, fun g' st' σ' H' k x H2 r' s hch hs hi y => ?_⟩⟩
        · obtain ⟨ys, hb, rl2⟩ := sq r' hs hch
          obtain ⟨t, e⟩ := lt_get hi
          obtain ⟨x, ex, _⟩ := rl2.get e
          exact ⟨ys, x, .inl (.inl hb), ex⟩
        · obtain ⟨ys, hb, rl2⟩ := sq r' hs hch
          exact ⟨ys, .inl (.inl hb), by rw [rl2.len]; exact Nat.le_refl _⟩
        · obtain ⟨ys, hb, rl2⟩ := sq r' hs hch
          obtain ⟨t, e⟩ := lt_get hi
          obtain ⟨x', ex, rx⟩ := rl2.get e
          obtain ⟨eH, y⟩ := y
          subst eH
          have e2 := y ys (.inl (.inl hb))
          rw [ex] at e2
          cases e2
          exact ⟨g', t, r', Stp.refl _ _, e, rx⟩
      | _ => exact z.elim⟩

/-! ### comprehensions -/
def Ev.nox (E : Ev) : Ev := { E with W := fun _ _ _ _ => False }
def wipeS (σ : List Sl) : List Nat → List Sl
  | [] => σ
  | v :: vs => (wipeS σ vs).set v .emp
def restS (σ0 σ : List Sl) : List Nat → List Sl
  | [] => σ
  | v :: vs => (restS σ0 σ vs).set v (σ0[v]?.getD .emp)
def notOwn : Option Sl → Bool
  | some (.own _) => false
  | _ => true
noncomputable def lcL (chk : Stt → Prop) (own : List Nat) (tg : Tg) (test : M Bool) (elt : M T) : List T → Stt → Option (List T × Stt)
  | [], st => if chk st then some ([], st) else none
  | t :: ts, st => if chk st then match asgT tg t st.σ with
      | none => none
      | some σ' => match test { st with σ := σ' } with
        | some (.ok true, st1) => match elt st1 with
          | some (.ok y, st2) => match lcL chk own tg test elt ts { st2 with σ := wipeS st2.σ own } with
            | some (ys, st3) => some (y :: ys, st3)
            | none => none
          | _ => none
        | some (.ok false, st1) => lcL chk own tg test elt ts { st1 with σ := wipeS st1.σ own }
        | _ => none
    else none
noncomputable def fComp (mi : M Itr) (own : List Nat) (tg : Tg) (test : M Bool) (elt : M T) : M Ob := do
  let it ← mi
  fun st => if it.ts.length ≤ 1000000 ∧ own.all (fun v => notOwn st.σ[v]?) = true then
      match lcL it.chk own tg test elt it.ts { st with σ := wipeS st.σ own } with
      | some (ys, st') => some (.ok (.lst ys), { st' with σ := restS st.σ st'.σ own })
      | none => none
    else none
theorem wipeS_len {σ : List Sl} : ∀ {vs : List Nat}, (wipeS σ vs).length = σ.length
  | [] => rfl
  | v :: vs => by unfold wipeS; rw [List.length_set, wipeS_len]
theorem restS_len {σ0 σ : List Sl} : ∀ {vs : List Nat}, (restS σ0 σ vs).length = σ.length
  | [] => rfl
  | v :: vs => by unfold restS; rw [List.length_set, restS_len]
theorem wipeS_get {σ : List Sl} : ∀ {vs : List Nat} {i : Nat} {s : Sl}, (wipeS σ vs)[i]? = some s → (i ∈ vs ∧ s = .emp) ∨ (i ∉ vs ∧ σ[i]? = some s)
  | [], i, s, h => .inr ⟨by simp, h⟩
  | v :: vs, i, s, h => by
    unfold wipeS at h
    by_cases e : v = i
    · subst e
      have hl : v < (wipeS σ vs).length := by
        have := (List.getElem?_eq_some_iff.mp h).1
        simpa using this
      rw [List.getElem?_set_self hl] at h
      cases h
      exact .inl ⟨List.mem_cons_self, rfl⟩
    · rw [List.getElem?_set_ne e] at h
      rcases wipeS_get h with ⟨h1, h2⟩ | ⟨h1, h2⟩
      · exact .inl ⟨List.mem_cons_of_mem _ h1, h2⟩
      · exact .inr ⟨by simp only [List.mem_cons, not_or]; exact ⟨fun z => e z.symm, h1⟩, h2⟩
theorem restS_get {σ0 σ : List Sl} : ∀ {vs : List Nat} {i : Nat} {s : Sl}, (restS σ0 σ vs)[i]? = some s → (i ∈ vs ∧ s = σ0[i]?.getD .emp) ∨ (i ∉ vs ∧ σ[i]? = some s)
  | [], i, s, h => .inr ⟨by simp, h⟩
  | v :: vs, i, s, h => by
    unfold restS at h
    by_cases e : v = i
    · subst e
      have hl : v < (restS σ0 σ vs).length := by
        have := (List.getElem?_eq_some_iff.mp h).1
        simpa using this
      rw [List.getElem?_set_self hl] at h
      cases h
      exact .inl ⟨List.mem_cons_self, rfl⟩
    · rw [List.getElem?_set_ne e] at h
      rcases restS_get h with ⟨h1, h2⟩ | ⟨h1, h2⟩
      · exact .inl ⟨List.mem_cons_of_mem _ h1, h2⟩
      · exact .inr ⟨by simp only [List.mem_cons, not_or]; exact ⟨fun z => e z.symm, h1⟩, h2⟩
theorem Rel.wipe {st : Stt} {vs : List Nat} (r : Rel E.K g st σ H) : Rel E.K g { st with σ := wipeS st.σ vs } (L2.wipe σ vs) H :=
  ⟨r.toRelS, by rw [wipe_length, wipeS_len, r.len], fun i s v e1 e2 => by
    rcases wipeS_get e1 with ⟨_, h2⟩ | ⟨h1, h2⟩
    · subst h2
      trivial
    · rw [wipe_get, if_neg h1] at e2
      exact r.slot i s v h2 e2⟩
theorem Rel.rest {st st' : Stt} {vs : List Nat} (r : Rel E.K g st σ H) (no : vs.all (fun v => notOwn st.σ[v]?) = true) (r' : Rel E.K g1 st' (L2.wipe σ vs) H1) (gs : GStp g g1) : Rel E.K g1 { st' with σ := restS st.σ st'.σ vs } σ H1 :=
  ⟨r'.toRelS, by rw [restS_len, r'.len, wipe_length], fun i s v e1 e2 => by
    rcases restS_get e1 with ⟨h1, h2⟩ | ⟨h1, h2⟩
    · have hn := List.all_eq_true.mp no i h1
      cases es : st.σ[i]? with
      | none =>
        rw [es] at h2
        subst h2
        trivial
      | some sl =>
        rw [es] at h2 hn
        have h2 : s = sl := h2
        subst h2
        have q := r.slot i s v es e2
        cases s with
        | emp => trivial
        | val t =>
          obtain ⟨x, e, q⟩ := q
          exact ⟨x, e, q.gstep gs⟩
        | own ob => cases hn
    · have e3 : (L2.wipe σ vs)[i]? = some v := by rw [wipe_get, if_neg h1]; exact e2
      exact r'.slot i s v h2 e3⟩
/-- an object that nobody owns is laid, changed, forgotten -/
theorem Rel.outUpd {st : Stt} {p : Addr} {o : HO} (r : Rel E.K g st σ H) (op : g.own p = .out) : Rel E.K g st σ (upd H p o) := by
  refine ⟨⟨fun b u e => ?_, r.zo, fun b e => ?_, r.n, fun a ob e => ?_⟩, r.len, fun i s v e1 e2 => ?_⟩
  · have hb : b ≠ p := fun z => by
      rw [z] at e
      have := r.zo p u e
      rw [op] at this
      cases this
    rw [upd_ne hb]
    exact r.zs b u e
  · by_cases hb : b = p
    · rw [hb]; exact op
    · rw [upd_ne hb] at e
      exact r.fr b e
  · obtain ⟨h1, h2⟩ := r.box a ob e
    have hb : g.ρ a ≠ p := fun z => by rw [z, op] at h1; cases h1
    rw [upd_ne hb]
    exact ⟨h1, h2⟩
  · have q := r.slot i s v e1 e2
    cases s with
    | emp => trivial
    | val t => exact q
    | own ob =>
      obtain ⟨p', e, q1, q2⟩ := q
      have hb : p' ≠ p := fun z => by rw [z, op] at q1; cases q1
      exact ⟨p', e, q1, by rw [upd_ne hb]; exact q2⟩
def forget (H : Hp) (p : Addr) : Hp := fun b => if b = p then none else H b
theorem forget_same {H : Hp} {p : Addr} : forget H p p = none := by unfold forget; rw [if_pos rfl]
theorem forget_ne {H : Hp} {b p : Addr} (h : b ≠ p) : forget H p b = H b := by unfold forget; rw [if_neg h]
theorem forget_upd {H : Hp} {p : Addr} {o : HO} (h : H p = some o) : upd (forget H p) p o = H := by
  funext b
  by_cases hb : b = p
  · subst hb; rw [upd_same, h]
  · rw [upd_ne hb, forget_ne hb]
theorem Rel.forget {st : Stt} {p : Addr} (r : Rel E.K g st σ H) (op : g.own p = .out) : Rel E.K g st σ (forget H p) := by
  refine ⟨⟨fun b u e => ?_, r.zo, fun b e => ?_, r.n, fun a ob e => ?_⟩, r.len, fun i s v e1 e2 => ?_⟩
  · have hb : b ≠ p := fun z => by
      rw [z] at e
      have := r.zo p u e
      rw [op] at this
      cases this
    rw [forget_ne hb]
    exact r.zs b u e
  · by_cases hb : b = p
    · rw [hb]; exact op
    · rw [forget_ne hb] at e
      exact r.fr b e
  · obtain ⟨h1, h2⟩ := r.box a ob e
    have hb : g.ρ a ≠ p := fun z => by rw [z, op] at h1; cases h1
    rw [forget_ne hb]
    exact ⟨h1, h2⟩
  · have q := r.slot i s v e1 e2
    cases s with
    | emp => trivial
    | val t => exact q
    | own ob =>
      obtain ⟨p', e, q1, q2⟩ := q
      have hb : p' ≠ p := fun z => by rw [z, op] at q1; cases q1
      exact ⟨p', e, q1, by rw [forget_ne hb]; exact q2⟩
theorem Only.wipes {l : List Nat} {σ σ1 : L2.St} {vs : List Nat} (a : Only l (L2.wipe σ vs) σ1) (h : ∀ i ∈ l, i ∈ vs) : L2.wipe σ1 vs = L2.wipe σ vs := by
  rw [(a.mono h).wipe]
  apply List.ext_getElem?
  intro i
  rw [wipe_get, wipe_get]
  by_cases hi : i ∈ vs
  · rw [if_pos hi, if_pos hi]
    cases σ[i]? <;> rfl
  · rw [if_neg hi, if_neg hi]
def bYes : M Bool := pure true
structure QM (E : Ev) (X : Cx) (ifs : List Expr) (m : M Bool) : Prop where pts : PTs X ifs (ttM E m)
theorem PTs.mono {e : List Expr} {t t' : TT} (h : PTs X e t) (w : ∀ σ H Q, t' σ H Q → t σ H Q) : PTs X e t' := ⟨fun pins s σ H Q I q => h.run pins s σ H Q I (w σ H Q q)⟩
theorem qm_nil : QM E X [] bYes := ⟨PTs.mono pts_nil fun σ H Q ⟨g, st, r, q⟩ => q g H r (Stp.refl _ _)⟩
theorem qm_one {c : Expr} {m : M Bool} (h : TM E X c m) : QM E X [c] m := ⟨pts_one h.pt⟩
theorem lc_lift {own : List Nat} {l : List Nat} {mi : M Itr} {tg : Tg} {test : M Bool} {elt : M T} (hl : ∀ j ∈ l, j ∉ own) (ht : ∀ i ∈ tg.ix, i ∈ own) {Q : VK} (h : tfM E (fComp mi own tg test elt) σ H Q) :
    tLc (tiM E l mi) (tgM E.nox tg) (ttM E.nox test) (teM E.nox elt) own σ H Q := by
  obtain ⟨g, h⟩ := h
  refine ⟨g, seq_any (Φ := fun g H => okF E g H σ Q) st_okF h fun it st1 k g1 H1 r1 s1 J ok D hD => ?_⟩
  obtain ⟨st, r, z⟩ := k g1 H1 r1 s1
  unfold run at z
  by_cases hc : it.ts.length ≤ 1000000 ∧ own.all (fun v => notOwn st.σ[v]?) = true
  · simp only [if_pos hc] at z
    cases ez : lcL it.chk own tg test elt it.ts { st with σ := wipeS st.σ own } with
    | none => simp only [ez] at z
    | some p =>
      obtain ⟨zs, stE⟩ := p
      simp only [ez] at z
      have oD : g1.own D = .out := r.fr D hD
      have r0 : Rel E.K g1 { st with σ := wipeS st.σ own } (L2.wipe σ own) (upd H1 D (.lst [])) := r.wipe.outUpd oD
      have s0 : Stp g1 g1 H1 (upd H1 D (.lst [])) := ⟨Same.refl _, Nat.le_refl _, fun _ _ => rfl, fun p o h1 h2 => ⟨h1, by rw [upd_ne (ne_of_none h2 hD)]; exact h2⟩⟩
      refine ⟨fun i m H2 => ∃ g2 st2 acc xs rest, Rel E.K g2 st2 (L2.wipe σ own) H2 ∧ Stp g1 g2 H1 H2 ∧ g2.own D = .out ∧ H2 D = some (.lst xs) ∧ RepL E.K g2 acc xs ∧ acc.length ≤ i ∧ m = it.ts.length - i ∧ i ≤ it.ts.length ∧
          lcL it.chk own tg test elt (it.ts.drop i) st2 = some (rest, stE) ∧ zs = acc ++ rest,
        ⟨it.ts.length, g1, _, [], [], zs, r0, s0, oD, upd_same, .nil, Nat.zero_le _, rfl, Nat.zero_le _, ez, rfl⟩, ?_⟩
      rintro i m H2 ⟨g2, st2, acc, xs, rest, r2, s2, o2, h2, rl, hal, rfl, hi, e2, ezs⟩
      have hs0 : ∀ j ∈ l, (L2.wipe σ own)[j]? = σ[j]? := fun j hj => by rw [wipe_get, if_neg (hl j hj)]
      by_cases hlt : i < it.ts.length
      · have ed : it.ts.drop i = it.ts[i] :: it.ts.drop (i + 1) := List.drop_eq_getElem_cons hlt
        rw [ed] at e2
        unfold lcL at e2
        by_cases hch : it.chk st2
        · rw [if_pos hch] at e2
          refine .inr ⟨ok.go g2 st2 _ H2 i r2 s2.toG hch hs0 hlt, fun H3 => ∃ g3 st3 acc xs rest, Rel E.K g3 st3 (L2.wipe σ own) H3 ∧ Stp g1 g3 H1 H3 ∧ g3.own D = .out ∧ H3 D = some (.lst xs) ∧ RepL E.K g3 acc xs ∧ acc.length ≤ i + 1 ∧
              lcL it.chk own tg test elt (it.ts.drop (i + 1)) st3 = some (rest, stE) ∧ zs = acc ++ rest, ?_, ?_⟩
          · rintro H3 ⟨g3, st3, acc, xs, rest, a1, a2, a3, a4, a5, a6, a7, a8⟩
            exact ⟨it.ts.length - (i + 1), by omega, g3, st3, acc, xs, rest, a1, a2, a3, a4, a5, a6, rfl, hlt, a7, a8⟩
          · intro x H3 y
            obtain ⟨g3, t, r3, s3, et, rt⟩ := ok.yld g2 st2 _ H2 i x H3 r2 s2.toG hch hs0 hlt y
            rw [List.getElem?_eq_getElem hlt] at et
            cases et
            have o3 := s3.out D _ o2 h2
            cases ea : asgT tg it.ts[i] st2.σ with
            | none => rw [ea] at e2; cases e2
            | some σ' =>
              rw [ea] at e2
              simp only at e2
              refine ⟨g3, st2, it.ts[i], σ', r3, rt, ea, fun σV rV oV => ?_⟩
              have hw : L2.wipe σV own = L2.wipe σ own := oV.wipes ht
              refine ⟨hw, ?_⟩
              have s13 := s2.trans s3
              refine ⟨g3, { st2 with σ := σ' }, rV, ?_⟩
              unfold run
              cases et : test { st2 with σ := σ' } with
              | none => rw [et] at e2; cases e2
              | some p =>
                obtain ⟨rr, st4⟩ := p
                rw [et] at e2
                cases rr with
                | exc x => cases e2
                | ok b =>
                  intro g4 H4 r4 s4
                  have o4 := s4.out D _ o3.1 o3.2
                  have s14 := s13.trans s4
                  cases b with
                  | false =>
                    simp only at e2
                    refine iteF ⟨g4, { st4 with σ := wipeS st4.σ own }, acc, xs, rest, ?_, s14, o4.1, o4.2, (rl.gstep s3.toG).gstep s4.toG, by omega, e2, ezs⟩
                    rw [← hw]
                    exact r4.wipe
                  | true =>
                    simp only at e2
                    refine iteT ⟨g4, st4, r4, ?_⟩
                    unfold run
                    cases ee : elt st4 with
                    | none => rw [ee] at e2; cases e2
                    | some p =>
                      obtain ⟨rr, st5⟩ := p
                      rw [ee] at e2
                      cases rr with
                      | exc x => cases e2
                      | ok u =>
                        intro g5 H5 r5 s5 v rv
                        have o5 := s5.out D _ o4.1 o4.2
                        simp only at e2
                        cases er : lcL it.chk own tg test elt (it.ts.drop (i + 1)) { st5 with σ := wipeS st5.σ own } with
                        | none => rw [er] at e2; cases e2
                        | some p =>
                          obtain ⟨rs, stF⟩ := p
                          rw [er] at e2
                          cases e2
                          have s15 := s14.trans s5
                          have rl5 := ((rl.gstep s3.toG).gstep s4.toG).gstep s5.toG
                          have rr5 : Rel E.K g5 { st5 with σ := wipeS st5.σ own } (L2.wipe σ own) (upd H5 D (.lst (xs ++ [v]))) := by
                            rw [← hw]
                            exact r5.wipe.outUpd o5.1
                          refine ⟨xs, o5.2, ?_, g5, _, acc ++ [u], xs ++ [v], rs, rr5, ?_, o5.1, upd_same, rl5.app (.one rv), by simp; omega, er, by rw [ezs]; simp⟩
                          · have := rl5.len
                            have hz : sizeLine = 16777216 := sizeLine_eq
                            omega
                          · exact ⟨s15.z, s15.n, s15.ρ, fun p o h1 h3 => by
                              have := s15.out p o h1 h3
                              refine ⟨this.1, ?_⟩
                              rw [upd_ne (ne_of_none h3 hD)]
                              exact this.2⟩
        · rw [if_neg hch] at e2
          cases e2
      · have e : i = it.ts.length := by omega
        subst e
        rw [List.drop_length] at e2
        unfold lcL at e2
        by_cases hch : it.chk st2
        · rw [if_pos hch] at e2
          cases e2
          refine .inl ⟨ok.stop g2 _ _ H2 r2 s2.toG hch hs0, ?_⟩
          have rf := r.rest hc.2 (r2.forget o2) s2.toG
          have sf : Stp g1 g2 H1 (forget H2 D) := ⟨s2.z, s2.n, s2.ρ, fun p o h1 h3 => by
            have := s2.out p o h1 h3
            refine ⟨this.1, ?_⟩
            rw [forget_ne (ne_of_none h3 hD)]
            exact this.2⟩
          rw [List.append_nil] at ezs
          have q := z g2 (forget H2 D) rf sf D (.lst xs) forget_same ⟨xs, rfl, by rw [ezs]; exact rl⟩
          rw [forget_upd h2] at q
          exact q
        · rw [if_neg hch] at e2
          cases e2
  · simp only [if_neg hc] at z
section
variable {elt tge iter : Expr} {ifs : List Expr} {scope : Scope} {own : List (Str × Nat)} {l : List Nat} {mi : M Itr} {tg : Tg} {test : M Bool} {me : M T}
theorem fe_comp (hc : X.calm = true) (hN : X.N.Nodup) (hi : IM E l X tge iter mi) (ok : BlkOk X.N X.env.scope scope own) (hl : ∀ j ∈ l, j ∉ own.map (·.2)) (ht : ∀ i ∈ tg.ix, i ∈ own.map (·.2))
    (hg : ∀ (s : Shared) (H : Hp) (C : Addr) (cl : List (Str × Addr)) (fp : List Addr), GM E.nox (X.blk s H scope (compEnvC scope cl C X.env) fp) tge tg) (hq : ∀ (s : Shared) (H : Hp) (C : Addr) (cl : List (Str × Addr)) (fp : List Addr), QM E.nox (X.blk s H scope (compEnvC scope cl C X.env) fp) ifs test)
    (he : ∀ (s : Shared) (H : Hp) (C : Addr) (cl : List (Str × Addr)) (fp : List Addr), ME E.nox (X.blk s H scope (compEnvC scope cl C X.env) fp) elt me) (hs : ∀ x, foldedSetIterable iter X.env x = pure x := by intro _; rfl) :
    FE E X (.ListComp elt [⟨tge, iter, ifs, 0⟩] scope pos) (fComp mi (own.map (·.2)) tg test me) :=
  ⟨PE.mono (pe_lc hc hN hi.pi ok (fun s H C cl fp => (hg s H C cl fp).pg) (fun s H C cl fp => (hq s H C cl fp).pts) (fun s H C cl fp => (he s H C cl fp).pe) hs) fun _ _ _ q => lc_lift hl ht q⟩
/-- name = [..] on one line: the name's own list, or one that stands still -/
theorem sm_ownC {i : Nat} {y : Str} {py spos : Pos} (hc : X.calm = true) (hN : X.N.Nodup) (hy : X.N[i]? = some y) (hyl : X.env.scope.names.lookup y = some .local)
    (hsw : swapsWith (.ListComp elt [⟨tge, iter, ifs, 0⟩] scope pos) (some (.Name y py)) spos.line X.env = pure true) (hi : IM E l X tge iter mi) (ok : BlkOk X.N X.env.scope scope own) (hl : ∀ j ∈ l, j ∉ own.map (·.2)) (ht : ∀ i ∈ tg.ix, i ∈ own.map (·.2))
    (hg : ∀ (s : Shared) (H : Hp) (C : Addr) (cl : List (Str × Addr)) (fp : List Addr), GM E.nox (X.blk s H scope (compEnvC scope cl C X.env) fp) tge tg) (hq : ∀ (s : Shared) (H : Hp) (C : Addr) (cl : List (Str × Addr)) (fp : List Addr), QM E.nox (X.blk s H scope (compEnvC scope cl C X.env) fp) ifs test)
    (he : ∀ (s : Shared) (H : Hp) (C : Addr) (cl : List (Str × Addr)) (fp : List Addr), ME E.nox (X.blk s H scope (compEnvC scope cl C X.env) fp) elt me) (hs : ∀ x, foldedSetIterable iter X.env x = pure x := by intro _; rfl) :
    SM E X (.Assign [.Name y py] (.ListComp elt [⟨tge, iter, ifs, 0⟩] scope pos) spos) (cOwn i (fComp mi (own.map (·.2)) tg test me)) :=
  ⟨PS.mono (ps_setLc hc hN hy hyl hsw hi.pi ok (fun s H C cl fp => (hg s H C cl fp).pg) (fun s H C cl fp => (hq s H C cl fp).pts) (fun s H C cl fp => (he s H C cl fp).pe) hs) fun D σ H h => tOwn_lift (fun _ _ _ z => lc_lift hl ht z) h⟩
theorem fz_lift {m : M Ob} {Q : VK} (h : teM E (eFz m) σ H Q) : tfM E m σ H Q := by
  obtain ⟨g, q⟩ := h
  exact ⟨g, seq_any (Φ := fun g H => okT E g H σ Q) st_okT q fun ob st1 k g1 H1 r1 s1 p o hp ro => by
    have h2 := k g1 H1 r1 s1
    cases ob with
    | lst ts =>
      obtain ⟨st, r, z⟩ := at_pure h2
      obtain ⟨xs, e, rl⟩ := ro
      cases e
      obtain ⟨r2, s2⟩ := r.frz (o := .lst xs) hp
      exact z _ _ r2 s2 _ (rep_fz hp r.zs rl)
    | _ => obtain ⟨_, _, z⟩ := h2; exact z.elim⟩
theorem sm_setC {i : Nat} {y : Str} {py spos : Pos} (hc : X.calm = true) (hN : X.N.Nodup) (hy : X.N[i]? = some y) (hyl : X.env.scope.names.lookup y = some .local)
    (hsw : swapsWith (.ListComp elt [⟨tge, iter, ifs, 0⟩] scope pos) (some (.Name y py)) spos.line X.env = pure true) (hi : IM E l X tge iter mi) (ok : BlkOk X.N X.env.scope scope own) (hl : ∀ j ∈ l, j ∉ own.map (·.2)) (ht : ∀ i ∈ tg.ix, i ∈ own.map (·.2))
    (hg : ∀ (s : Shared) (H : Hp) (C : Addr) (cl : List (Str × Addr)) (fp : List Addr), GM E.nox (X.blk s H scope (compEnvC scope cl C X.env) fp) tge tg) (hq : ∀ (s : Shared) (H : Hp) (C : Addr) (cl : List (Str × Addr)) (fp : List Addr), QM E.nox (X.blk s H scope (compEnvC scope cl C X.env) fp) ifs test)
    (he : ∀ (s : Shared) (H : Hp) (C : Addr) (cl : List (Str × Addr)) (fp : List Addr), ME E.nox (X.blk s H scope (compEnvC scope cl C X.env) fp) elt me) (hs : ∀ x, foldedSetIterable iter X.env x = pure x := by intro _; rfl) :
    SM E X (.Assign [.Name y py] (.ListComp elt [⟨tge, iter, ifs, 0⟩] scope pos) spos) (cSet i (eFz (fComp mi (own.map (·.2)) tg test me))) :=
  ⟨PS.mono (ps_setLc hc hN hy hyl hsw hi.pi ok (fun s H C cl fp => (hg s H C cl fp).pg) (fun s H C cl fp => (hq s H C cl fp).pts) (fun s H C cl fp => (he s H C cl fp).pe) hs) fun D σ H h => tSet_lift (fun _ _ _ z => lc_lift hl ht (fz_lift z)) h⟩
end
end
end Sw
namespace Sw
open PySem PySem.Spec PyProof.Rows L2

section
variable {E : Ev} {g g1 : Gh} {H H1 : Hp} {σ : L2.St} {X : Cx} {pos : Pos}
/-! ### places: an object that may be changed -/
abbrev Plc := Stt → Option (Ob × (Ob → Stt))
def PlcOk (E : Ev) (g : Gh) (H : Hp) (σ : L2.St) (pl : Plc) (v : V) : Prop := ∀ g' st' H' ob set, Rel E.K g' st' σ H' → Stp g g' H H' → pl st' = some (ob, set) →
  ∃ p, v = .ref p ∧ RepO E.K g' ob (H' p) ∧ ∀ ob' o', RepO E.K g' ob' (some o') → Rel E.K g' (set ob') σ (upd H' p o') ∧ Stp g' g' H' (upd H' p o')
theorem PlcOk.step {pl : Plc} {v : V} (s : Stp g g1 H H1) (h : PlcOk E g H σ pl v) : PlcOk E g1 H1 σ pl v := fun g' st' H' ob set r s' e => h g' st' H' ob set r (s.trans s') e
def okP (E : Ev) (g : Gh) (H : Hp) (σ : L2.St) (Q : VK) (pl : Plc) (st' : Stt) : Prop := beh E g H σ st' fun g' H' => ∀ v, PlcOk E g' H' σ pl v → Q v H'
def tplM (E : Ev) (m : M Plc) : TE := fun σ H Q => ∃ g, at_ E m g σ H (okP E g H σ Q)
structure LM (E : Ev) (X : Cx) (e : Expr) (m : M Plc) : Prop where pe : PE X e (tplM E m)
theorem st_okP {Q : VK} : Steps (fun g H => okP E g H σ Q) := fun _ _ _ _ _ _ s h => beh.step s h
theorem seqPl {β : Type} {m : M Plc} {f : Plc → M β} {Φ : Gh → Hp → β → Stt → Prop} (hΦ : Steps Φ) {Q : VK} (h : at_ E (m >>= f) g σ H (Φ g H))
    (k : ∀ t v g1 H1, Stp g g1 H H1 → PlcOk E g1 H1 σ t v → at_ E (f t) g1 σ H1 (Φ g1 H1) → Q v H1) : tplM E m σ H Q :=
  ⟨g, seq_any hΦ h fun t st1 q g1 H1 r1 s1 v rv => k t v g1 H1 s1 rv (q g1 H1 r1 s1)⟩
theorem sPl {m : M Plc} {f : Plc → Cmd} {D : Ends} {Q : VK} (h : atS E (m >>= f) g σ H D)
    (k : ∀ t v g1 H1, Stp g g1 H H1 → PlcOk E g1 H1 σ t v → atS E (f t) g1 σ H1 D → Q v H1) : tplM E m σ H Q :=
  ⟨g, s_seq h fun t st1 q g1 H1 r1 s1 v rv => k t v g1 H1 s1 rv (q g1 H1 r1 s1)⟩
/-- an owned object changes -/
theorem RelS.change {K : PySem.W.Frag} {S : List Ob} {p : Addr} {o : HO} (r : RelS K g S H) (h1 : g.own p ≠ .fz) (h2 : g.own p ≠ .out) (h3 : ∀ a, g.own p = .box a → ∀ ob, S[a]? = some ob → RepO K g ob (some o)) : RelS K g S (upd H p o) := by
  refine ⟨fun b u e => ?_, r.zo, fun b e => ?_, r.n, fun a ob e => ?_⟩
  · have hb : b ≠ p := fun z => h1 (by rw [← z]; exact r.zo b u e)
    rw [upd_ne hb]
    exact r.zs b u e
  · by_cases hb : b = p
    · subst hb
      rw [upd_same] at e
      cases e
    · rw [upd_ne hb] at e
      exact r.fr b e
  · obtain ⟨q1, q2⟩ := r.box a ob e
    by_cases hb : g.ρ a = p
    · refine ⟨q1, ?_⟩
      rw [hb] at q1 ⊢
      rw [upd_same]
      exact h3 a q1 ob e
    · rw [upd_ne hb]
      exact ⟨q1, q2⟩
theorem Stp.change {p : Addr} {o : HO} (h2 : g.own p ≠ .out) : Stp g g H (upd H p o) :=
  ⟨Same.refl _, Nat.le_refl _, fun _ _ => rfl, fun b u q1 q2 => ⟨q1, by rw [upd_ne (fun z => h2 (by rw [← z]; exact q1))]; exact q2⟩⟩
def pVar (i : Nat) : Plc := fun st => match st.σ[i]? with
  | some (.own ob) => some (ob, fun o => { st with σ := st.σ.set i (.own o) })
  | some (.val (.ref a)) => match st.S[a]? with
    | some ob => some (ob, fun o => { st with S := st.S.set a o })
    | none => none
  | _ => none
def pRef (a : Nat) : Plc := fun st => match st.S[a]? with
  | some ob => some (ob, fun o => { st with S := st.S.set a o })
  | none => none
theorem rel_setOwn {st : Stt} {i : Nat} {p : Addr} {ob ob' : Ob} {o : HO} (r : Rel E.K g st σ H) (es : st.σ[i]? = some (.own ob)) (ev : σ[i]? = some (some (.ref p))) (op : g.own p = .slot i) (ro : RepO E.K g ob' (some o)) :
    Rel E.K g { st with σ := st.σ.set i (.own ob') } σ (upd H p o) := by
  refine ⟨r.toRelS.change (by rw [op]; exact fun z => by cases z) (by rw [op]; exact fun z => by cases z) (fun a z => by rw [op] at z; cases z), by simpa using r.len, fun j s v e1 e2 => ?_⟩
  by_cases hj : i = j
  · subst hj
    have e1 : (st.σ.set i (.own ob'))[i]? = some s := e1
    rw [List.getElem?_set_self (List.getElem?_eq_some_iff.mp es).1] at e1
    cases e1
    rw [ev] at e2
    cases e2
    exact ⟨p, rfl, op, by rw [upd_same]; exact ro⟩
  · have e1 : (st.σ.set i (.own ob'))[j]? = some s := e1
    rw [List.getElem?_set_ne hj] at e1
    have q := r.slot j s v e1 e2
    cases s with
    | emp => trivial
    | val t => exact q
    | own ob2 =>
      obtain ⟨p', e, q1, q2⟩ := q
      have hb : p' ≠ p := fun z => by
        rw [z, op] at q1
        injection q1 with q1
        exact hj q1
      exact ⟨p', e, q1, by rw [upd_ne hb]; exact q2⟩
theorem rel_setBox {st : Stt} {a : Nat} {ob ob' : Ob} {o : HO} (r : Rel E.K g st σ H) (es : st.S[a]? = some ob) (ro : RepO E.K g ob' (some o)) : Rel E.K g { st with S := st.S.set a ob' } σ (upd H (g.ρ a) o) ∧ g.own (g.ρ a) = .box a := by
  obtain ⟨op, _⟩ := r.box a ob es
  have ha : a < st.S.length := (List.getElem?_eq_some_iff.mp es).1
  refine ⟨⟨⟨fun b u e => ?_, r.zo, fun b e => ?_, by simpa using r.n, fun c ob2 e => ?_⟩, r.len, fun j s v e1 e2 => ?_⟩, op⟩
  · have hb : b ≠ g.ρ a := fun z => by
      have := r.zo b u e
      rw [z, op] at this
      cases this
    rw [upd_ne hb]
    exact r.zs b u e
  · by_cases hb : b = g.ρ a
    · rw [hb, upd_same] at e
      cases e
    · rw [upd_ne hb] at e
      exact r.fr b e
  · have e : (st.S.set a ob')[c]? = some ob2 := e
    by_cases hc : a = c
    · subst hc
      rw [List.getElem?_set_self ha] at e
      cases e
      exact ⟨op, by rw [upd_same]; exact ro⟩
    · rw [List.getElem?_set_ne hc] at e
      obtain ⟨q1, q2⟩ := r.box c ob2 e
      have hb : g.ρ c ≠ g.ρ a := fun z => by
        rw [z, op] at q1
        injection q1 with q1
        exact hc q1
      exact ⟨q1, by rw [upd_ne hb]; exact q2⟩
  · have q := r.slot j s v e1 e2
    cases s with
    | emp => trivial
    | val t => exact q
    | own ob2 =>
      obtain ⟨p', e, q1, q2⟩ := q
      have hb : p' ≠ g.ρ a := fun z => by rw [z, op] at q1; cases q1
      exact ⟨p', e, q1, by rw [upd_ne hb]; exact q2⟩
theorem plc_ref {a : Nat} {v : V} (h : RepT E.K g (.ref a) v) : PlcOk E g H σ (pRef a) v := fun g' st' H' ob set r s e => by
  unfold pRef at e
  cases es : st'.S[a]? with
  | none => rw [es] at e; cases e
  | some ob2 =>
    rw [es] at e
    cases e
    have h' := h.step s
    unfold RepT at h'
    obtain ⟨_, q2⟩ := r.box a _ es
    refine ⟨_, h'.2, q2, fun ob' o' ro => ?_⟩
    obtain ⟨r2, op⟩ := rel_setBox r es ro
    exact ⟨r2, Stp.change (by rw [op]; exact fun z => by cases z)⟩
theorem plc_var {i : Nat} {v : V} (ev : σ[i]? = some (some v)) : PlcOk E g H σ (pVar i) v := fun g' st' H' ob set r s e => by
  unfold pVar at e
  cases es : st'.σ[i]? with
  | none => rw [es] at e; cases e
  | some sl =>
    rw [es] at e
    have q := r.slot i sl _ es ev
    cases sl with
    | emp => cases e
    | val t =>
      cases t with
      | ref a =>
        simp only at e
        obtain ⟨x, ex, rx⟩ := q
        cases ex
        exact plc_ref (σ := σ) (H := H') rx g' st' H' ob set r (Stp.refl _ _) (by unfold pRef; exact e)
      | _ => cases e
    | own ob2 =>
      cases e
      obtain ⟨p, ep, op, ro⟩ := q
      cases ep
      exact ⟨p, rfl, ro, fun ob' o' ro' => ⟨rel_setOwn r es ev op ro', Stp.change (by rw [op]; exact fun z => by cases z)⟩⟩
/-- a name's own object, or the boxed one it holds -/
def mVar (i : Nat) : M Plc := fun st => match pVar i st with
  | some _ => some (.ok (pVar i), st)
  | none => none
theorem lm_var {i : Nat} {e : Expr} (h : PE X e (tVar i)) : LM E X e (mVar i) := by
  refine ⟨PE.mono h fun σ H Q ⟨g, st, r, q⟩ => ?_⟩
  unfold run mVar at q
  cases ep : pVar i st with
  | none => rw [ep] at q; exact q.elim
  | some p =>
    rw [ep] at q
    have hv : ∃ v, σ[i]? = some (some v) := by
      unfold pVar at ep
      cases es : st.σ[i]? with
      | none => rw [es] at ep; cases ep
      | some sl =>
        have hi : i < σ.length := by rw [← r.len]; exact (List.getElem?_eq_some_iff.mp es).1
        have ev : σ[i]? = some σ[i] := List.getElem?_eq_getElem hi
        have q := r.slot i sl _ es ev
        cases sl with
        | emp => rw [es] at ep; cases ep
        | val t => obtain ⟨x, e, _⟩ := q; exact ⟨x, by rw [ev, e]⟩
        | own ob => obtain ⟨p, e, _⟩ := q; exact ⟨_, by rw [ev, e]⟩
    obtain ⟨v, ev⟩ := hv
    exact ⟨v, ev, q g H r (Stp.refl _ _) v (plc_var ev)⟩
/-- a boxed object, by its reference -/
def mRef (m : M T) : M Plc := do
  match ← m with
  | .ref a => pure (pRef a)
  | _ => stuck
theorem lm_ref {e : Expr} {m : M T} (h : ME E X e m) : LM E X e (mRef m) :=
  ⟨PE.mono h.pe fun σ H Q ⟨g, q⟩ => seqT st_okP q fun t v g1 H1 s1 rv h1 => by
    cases t with
    | ref a =>
      obtain ⟨st, r, z⟩ := at_pure h1
      exact z g1 H1 r (Stp.refl _ _) v (plc_ref rv)
    | _ => obtain ⟨_, _, z⟩ := h1; exact z.elim⟩

/-! ### methods that change a list -/
def LRM (E : Ev) (r : V → List V → Hp → VK → Prop) (f : List T → List T → Option (List T × T)) : Prop := ∀ (g : Gh) (H : Hp) (p : Addr) (xs : List V) (us as us' : List T) (res : T) (vs : List V) (Q : VK),
  Same g.Z H → H p = some (.lst xs) → RepL E.K g us xs → RepL E.K g as vs → f us as = some (us', res) → (∀ xs' x, RepL E.K g us' xs' → RepT E.K g res x → Q x (upd H p (.lst xs'))) → r (.ref p) vs H Q
def isLst (pl : Plc) : M Unit := fun st => match pl st with
  | some (.lst _, _) => some (.ok (), st)
  | _ => none
def opL (f : List T → List T → Option (List T × T)) (pl : Plc) (as : List T) : M T := fun st => match pl st with
  | some (.lst us, set) => match f us as with
    | some (us', res) => some (.ok res, set (.lst us'))
    | none => none
  | _ => none
def eLst (f : List T → List T → Option (List T × T)) (mp : M Plc) (ma : M (List T)) : M T := do
  let pl ← mp
  isLst pl
  let as ← ma
  opL f pl as
def eLst0 (f : List T → List T → Option (List T × T)) (mp : M Plc) : M T := do
  let pl ← mp
  opL f pl []
theorem at_isLst {β : Type} {pl : Plc} {v : V} {f : Unit → M β} {Φ : β → Stt → Prop} (h : at_ E (isLst pl >>= f) g σ H Φ) (pk : PlcOk E g H σ pl v) : tyV E.K "list" v H ∧ at_ E (f ()) g σ H Φ := by
  obtain ⟨st, r, q⟩ := h
  have q := run_bind q
  unfold run isLst at q
  cases e : pl st with
  | none => simp only [e] at q
  | some p =>
    obtain ⟨ob, set⟩ := p
    simp only [e] at q
    cases ob with
    | lst us =>
      simp only at q
      obtain ⟨p, ev, ⟨xs, ex, _⟩, _⟩ := pk g st H _ _ r (Stp.refl _ _) e
      rw [ev]
      exact ⟨.inl ⟨rfl, xs, .inl (.inl ex)⟩, st, r, q⟩
    | _ => exact q.elim
theorem at_opL {r : V → List V → Hp → VK → Prop} {f : List T → List T → Option (List T × T)} {pl : Plc} {v : V} {as : List T} {vs : List V} {Q : VK} (hl : LRM E r f) (h : at_ E (opL f pl as) g σ H (okT E g H σ Q)) (pk : PlcOk E g H σ pl v) (ra : RepL E.K g as vs) :
    tyV E.K "list" v H ∧ r v vs H Q := by
  obtain ⟨st, r', q⟩ := h
  unfold run opL at q
  cases e : pl st with
  | none => simp only [e] at q
  | some p =>
    obtain ⟨ob, set⟩ := p
    simp only [e] at q
    cases ob with
    | lst us =>
      simp only at q
      obtain ⟨p, ev, ⟨xs, ex, rl⟩, put⟩ := pk g st H _ _ r' (Stp.refl _ _) e
      cases ef : f us as with
      | none => simp only [ef] at q
      | some w =>
        obtain ⟨us', res⟩ := w
        simp only [ef] at q
        rw [ev]
        refine ⟨.inl ⟨rfl, xs, .inl (.inl ex)⟩, hl g H p xs us as us' res vs Q r'.zs ex rl ra ef fun xs' x rl' rx => ?_⟩
        obtain ⟨r2, s2⟩ := put (.lst us') (.lst xs') ⟨xs', rfl, rl'⟩
        exact q g _ r2 s2 x rx
    | _ => exact q.elim
section
variable {o e : Expr} {es : List Expr} {name : Str} {apos cpos : Pos} {id : String} {r : V → List V → Hp → VK → Prop} {f : List T → List T → Option (List T × T)} {mp : M Plc} {ma : M (List T)}
theorem me_lst (slot : Slot "list" name id) (hty : typeOf (.builtin id) = pure (.type "method_descriptor")) (hm : MtR X id r) (hl : LRM E r f) (ho : LM E X o mp) (ha : AM E X (e :: es) ma) (hK : E.K = X.K := by rfl)
    (hbase : attributeBase o name X.env (eval o X.env) = eval o X.env := by rfl)
    (hfew : ((backTo cpos (starEach (e :: es) X.env)).all (fun x => !x.1) && (backToKw cpos (keywordEach [] X.env)).all (fun x => x.1.isSome)
      && decide ((e :: es).length + ([] : List Keyword).length + (if ([] : List Keyword).isEmpty then 0 else 1) < 30)) = true := by rfl)
    (hline : (apos.endLine == cpos.line) = true := by rfl) (hs : starEach (e :: es) X.env = (false, eval e X.env) :: starEach es X.env := by rfl) (hplain : (backTo cpos (starEach es X.env)).any (·.1) = false := by rfl) :
    ME E X (.Call (.Attribute o name apos) (e :: es) [] cpos) (eLst f mp ma) :=
  ⟨PE.mono (pe_bm PySem.F.plainAttrs_list slot hty hm ho.pe ha.pa hbase hfew hline hs hplain) fun σ H Q ⟨g, q⟩ => seqPl st_okT q fun pl v g1 H1 s1 pk h1 => by
    obtain ⟨ty, h2⟩ := at_isLst h1 pk
    exact ⟨by rw [← hK]; exact ty, seqL st_okT h2 fun ts vs g2 H2 s2 rl h3 => (at_opL hl h3 (pk.step s2) rl).2⟩⟩
theorem me_lst0 (slot : Slot "list" name id) (hty : typeOf (.builtin id) = pure (.type "method_descriptor")) (hm : MtR X id r) (hl : LRM E r f) (ho : LM E X o mp) (hK : E.K = X.K := by rfl)
    (hbase : attributeBase o name X.env (eval o X.env) = eval o X.env := by rfl) (hline : (apos.endLine == cpos.line) = true := by rfl) : ME E X (.Call (.Attribute o name apos) [] [] cpos) (eLst0 f mp) :=
  ⟨PE.mono (pe_bm0 PySem.F.plainAttrs_list slot hty hm ho.pe hbase hline) fun σ H Q ⟨g, q⟩ => seqPl st_okT q fun pl v g1 H1 s1 pk h1 => by
    obtain ⟨ty, q2⟩ := at_opL hl h1 pk .nil
    exact ⟨by rw [← hK]; exact ty, q2⟩⟩
end
theorem lin {n : Nat} (h : n ≤ 1000000) : n < sizeLine := by
  have : sizeLine = 16777216 := sizeLine_eq
  omega
def appendF (us as : List T) : Option (List T × T) := match as with
  | [t] => if us.length ≤ 1000000 then some (us ++ [t], .non) else none
  | _ => none
theorem lm_append : LRM E rAppend appendF := by
  intro g H p xs us as us' res vs Q zs ex rl ra e q
  match as, e with
  | [t], e =>
    simp only [appendF] at e
    split at e
    · rename_i hz
      cases e
      obtain ⟨v, rfl, rv⟩ := ra.one_of
      exact ⟨p, xs, v, rfl, rfl, ex, by rw [rl.len]; exact lin hz, q _ _ (rl.app (.one rv)) rt_non⟩
    · cases e
def popF (us as : List T) : Option (List T × T) := match as with
  | [] => match us.getLast? with
    | some t => some (us.dropLast, t)
    | none => none
  | [.int i] => if us.length ≤ 1000000 then match ixN us.length i with
    | some k => match us[k]? with
      | some t => some (us.eraseIdx k, t)
      | none => none
    | none => none else none
  | _ => none
theorem RepL.dropLast {K : PySem.W.Frag} {ts : List T} {xs : List V} (h : RepL K g ts xs) : RepL K g ts.dropLast xs.dropLast := by
  rw [List.dropLast_eq_take, List.dropLast_eq_take, h.len]
  exact h.take _
theorem RepL.erase {K : PySem.W.Frag} {ts : List T} {xs : List V} (h : RepL K g ts xs) (k : Nat) : RepL K g (ts.eraseIdx k) (xs.eraseIdx k) := by
  rw [List.eraseIdx_eq_take_drop_succ, List.eraseIdx_eq_take_drop_succ]
  exact (h.take _).app (h.drop _)
def rPopA : V → List V → Hp → VK → Prop := fun x xs H Q => rPop x xs H Q ∨ rPopAt x xs H Q
theorem mt_popA : MtR X "list.pop" rPopA := MtR.or mt_pop mt_popAt
theorem lm_pop : LRM E rPopA popF := by
  intro g H p xs us as us' res vs Q zs ex rl ra e q
  match as, e with
  | [], e =>
    simp only [popF] at e
    cases el : us.getLast? with
    | none => rw [el] at e; cases e
    | some t =>
      rw [el] at e
      cases e
      unfold RepL at ra
      subst ra
      rw [List.getLast?_eq_getElem?] at el
      obtain ⟨x, e2, rx⟩ := rl.get el
      exact .inl ⟨p, xs, x, rfl, rfl, ex, by rw [rl.len]; exact e2, q _ _ rl.dropLast rx⟩
  | [.int i], e =>
    simp only [popF] at e
    split at e
    · rename_i hz
      cases ek : ixN us.length i with
      | none => rw [ek] at e; cases e
      | some k =>
        rw [ek] at e
        simp only at e
        cases et : us[k]? with
        | none => rw [et] at e; cases e
        | some t =>
          rw [et] at e
          cases e
          obtain ⟨v, rfl, rv⟩ := ra.one_of
          obtain ⟨x, e2, rx⟩ := rl.get et
          obtain ⟨h1, h2, h3, h4⟩ := ixN_seq ek
          exact .inr ⟨p, xs, i, k, x, rfl, by rw [rv.int_of], ex, by omega, by omega, by rw [rl.len]; exact h1, e2, q _ _ (rl.erase k) rx⟩
    · cases e
def insertF (us as : List T) : Option (List T × T) := match as with
  | [.int i, t] => if 0 ≤ i ∧ i ≤ 1000000 ∧ us.length ≤ 1000000 then some (us.take i.toNat ++ [t] ++ us.drop i.toNat, .non) else none
  | _ => none
def rInsert : V → List V → Hp → VK → Prop := fun x vs H Q => ∃ (l : Addr) (xs : List V) (i : Int) (y : V), x = .ref l ∧ vs = [.int i, y] ∧ H l = some (.lst xs) ∧ xs.length < sizeLine ∧ 0 ≤ i ∧ i < 2 ^ 63 ∧
    Q .non (upd H l (.lst (xs.take i.toNat ++ [y] ++ xs.drop i.toNat)))
theorem lm_insert : LRM E rInsert insertF := by
  intro g H p xs us as us' res vs Q zs ex rl ra e q
  match as, e with
  | [.int i, t], e =>
    simp only [insertF] at e
    split at e
    · rename_i hz
      cases e
      obtain ⟨v, w, rfl, rv, rw'⟩ := ra.two_of
      exact ⟨p, xs, i, w, rfl, by rw [rv.int_of], ex, by rw [rl.len]; exact lin hz.2.2, hz.1, by omega, q _ _ (((rl.take _).app (.one rw')).app (rl.drop _)) rt_non⟩
    · cases e
def extendF (us as : List T) : Option (List T × T) := match as with
  | [.fz ts] => if us.length + ts.length ≤ 1000000 then some (us ++ ts, .non) else none
  | _ => none
theorem lm_extend : LRM E rExtend extendF := by
  intro g H p xs us as us' res vs Q zs ex rl ra e q
  match as, e with
  | [.fz ts], e =>
    simp only [extendF] at e
    split at e
    · rename_i hz
      cases e
      obtain ⟨v, rfl, rv⟩ := ra.one_of
      obtain ⟨b, ys, rfl, hb, rl2⟩ := rv.fz_of
      exact ⟨p, b, xs, ys, rfl, rfl, ex, zs _ _ hb, by rw [rl.len, rl2.len]; exact mil hz, q _ _ (rl.app rl2) rt_non⟩
    · cases e
def clearF (_ as : List T) : Option (List T × T) := match as with
  | [] => some ([], .non)
  | _ => none
theorem lm_clear : LRM E rClear clearF := by
  intro g H p xs us as us' res vs Q zs ex rl ra e q
  match as, e with
  | [], e =>
    cases e
    unfold RepL at ra
    subst ra
    exact ⟨p, xs, rfl, rfl, ex, q _ _ .nil rt_non⟩
end
end Sw
namespace Sw
open PySem PySem.Spec PyProof.Rows L2

section
variable {E : Ev} {g g1 : Gh} {H H1 : Hp} {σ : L2.St} {X : Cx} {pos : Pos}
/-! ### a new object, boxed -/
def Gh.box (g : Gh) (p : Addr) : Gh := { g with own := fun q => if q = p then .box g.n else g.own q, ρ := fun a => if a = g.n then p else g.ρ a, n := g.n + 1 }
theorem Gh.box_own {p q : Addr} (h : q ≠ p) : (g.box p).own q = g.own q := by
  show (if q = p then _ else _) = _
  rw [if_neg h]
theorem Gh.box_gs {p : Addr} : GStp g (g.box p) := ⟨Same.refl _, Nat.le_succ _, fun a h => by
  show (if a = g.n then p else g.ρ a) = _
  rw [if_neg (Nat.ne_of_lt h)]⟩
theorem Rel.boxes {st : Stt} {p : Addr} {ob : Ob} {o : HO} (r : Rel E.K g st σ H) (hp : H p = none) (ro : RepO E.K g ob (some o)) :
    Rel E.K (g.box p) { st with S := st.S ++ [ob] } σ (upd H p o) ∧ Stp g (g.box p) H (upd H p o) ∧ RepT E.K (g.box p) (.ref st.S.length) (.ref p) := by
  have op : g.own p = .out := r.fr p hp
  have zp : g.Z p = none := r.zs.free hp
  have gs : GStp g (g.box p) := Gh.box_gs
  have rn : (g.box p).ρ g.n = p := by
    show (if g.n = g.n then p else _) = p
    rw [if_pos rfl]
  refine ⟨⟨⟨fun b u e => ?_, fun b u e => ?_, fun b e => ?_, ?_, fun a ob' e => ?_⟩, r.len, fun j s w e1 e2 => ?_⟩, ⟨gs.z, gs.n, gs.ρ, fun b u h1 h2 => ?_⟩, ?_⟩
  · have hb : b ≠ p := ne_of_none e zp
    rw [upd_ne hb]
    exact r.zs b u e
  · have hb : b ≠ p := ne_of_none e zp
    rw [Gh.box_own hb]
    exact r.zo b u e
  · by_cases hb : b = p
    · rw [hb, upd_same] at e
      cases e
    · rw [upd_ne hb] at e
      rw [Gh.box_own hb]
      exact r.fr b e
  · show g.n + 1 = (st.S ++ [ob]).length
    rw [List.length_append, r.n]
    rfl
  · have e : (st.S ++ [ob])[a]? = some ob' := e
    by_cases ha : a < st.S.length
    · rw [List.getElem?_append_left ha] at e
      obtain ⟨h1, h2⟩ := r.box a ob' e
      have hb : g.ρ a ≠ p := fun z => by rw [z, op] at h1; cases h1
      have er : (g.box p).ρ a = g.ρ a := gs.ρ a (by rw [r.n]; exact ha)
      rw [er, Gh.box_own hb, upd_ne hb]
      exact ⟨h1, h2.gstep gs⟩
    · rw [List.getElem?_append_right (by omega)] at e
      have ea : a = st.S.length := by
        have := (List.getElem?_eq_some_iff.mp e).1
        simp at this
        omega
      subst ea
      simp at e
      subst e
      rw [← r.n, rn, upd_same]
      refine ⟨?_, ro.gstep gs⟩
      show (if p = p then Ow.box g.n else _) = _
      rw [if_pos rfl]
  · have q := r.slot j s w e1 e2
    cases s with
    | emp => trivial
    | val t =>
      obtain ⟨x, e, q⟩ := q
      exact ⟨x, e, q.gstep gs⟩
    | own ob' =>
      obtain ⟨p', e, q1, q2⟩ := q
      have hb : p' ≠ p := fun z => by rw [z, op] at q1; cases q1
      refine ⟨p', e, ?_, ?_⟩
      · rw [Gh.box_own hb]
        exact q1
      · rw [upd_ne hb]
        exact q2.gstep gs
  · have hb : b ≠ p := ne_of_none h2 hp
    rw [Gh.box_own hb, upd_ne hb]
    exact ⟨h1, h2⟩
  · unfold RepT
    refine ⟨?_, ?_⟩
    · show st.S.length < g.n + 1
      rw [r.n]
      exact Nat.lt_succ_self _
    · rw [← r.n, rn]
def eBox (m : M Ob) : M T := do let ob ← m; fun st => some (.ok (.ref st.S.length), { st with S := st.S ++ [ob] })
theorem FE.box {e : Expr} {m : M Ob} (h : FE E X e m) : ME E X e (eBox m) :=
  ⟨PE.mono h.pe fun σ H Q ⟨g, q⟩ => ⟨g, seq_any (Φ := fun g H => okT E g H σ Q) st_okT q fun ob st1 k g1 H1 r1 s1 p o hp ro => by
    obtain ⟨st, r, z⟩ := k g1 H1 r1 s1
    obtain ⟨r2, s2, rt⟩ := r.boxes hp ro
    exact z _ _ r2 s2 _ rt⟩⟩

/-! ### two lists, one behind the other; a list some times over -/
def catO : T → T → Option (List T)
  | .fz ts, .fz us => if ts.length + us.length ≤ 1000000 then some (ts ++ us) else none
  | _, _ => none
def repO : T → T → Option (List T)
  | .fz ts, .int k => if k ≤ 1000 ∧ -1000 ≤ k ∧ ts.length ≤ 1000 then some (List.replicate k.toNat ts).flatten else none
  | _, _ => none
def LRA (E : Ev) (r : R2) (f : T → T → Option (List T)) : Prop := ∀ (g : Gh) (H : Hp) (t u : T) (us : List T) (v w : V) (Q : VK), Same g.Z H → RepK E g H t v → RepK E g H u w → f t u = some us → (∀ p xs, H p = none → RepL E.K g us xs → Q (.ref p) (upd H p (.lst xs))) → r v w H Q
theorem lr_cat : LRA E rCat catO := by
  intro g H t u us v w Q zs h1 h2 e q
  cases t <;> cases u <;> simp only [catO] at e <;> try contradiction
  split at e
  · rename_i hz
    cases e
    obtain ⟨a, xs, rfl, ha, rl⟩ := h1
    obtain ⟨b, ys, rfl, hb, rl2⟩ := h2
    exact ⟨a, b, xs, ys, rfl, rfl, ha, hb, by rw [rl.len, rl2.len]; exact mil hz, fun p hp => q p _ hp (rl.app rl2)⟩
  · contradiction
theorem RepL.repl {K : PySem.W.Frag} {ts : List T} {xs : List V} (h : RepL K g ts xs) : ∀ n : Nat, RepL K g (List.replicate n ts).flatten (List.replicate n xs).flatten
  | 0 => .nil
  | n + 1 => by
    rw [List.replicate_succ, List.replicate_succ, List.flatten_cons, List.flatten_cons]
    exact h.app (RepL.repl h n)
theorem lr_rep : LRA E rRep repO := by
  intro g H t u us v w Q zs h1 h2 e q
  cases t <;> cases u <;> simp only [repO] at e <;> try contradiction
  split at e
  · rename_i hz
    cases e
    obtain ⟨a, xs, rfl, ha, rl⟩ := h1
    rename_i ts k
    refine ⟨a, k, xs, rfl, h2.int_of, ha, by omega, by omega, ?_, fun p hp => q p _ hp (rl.repl _)⟩
    rw [rl.len]
    refine mil ?_
    have h3 : k.toNat ≤ 1000 := by omega
    calc ts.length * k.toNat ≤ 1000 * 1000 := Nat.mul_le_mul hz.2.2 h3
      _ ≤ 1000000 := by decide
  · contradiction
def fOp2 (f : T → T → Option (List T)) (ma mb : M Rdr) : M Ob := do
  let ra ← ma
  let rb ← mb
  fun st => match ra st, rb st with
    | some a, some b => ofO ((f a b).map .lst) st
    | _, _ => none
theorem fe_op {op : Operator} {r : R2} {f : T → T → Option (List T)} {a b : Expr} {ma mb : M Rdr} (ho : OpR X (binaryOp op) r) (hl : LRA E r f) (ha : OE E X a ma) (hb : OE E X b mb) : FE E X (.BinOp a op b pos) (fOp2 f ma mb) :=
  ⟨PE.mono (pe_op ho ha.pe hb.pe) fun σ H Q ⟨g, h⟩ => seqO st_okF h fun ra v g1 H1 s1 rd1 h1 => seqO st_okF h1 fun rb w g2 H2 s2 rd2 h2 => by
    obtain ⟨a, b, k1, k2, h3⟩ := at_rd2 h2 (rd1.step s2) rd2
    obtain ⟨s, st, e, rl, z⟩ := at_ofO h3
    cases ef : f a b with
    | none => rw [ef] at e; cases e
    | some us =>
      rw [ef] at e
      cases e
      exact hl g2 H2 a b us v w Q rl.zs k1 k2 ef fun p xs hp rx => z g2 H2 rl (Stp.refl _ _) p _ hp ⟨xs, rfl, rx⟩⟩
/-- a text some times over -/
def rMulS : R2 := fun x y H Q => ∃ (z : List Nat) (n : Int), x = .str (sS z) ∧ y = .int n ∧ 0 ≤ n ∧ n ≤ 1000 ∧ z.length ≤ 1000 ∧ Q (.str (sS (List.replicate n.toNat z).flatten)) H
theorem sS_repl (z : List Nat) : ∀ (n : Nat) (acc : Array Nat), (List.replicate n z.toArray).foldl (· ++ ·) acc = acc ++ (List.replicate n z).flatten.toArray
  | 0, acc => by simp
  | n + 1, acc => by
    rw [List.replicate_succ, List.foldl_cons, sS_repl z n, List.replicate_succ, List.flatten_cons]
    simp
theorem op_mulS : OpR X (binaryOp .Mult) rMulS := by
  intro pins s σ H x y v u Q I rx ry h
  obtain ⟨z, n, rfl, rfl, h0, h1, hz, q⟩ := h
  obtain ⟨t, rfl⟩ := rx
  obtain ⟨t', rfl⟩ := ry
  have fin : ∀ w, EP X pins σ Q (.str (sS (List.replicate n.toNat z).flatten) w) { s with toks := s.toks + 1 } := fun w => ⟨.str _, H, I.tok _, ⟨w, rfl⟩, q⟩
  by_cases hn : n < 1
  · have e : n = 0 := by omega
    subst e
    exact PySem.P.mul_str_none (by omega) (by omega) (fin _)
  · have hl : (sS z).length = z.length := sS_len z
    refine PySem.P.mul_str ?_ ?_ ?_ ?_
    · rw [decide_eq_false (by omega), decide_eq_false (by omega)]
      rfl
    · intro _ _ hc
      rw [hl] at hc
      have h3 : (z.length : Int) ≤ ((2 : Int) ^ 63 - 1) / n := (Int.le_ediv_iff_mul_le (by omega)).mpr (by
        have : (z.length : Int) * n ≤ 1000 * 1000 := Int.mul_le_mul (by omega) h1 h0 (by omega)
        omega)
      omega
    · intro _ _
      rw [hl]
      unfold PySem.Builtin.Str.tooLong
      have h3 : n.toNat ≤ 1000 := by omega
      have h4 : z.length * n.toNat ≤ 1000 * 1000 := Nat.mul_le_mul hz h3
      have hs : sizeLine = 16777216 := sizeLine_eq
      exact decide_eq_false (by omega)
    · rw [if_neg hn]
      split
      · rename_i hc
        show EP X pins σ Q (.str (sS z) t) s
        have e : (List.replicate n.toNat z).flatten = z := by
          rw [Bool.or_eq_true] at hc
          rcases hc with hc | hc
          · have : n = 1 := by simpa using hc
            subst this
            simp
          · have : z = [] := by
              rw [hl] at hc
              simpa using hc
            subst this
            simp
        rw [e] at q
        exact ⟨.str _, H, I, ⟨t, rfl⟩, q⟩
      · show (_ : Str).length ≤ sizeLine ∧ _
        have e : (⟨(List.replicate n.toNat (sS z).cps).foldl (· ++ ·) #[]⟩ : Str) = sS (List.replicate n.toNat z).flatten := by
          show (⟨(List.replicate n.toNat z.toArray).foldl (· ++ ·) #[]⟩ : Str) = _
          rw [sS_repl]
          simp [sS]
        rw [e]
        refine ⟨?_, fin _⟩
        rw [sS_len]
        refine mil ?_
        rw [List.length_flatten]
        simp
        have h3 : n.toNat ≤ 1000 := by omega
        calc n.toNat * z.length ≤ 1000 * 1000 := Nat.mul_le_mul h3 hz
          _ ≤ 1000000 := by decide
  done
def mulSO : T → T → Option T
  | .str z, .int n => if 0 ≤ n ∧ n ≤ 1000 ∧ z.length ≤ 1000 then some (.str (List.replicate n.toNat z).flatten) else none
  | _, _ => none
theorem lr_mulS : LR2 E rMulS mulSO := by
  intro g H t u s v w Q zs h1 h2 e q
  cases t <;> cases u <;> simp only [mulSO] at e <;> try contradiction
  split at e
  · rename_i hz
    cases e
    exact ⟨_, _, h1.str_of, h2.int_of, hz.1, hz.2.1, hz.2.2, q _ (rt_str _)⟩
  · contradiction

/-! ### methods that read -/
def LRR (E : Ev) (r : V → List V → Hp → VK → Prop) (f : T → List T → Option T) : Prop := ∀ (g : Gh) (H : Hp) (t : T) (as : List T) (res : T) (v : V) (vs : List V) (Q : VK),
  Same g.Z H → RepK E g H t v → RepL E.K g as vs → f t as = some res → (∀ x, RepT E.K g res x → Q x H) → r v vs H Q
def tyOk (Ty : String) (t : T) : Bool := match t with
  | .str _ => Ty == "str"
  | .fz _ => Ty == "list"
  | .scr _ => Ty == "list"
  | _ => false
theorem tyOk_v {Ty : String} {t : T} {v : V} (zs : Same g.Z H) (h : RepK E g H t v) (e : tyOk Ty t = true) : tyV E.K Ty v H := by
  cases t <;> simp only [tyOk] at e <;> try contradiction
  · rw [h.str_of]; exact beq_iff_eq.mp e
  · obtain ⟨a, xs, rfl, ha, _⟩ := h
    exact .inl ⟨beq_iff_eq.mp e, xs, .inl (.inl ha)⟩
  · have h : RepT E.K g _ v := h
    unfold RepT at h
    obtain ⟨a, rfl, ha⟩ := h
    exact .inl ⟨beq_iff_eq.mp e, _, zs.seq ha⟩
def isTy (Ty : String) (r : Rdr) : M Unit := fun st => match r st with
  | some t => if tyOk Ty t then some (.ok (), st) else none
  | none => none
def eMeth (Ty : String) (f : T → List T → Option T) (m : M Rdr) (ma : M (List T)) : M T := do
  let r ← m
  isTy Ty r
  let as ← ma
  fun st => match r st with
    | some t => ofO (f t as) st
    | none => none
theorem at_isTy {β : Type} {Ty : String} {rd : Rdr} {v : V} {f : Unit → M β} {Φ : β → Stt → Prop} (h : at_ E (isTy Ty rd >>= f) g σ H Φ) (pk : Reads E g H σ rd v) : tyV E.K Ty v H ∧ at_ E (f ()) g σ H Φ := by
  obtain ⟨st, r, q⟩ := h
  have q := run_bind q
  unfold run isTy at q
  cases e : rd st with
  | none => simp only [e] at q
  | some t =>
    simp only [e] at q
    by_cases ht : tyOk Ty t = true
    · simp only [if_pos ht] at q
      exact ⟨tyOk_v r.zs (pk g st H t r (Stp.refl _ _) e) ht, st, r, q⟩
    · simp only [if_neg ht] at q
theorem me_meth {o e : Expr} {es : List Expr} {name : Str} {apos cpos : Pos} {Ty id : String} {r : V → List V → Hp → VK → Prop} {f : T → List T → Option T} {m : M Rdr} {ma : M (List T)} (pa : PlainAttrs Ty) (slot : Slot Ty name id) (hty : typeOf (.builtin id) = pure (.type "method_descriptor")) (hm : MtR X id r) (hl : LRR E r f) (ho : OE E X o m) (ha : AM E X (e :: es) ma) (hK : E.K = X.K := by rfl)
    (hbase : attributeBase o name X.env (eval o X.env) = eval o X.env := by rfl)
    (hfew : ((backTo cpos (starEach (e :: es) X.env)).all (fun x => !x.1) && (backToKw cpos (keywordEach [] X.env)).all (fun x => x.1.isSome)
      && decide ((e :: es).length + ([] : List Keyword).length + (if ([] : List Keyword).isEmpty then 0 else 1) < 30)) = true := by rfl)
    (hline : (apos.endLine == cpos.line) = true := by rfl) (hs : starEach (e :: es) X.env = (false, eval e X.env) :: starEach es X.env := by rfl) (hplain : (backTo cpos (starEach es X.env)).any (·.1) = false := by rfl) :
    ME E X (.Call (.Attribute o name apos) (e :: es) [] cpos) (eMeth Ty f m ma) :=
  ⟨PE.mono (pe_bm pa slot hty hm ho.pe ha.pa hbase hfew hline hs hplain) fun σ H Q ⟨g, q⟩ => seqO st_okT q fun rd v g1 H1 s1 rr h1 => by
    obtain ⟨ty, h2⟩ := at_isTy h1 rr
    refine ⟨by rw [← hK]; exact ty, seqL st_okT h2 fun ts vs g2 H2 s2 rl h3 => ?_⟩
    obtain ⟨t, rk, h4⟩ := at_rd1 h3 (rr.step s2)
    obtain ⟨s, st, e, r', z⟩ := at_ofO h4
    exact hl g2 H2 t ts s v vs Q r'.zs rk rl e fun x rx => z g2 H2 r' (Stp.refl _ _) x rx⟩
/-- xs.index(y), y there -/
def indexF (t : T) (as : List T) : Option T := match t, as with
  | .fz us, [u] => if u.dat 60 && T.dats 59 us then (us.findIdx? fun z => T.eqv z u).map fun j => .int (j : Nat) else none
  | _, _ => none
theorem pds_get : ∀ {us : List T} {j : Nat} {z : T}, us[j]? = some z → (T.pds us)[j]? = some z.pd
  | [], _, _, h => by simp at h
  | u :: us, 0, z, h => by
    rw [List.getElem?_cons_zero] at h
    cases h
    unfold T.pds
    rfl
  | u :: us, j + 1, z, h => by
    rw [List.getElem?_cons_succ] at h
    unfold T.pds
    rw [List.getElem?_cons_succ]
    exact pds_get h
theorem pds_of : ∀ {us : List T} {j : Nat} {d : PyData}, (T.pds us)[j]? = some d → ∃ z, us[j]? = some z ∧ d = z.pd
  | [], _, _, h => by unfold T.pds at h; simp at h
  | u :: us, 0, d, h => by
    unfold T.pds at h
    rw [List.getElem?_cons_zero] at h
    cases h
    exact ⟨u, rfl, rfl⟩
  | u :: us, j + 1, d, h => by
    unfold T.pds at h
    rw [List.getElem?_cons_succ] at h
    rw [List.getElem?_cons_succ]
    exact pds_of h
theorem dats_get {n : Nat} : ∀ {us : List T} {j : Nat} {z : T}, T.dats n us = true → us[j]? = some z → z.dat n = true
  | [], _, _, _, h => by simp at h
  | u :: us, 0, z, hd, h => by
    have hd : u.dat n = true ∧ T.dats n us = true := by simpa [T.dats] using hd
    rw [List.getElem?_cons_zero] at h
    cases h
    exact hd.1
  | u :: us, j + 1, z, hd, h => by
    have hd : u.dat n = true ∧ T.dats n us = true := by simpa [T.dats] using hd
    rw [List.getElem?_cons_succ] at h
    exact dats_get hd.2 h
theorem lr_index : LRR E (rIndexD E.K) indexF := by
  intro g H t as res v vs Q zs rk ra e q
  match t, as, e with
  | .fz us, [u], e =>
    simp only [indexF] at e
    split at e
    · rename_i hq
      rw [Bool.and_eq_true] at hq
      cases ej : us.findIdx? fun z => T.eqv z u with
      | none => rw [ej] at e; cases e
      | some j =>
        rw [ej] at e
        cases e
        obtain ⟨y, rfl, ry⟩ := ra.one_of
        have hd : (T.fz us).dat 60 = true := by unfold T.dat; exact hq.2
        have dl := rk.dp zs hd
        obtain ⟨a, xs, rfl, ha, rl⟩ := rk
        rw [List.findIdx?_eq_some_iff_getElem] at ej
        obtain ⟨hj, h1, h2⟩ := ej
        have hz : us[j]? = some us[j] := List.getElem?_eq_getElem hj
        refine ⟨a, y, u.pd, T.pds us, j, us[j].pd, rfl, rfl, ?_, RepT.dp (E := E) zs hq.1 ry, ?_, T.shaped hq.1 (by decide), pds_get hz, ?_, fun m z' hm hz' => ?_, q _ (rt_int _)⟩
        · unfold T.pd at dl
          exact dl
        · have := T.shaped hd (by decide)
          unfold T.pd at this
          exact this
        · rw [T.eqv_pd (dats_get hq.2 hz) hq.1]
          exact h1
        · obtain ⟨z, ez, rfl⟩ := pds_of hz'
          rw [T.eqv_pd (dats_get hq.2 ez) hq.1]
          have := h2 m hm
          rw [List.getElem?_eq_getElem (by omega)] at ez
          cases ez
          simpa using this
    · cases e
/-- sep.join(texts) -/
def strsOf : List T → Option (List (List Nat))
  | [] => some []
  | .str s :: ts => (strsOf ts).map (s :: ·)
  | _ => none
def joinF (t : T) (as : List T) : Option T := match t, as with
  | .str s, [.fz us] => match strsOf us with
    | some zs => if (zs.map (·.length)).sum + zs.length * s.length ≤ 1000000 then some (.str (TL.joinL s zs)) else none
    | none => none
  | _, _ => none
theorem RepL.strs {K : PySem.W.Frag} : ∀ {ts : List T} {xs : List V} {zs : List (List Nat)}, RepL K g ts xs → strsOf ts = some zs → xs = (zs.map sS).map V.str
  | [], xs, zs, h, e => by unfold RepL at h; unfold strsOf at e; cases e; exact h
  | t :: ts, xs, zs, h, e => by
    unfold RepL at h
    obtain ⟨x, r, rfl, h1, h2⟩ := h
    cases t with
    | str s =>
      unfold strsOf at e
      cases q : strsOf ts with
      | none => rw [q] at e; cases e
      | some ws =>
        rw [q] at e
        have e' : s :: ws = zs := Option.some.inj e
        rw [← e', RepL.strs h2 q, h1.str_of]
        rfl
    | _ => simp [strsOf] at e
theorem tl_sS (s : List Nat) : TL.tl (sS s) = s := by
  show (sS s).cps.toList = s
  simp [sS]
theorem join_sS (s : List Nat) (zs : List (List Nat)) : Txt.join (sS s) (zs.map sS) = sS (TL.joinL s zs) := by
  have h := TL.tl_join (sS s) (zs.map sS)
  rw [tl_sS, List.map_map, show (TL.tl ∘ sS) = id from funext tl_sS, List.map_id] at h
  rw [TL.join_eq]
  have e : (Str.join (sS s) (zs.map sS)).cps.toList = TL.joinL s zs := h
  show _ = (⟨(TL.joinL s zs).toArray⟩ : Str)
  rw [← e]
def rJoin (K : PySem.W.Frag) : V → List V → Hp → VK → Prop := fun x xs H Q => ∃ a p, ∃ ys : List Str, x = .str a ∧ xs = [.ref p] ∧ (SqL K H p (ys.map V.str) ∨ SqT K H p (ys.map V.str)) ∧
    (ys.map (·.length)).sum + ys.length * a.length ≤ 16777216 ∧ Q (.str (Txt.join a ys)) H
theorem lr_join : LRR E (rJoin E.K) joinF := by
  intro g H t as res v vs Q zs rk ra e q
  match t, as, e with
  | .str s, [.fz us], e =>
    simp only [joinF] at e
    cases ez : strsOf us with
    | none => rw [ez] at e; cases e
    | some ws =>
      rw [ez] at e
      simp only at e
      split at e
      · rename_i hz
        cases e
        obtain ⟨y, rfl, ry⟩ := ra.one_of
        obtain ⟨a, xs, rfl, ha, rl⟩ := ry.fz_of
        rw [rl.strs ez] at ha
        refine ⟨_, a, ws.map sS, rk.str_of, rfl, .inl (.inl (.inl (zs _ _ ha))), ?_, ?_⟩
        · rw [List.map_map, show (fun x : Str => x.length) ∘ sS = fun x => x.length from funext sS_len, List.length_map, sS_len]
          omega
        · rw [join_sS]
          exact q _ (rt_str _)
      · cases e

/-! ### o[i] = v -/
def setF (ob : Ob) (k t : T) : Option Ob := match ob, k with
  | .lst us, .int i => (ixN us.length i).map fun j => .lst (us.set j t)
  | _, _ => none
theorem RepL.set {K : PySem.W.Frag} : ∀ {ts : List T} {xs : List V} {t : T} {v : V} (j : Nat), RepL K g ts xs → RepT K g t v → RepL K g (ts.set j t) (xs.set j v)
  | [], xs, t, v, j, h, _ => by unfold RepL at h; rw [h]; simp; exact .nil
  | u :: ts, xs, t, v, 0, h, ht => by
    unfold RepL at h
    obtain ⟨x, r, rfl, h1, h2⟩ := h
    rw [List.set_cons_zero, List.set_cons_zero]
    unfold RepL
    exact ⟨v, r, rfl, ht, h2⟩
  | u :: ts, xs, t, v, j + 1, h, ht => by
    unfold RepL at h
    obtain ⟨x, r, rfl, h1, h2⟩ := h
    rw [List.set_cons_succ, List.set_cons_succ]
    unfold RepL
    exact ⟨x, _, rfl, h1, RepL.set j h2 ht⟩
def cSetIx (mp : M Plc) (mi m : M T) : Cmd := do
  let t ← m
  let pl ← mp
  let k ← mi
  fun st => match pl st with
    | some (ob, set) => match setF ob k t with
      | some ob' => some (.ok .nxt, set ob')
      | none => none
    | none => none
theorem sm_setIx {o i e : Expr} {mp : M Plc} {mi m : M T} {pos' : Pos} (ho : LM E X o mp) (hi : ME E X i mi) (he : ME E X e m)
    (ha : ∀ v, assign (.Subscript o i pos') X.env v = (do
      let ov ← holding [v] (eval o X.env)
      let iv ← holding [v, ov] (eval i X.env)
      standAt pos'
      holding [v, ov, iv] (setItem ov iv v)
      release [v, ov, iv] []) := by intro _; rfl)
    (hs : swapsWithSole [.Subscript o i pos'] e pos.line X.env = pure false := by rfl) (hw : swappedStores [.Subscript o i pos'] e X.env = pure none := by rfl)
    (h1 : (assignEach [.Subscript o i pos'] X.env).map (·.2) = [assign (.Subscript o i pos') X.env] := by rfl) : SM E X (.Assign [.Subscript o i pos'] e pos) (cSetIx mp mi m) :=
  ⟨PS.mono (ps_asg he.pe (pg_sub ho.pe hi.pe set_list ha) hs hw h1) fun D σ H ⟨g, q⟩ => sT q fun t v g1 H1 s1 rv h1 => sPl h1 fun pl w g2 H2 s2 pk h2 => sT h2 fun k x g3 H3 s3 rk h3 => by
    obtain ⟨st, r, z⟩ := h3
    unfold run at z
    cases ep : pl st with
    | none => simp only [ep] at z
    | some p =>
      obtain ⟨ob, set⟩ := p
      simp only [ep] at z
      cases ef : setF ob k t with
      | none => simp only [ef] at z
      | some ob' =>
        simp only [ef] at z
        obtain ⟨p, ev, ro, put⟩ := pk g3 st H3 _ _ r s3 ep
        cases ob <;> cases k <;> simp only [setF] at ef <;> try contradiction
        rename_i us i
        cases ej : ixN us.length i with
        | none => rw [ej] at ef; cases ef
        | some j =>
          rw [ej] at ef
          cases ef
          obtain ⟨xs, ex, rl⟩ := ro
          have rl' := rl.set j ((rv.step s2).step s3)
          obtain ⟨r2, s4⟩ := put (.lst (us.set j t)) (.lst (xs.set j v)) ⟨_, rfl, rl'⟩
          exact ⟨p, xs, i, j, ev, rk.int_of, ex, by rw [rl.len]; exact ej, z g3 _ _ r2 s4⟩⟩

/-! ### dicts with keys of ints and texts -/
def fDic : M Ob := pure (.dct [] [])
theorem fe_dic : FE E X (.Dict [] [] pos) fDic := ⟨PE.mono pe_dnewK fun σ H Q ⟨g, q⟩ => by
  obtain ⟨st, r, z⟩ := at_pure q
  exact fun p hp => z g H r (Stp.refl _ _) p _ hp ⟨[], rfl, rfl, .nil⟩⟩
def kEq (a b : T) : Bool := match a, b with
  | .int i, .int j => i == j
  | .str x, .str y => x == y
  | _, _ => false
def lookD : List T → List T → T → Option T
  | k :: ks, v :: vs, q => if kEq k q then some v else lookD ks vs q
  | _, _, _ => none
def isKey : T → Bool
  | .int _ => true
  | .str _ => true
  | _ => false
theorem kEq_key {a b : T} {x y : Key} (h1 : keyOf a = some x) (h2 : keyOf b = some y) : kEq a b = decide (x = y) := by
  cases a <;> simp only [keyOf] at h1 <;> try contradiction
  all_goals cases h1
  all_goals (cases b <;> simp only [keyOf] at h2 <;> try contradiction)
  all_goals cases h2
  · rename_i i j
    rw [key_ll]
    rfl
  · rw [key_lr]; rfl
  · rw [key_rl]; rfl
  · rename_i x y
    rw [key_rr]
    show (x == y) = _
    rw [← sS_eq]
    by_cases e : sS x = sS y
    · rw [e]; simp
    · rw [decide_eq_false e]; exact beq_eq_false_iff_ne.mpr e
theorem lookD_val {K : PySem.W.Frag} {q : T} {kq : Key} (hq : keyOf q = some kq) : ∀ {ks vs : List T} {kvs : List (Key × V)}, ks.map keyOf = kvs.map (fun p => some p.1) → RepL K g vs (kvs.map (·.2)) →
    (∀ t, lookD ks vs q = some t → ∃ x, valV kvs kq = some x ∧ RepT K g t x) ∧ (lookD ks vs q = none → valV kvs kq = none)
  | [], vs, [], _, h => by
    refine ⟨fun t e => ?_, fun _ => rfl⟩
    unfold lookD at e
    cases e
  | [], vs, _ :: _, e, _ => by simp at e
  | _ :: _, vs, [], e, _ => by simp at e
  | k :: ks, vs, (kx, x) :: kvs, e, h => by
    rw [List.map_cons, List.map_cons] at e
    injection e with e1 e2
    rw [List.map_cons] at h
    cases vs with
    | nil => unfold RepL at h; cases h
    | cons v vs =>
      unfold RepL at h
      obtain ⟨y, r, ey, h1, h2⟩ := h
      injection ey with ey1 ey2
      subst ey2
      have ih := lookD_val hq e2 h2
      have ek := kEq_key e1 hq
      by_cases hk : kx = kq
      · have hd : kEq k q = true := by rw [ek]; exact decide_eq_true hk
        refine ⟨fun t et => ?_, fun en => ?_⟩
        · unfold lookD at et
          rw [if_pos hd] at et
          cases et
          exact ⟨x, valV_pos hk, by rw [show x = y from ey1]; exact h1⟩
        · unfold lookD at en
          rw [if_pos hd] at en
          cases en
      · have hd : ¬ kEq k q = true := by rw [ek]; simp [hk]
        unfold lookD
        rw [if_neg hd, valV_neg hk]
        exact ih
def inD (k d : T) : Option T := match d with
  | .dic ks vs => if isKey k then some (.bl (lookD ks vs k).isSome) else none
  | _ => none
def ninD (k d : T) : Option T := match d with
  | .dic ks vs => if isKey k then some (.bl (!(lookD ks vs k).isSome)) else none
  | _ => none
def getD' (d k : T) : Option T := match d with
  | .dic ks vs => if isKey k then lookD ks vs k else none
  | _ => none
theorem isKey_of {t : T} (h : isKey t = true) : ∃ k, keyOf t = some k := by
  cases t <;> simp only [isKey] at h <;> try contradiction
  · exact ⟨_, rfl⟩
  · exact ⟨_, rfl⟩
theorem RepK.key {t : T} {v : V} {k : Key} (h : RepK E g H t v) (e : keyOf t = some k) : v = kV k := by
  cases t <;> simp only [keyOf] at e <;> try contradiction
  · cases e; exact h.int_of
  · cases e; exact h.str_of
theorem RepK.dic_of {ks vs : List T} {v : V} (h : RepK E g H (.dic ks vs) v) : ∃ a kvs, v = .ref a ∧ H a = some (.dK kvs) ∧ ks.map keyOf = kvs.map (fun p => some p.1) ∧ RepL E.K g vs (kvs.map (·.2)) := h
def rDIn : R2 := fun y x H Q => ∃ a o, x = .ref a ∧ DGet H a y o ∧ Q (.bl o.isSome) H
def rDNin : R2 := fun y x H Q => ∃ a o, x = .ref a ∧ DGet H a y o ∧ Q (.bl (!o.isSome)) H
theorem op_inDic (hu : X.A.units + 1 < cLine) : OpR X (compareOp .In) rDIn := by
  intro pins s σ H y x u v Q I ry rx h
  obtain ⟨a, o, rfl, dg, q⟩ := h
  cases rx
  exact d_in hu I dg ry fun s' I' => ⟨.bl o.isSome, H, I', rfl, q⟩
theorem op_ninDic (hu : X.A.units + 1 < cLine) : OpR X (compareOp .NotIn) rDNin := by
  intro pins s σ H y x u v Q I ry rx h
  obtain ⟨a, o, rfl, dg, q⟩ := h
  cases rx
  exact d_notIn hu I dg ry fun s' I' => ⟨.bl (!o.isSome), H, I', rfl, q⟩
theorem lr_inD : LR2 E rDIn inD := by
  intro g H t u s v w Q zs h1 h2 e q
  cases u <;> simp only [inD] at e <;> try contradiction
  rename_i ks vs
  split at e
  · rename_i hk
    cases e
    obtain ⟨k, ek⟩ := isKey_of hk
    obtain ⟨a, kvs, rfl, ha, hks, rl⟩ := h2.dic_of
    have hv := h1.key ek
    obtain ⟨l1, l2⟩ := lookD_val ek hks rl
    refine ⟨a, valV kvs k, rfl, by rw [hv]; exact DGet.k ha, q _ ?_⟩
    cases el : lookD ks vs t with
    | none => rw [l2 el]; exact rt_bl _
    | some z =>
      obtain ⟨x, ex, _⟩ := l1 z el
      rw [ex]
      exact rt_bl _
  · cases e
theorem lr_ninD : LR2 E rDNin ninD := by
  intro g H t u s v w Q zs h1 h2 e q
  cases u <;> simp only [ninD] at e <;> try contradiction
  rename_i ks vs
  split at e
  · rename_i hk
    cases e
    obtain ⟨k, ek⟩ := isKey_of hk
    obtain ⟨a, kvs, rfl, ha, hks, rl⟩ := h2.dic_of
    have hv := h1.key ek
    obtain ⟨l1, l2⟩ := lookD_val ek hks rl
    refine ⟨a, valV kvs k, rfl, by rw [hv]; exact DGet.k ha, q _ ?_⟩
    cases el : lookD ks vs t with
    | none => rw [l2 el]; exact rt_bl _
    | some z =>
      obtain ⟨x, ex, _⟩ := l1 z el
      rw [ex]
      exact rt_bl _
  · cases e
/-- x in whatever it may be in -/
def inU (t u : T) : Option T := match u with
  | .dic _ _ => inD t u
  | _ => inT t u
def ninU (t u : T) : Option T := match u with
  | .dic _ _ => ninD t u
  | _ => ninT t u
def rInU (K : PySem.W.Frag) : R2 := fun x y H Q => rInA K x y H Q ∨ rDIn x y H Q
def rNinU (K : PySem.W.Frag) : R2 := fun x y H Q => rNinA K x y H Q ∨ rDNin x y H Q
theorem op_inU (hu : X.A.units + 65 < cLine) : OpR X (compareOp .In) (rInU X.K) := OpR.or (op_inA hu) (op_inDic (by omega))
theorem op_ninU (hu : X.A.units + 65 < cLine) : OpR X (compareOp .NotIn) (rNinU X.K) := OpR.or (op_ninA hu) (op_ninDic (by omega))
theorem lr_inU : LR2 E (rInU E.K) inU := by
  intro g H t u s v w Q zs h1 h2 e q
  cases u <;> first | exact .inl (lr_in g H t _ s v w Q zs h1 h2 e q) | exact .inr (lr_inD g H t _ s v w Q zs h1 h2 e q)
theorem lr_ninU : LR2 E (rNinU E.K) ninU := by
  intro g H t u s v w Q zs h1 h2 e q
  cases u <;> first | exact .inl (lr_nin g H t _ s v w Q zs h1 h2 e q) | exact .inr (lr_ninD g H t _ s v w Q zs h1 h2 e q)
/-- d[k] -/
def rIxD (K : PySem.W.Frag) : R2 := fun x y H Q => ∃ a v, x = .ref a ∧ DGet H a y (some v) ∧ Q v H
theorem ix_dic (hu : X.A.units + 1 < cLine) : IxR X (rIxD X.K) := by
  intro value slice pins s σ H x y v u Q I rx ry h hs
  obtain ⟨a, w, rfl, dg, q⟩ := h
  cases rx
  exact tail_any (dict_typeIs I dg) PySem.F.slot_dict_getitem.lookup (d_getItem hu I dg ry fun w' s3 I3 rw' => ⟨w, H, I3, rw', q⟩) hs
def ixU (t u : T) : Option T := match t with
  | .dic _ _ => getD' t u
  | _ => ixO t u
def rIxU (K : PySem.W.Frag) : R2 := fun x y H Q => rIx K x y H Q ∨ rIxD K x y H Q
theorem ix_U (hu : X.A.units + 1 < cLine) : IxR X (rIxU X.K) := IxR.or ix_seq (ix_dic hu)
theorem lr_ixD : LR2 E (rIxD E.K) getD' := by
  intro g H t u s v w Q zs h1 h2 e q
  cases t <;> simp only [getD'] at e <;> try contradiction
  rename_i ks vs
  split at e
  · rename_i hk
    obtain ⟨k, ek⟩ := isKey_of hk
    obtain ⟨a, kvs, rfl, ha, hks, rl⟩ := h1.dic_of
    have hv := h2.key ek
    obtain ⟨l1, l2⟩ := lookD_val ek hks rl
    obtain ⟨x, ex, rx⟩ := l1 s e
    refine ⟨a, x, rfl, ?_, q _ rx⟩
    have := DGet.k (k := k) ha
    rw [ex] at this
    rw [hv]
    exact this
  · cases e
theorem lr_ixU : LR2 E (rIxU E.K) ixU := by
  intro g H t u s v w Q zs h1 h2 e q
  cases t <;> first | exact .inl (lr_ix g H _ u s v w Q zs h1 h2 e q) | exact .inr (lr_ixD g H _ u s v w Q zs h1 h2 e q)
/-- d[k] = v -/
def putV : List T → List T → T → T → List T
  | k :: ks, v :: vs, q, t => (if kEq k q then t else v) :: putV ks vs q t
  | _, _, _, _ => []
def putD (ks vs : List T) (q t : T) : Ob := if ks.any (fun k => kEq k q) then .dct ks (putV ks vs q t) else .dct (ks ++ [q]) (vs ++ [t])
theorem putV_rep {K : PySem.W.Frag} {q t : T} {kq : Key} {x : V} (hq : keyOf q = some kq) (ht : RepT K g t x) : ∀ {ks vs : List T} {kvs : List (Key × V)}, ks.map keyOf = kvs.map (fun p => some p.1) → RepL K g vs (kvs.map (·.2)) →
    RepL K g (putV ks vs q t) ((kvs.map (fun kv => if kv.1 = kq then (kv.1, x) else kv)).map (·.2))
  | [], vs, [], _, _ => by unfold putV; exact .nil
  | [], vs, _ :: _, e, _ => by simp at e
  | _ :: _, vs, [], e, _ => by simp at e
  | k :: ks, vs, (kx, y) :: kvs, e, h => by
    rw [List.map_cons, List.map_cons] at e
    injection e with e1 e2
    rw [List.map_cons] at h
    cases vs with
    | nil => unfold RepL at h; cases h
    | cons v vs =>
      unfold RepL at h
      obtain ⟨z, r, ez, h1, h2⟩ := h
      injection ez with ez1 ez2
      subst ez2
      have ez1 : y = z := ez1
      subst ez1
      have ih := putV_rep hq ht e2 h2
      have ek := kEq_key e1 hq
      unfold putV
      rw [List.map_cons, List.map_cons]
      unfold RepL
      by_cases hk : kx = kq
      · have hd : kEq k q = true := by rw [ek]; exact decide_eq_true hk
        rw [if_pos hd, if_pos hk]
        exact ⟨x, _, rfl, ht, ih⟩
      · have hd : ¬ kEq k q = true := by rw [ek]; simp [hk]
        rw [if_neg hd, if_neg hk]
        exact ⟨y, _, rfl, h1, ih⟩
theorem any_key {q : T} {kq : Key} (hq : keyOf q = some kq) : ∀ {ks : List T} {kvs : List (Key × V)}, ks.map keyOf = kvs.map (fun p => some p.1) → (ks.any fun k => kEq k q) = kvs.any fun kv => decide (kv.1 = kq)
  | [], [], _ => rfl
  | [], _ :: _, e => by simp at e
  | _ :: _, [], e => by simp at e
  | k :: ks, (kx, y) :: kvs, e => by
    rw [List.map_cons, List.map_cons] at e
    injection e with e1 e2
    rw [List.any_cons, List.any_cons, any_key hq e2, kEq_key e1 hq]
theorem putD_rep {K : PySem.W.Frag} {q t : T} {kq : Key} {x : V} (hq : keyOf q = some kq) (ht : RepT K g t x) {ks vs : List T} {kvs : List (Key × V)} (e : ks.map keyOf = kvs.map (fun p => some p.1)) (h : RepL K g vs (kvs.map (·.2))) :
    RepO K g (putD ks vs q t) (some (.dK (putK kvs kq x))) := by
  unfold putD putK
  rw [any_key hq e]
  by_cases ha : (kvs.any fun kv => decide (kv.1 = kq)) = true
  · rw [if_pos ha, if_pos ha]
    refine ⟨_, rfl, ?_, putV_rep hq ht e h⟩
    rw [e, List.map_map]
    refine List.map_congr_left fun p _ => ?_
    show some p.1 = some (if p.1 = kq then (p.1, x) else p).1
    split <;> rfl
  · rw [if_neg ha, if_neg ha]
    refine ⟨_, rfl, ?_, ?_⟩
    · rw [List.map_append, List.map_append, e, List.map_singleton, hq]
      rfl
    · rw [List.map_append]
      exact h.app (.one ht)
def cPut (mp : M Plc) (mk mv : M T) : Cmd := do
  let t ← mv
  let pl ← mp
  let k ← mk
  fun st => match pl st with
    | some (.dct ks vs, set) => if isKey k = true ∧ ks.length ≤ 1000000 then some (.ok .nxt, set (putD ks vs k t)) else none
    | _ => none
theorem sm_put {o i value : Expr} {mp : M Plc} {mk mv : M T} {pos' : Pos} (hu : X.A.units + 1 < cLine) (ho : LM E X o mp) (hi : ME E X i mk) (hv : ME E X value mv) (hs : swapsWith value (some (.Subscript o i pos')) pos.line X.env = pure false := by rfl) :
    SM E X (.Assign [.Subscript o i pos'] value pos) (cPut mp mk mv) :=
  ⟨PS.mono (ps_dput hu ho.pe hi.pe hv.pe hs) fun D σ H ⟨g, q⟩ => sT q fun t v g1 H1 s1 rv h1 => sPl h1 fun pl w g2 H2 s2 pk h2 => sT h2 fun k x g3 H3 s3 rk h3 => by
    obtain ⟨st, r, z⟩ := h3
    unfold run at z
    cases ep : pl st with
    | none => simp only [ep] at z
    | some p =>
      obtain ⟨ob, set⟩ := p
      simp only [ep] at z
      cases ob with
      | dct ks vs =>
        simp only at z
        by_cases hk : isKey k = true ∧ ks.length ≤ 1000000
        · simp only [if_pos hk] at z
          obtain ⟨p, ev, ⟨kvs, ex, hks, rl⟩, put⟩ := pk g3 st H3 _ _ r s3 ep
          obtain ⟨kq, ek⟩ := isKey_of hk.1
          have ek2 : x = kV kq := RepK.key (E := E) (g := g3) (H := H3) (RepT.k r.zs rk) ek
          obtain ⟨r2, s4⟩ := put (putD ks vs k t) _ (putD_rep ek ((rv.step s2).step s3) hks rl)
          refine ⟨p, _, ev, ?_, z g3 _ _ r2 s4⟩
          rw [ek2]
          refine DPut.k ex ?_
          have hl : ks.length = kvs.length := by
            have := congrArg List.length hks
            simpa using this
          rw [← hl]
          exact lin hk.2
        · simp only [if_neg hk] at z
      | _ => exact z.elim⟩
end
end Sw
namespace Sw
open PySem PySem.Spec PyProof.Rows L2
open Classical

section
variable {E : Ev} {g g1 : Gh} {H H1 : Hp} {σ : L2.St} {X : Cx} {pos : Pos}
/-! ### operators that may lay something new -/
/-- as it was, or with one new thing that stands still -/
def Fx (g : Gh) (H : Hp) (g' : Gh) (H' : Hp) : Prop := (g' = g ∧ H' = H) ∨ ∃ p o, H p = none ∧ g' = g.frz p o ∧ H' = upd H p o
theorem Fx.rel {g' : Gh} {H' : Hp} {st : Stt} (x : Fx g H g' H') (r : Rel E.K g st σ H) : Rel E.K g' st σ H' ∧ Stp g g' H H' := by
  rcases x with ⟨rfl, rfl⟩ | ⟨p, o, hp, rfl, rfl⟩
  · exact ⟨r, Stp.refl _ _⟩
  · exact r.frz hp
def LRN (E : Ev) (r : R2) (f : T → T → Option T) : Prop := ∀ (g : Gh) (H : Hp) (t u s : T) (v w : V) (Q : VK), Same g.Z H → RepK E g H t v → RepK E g H u w → f t u = some s → (∀ g' H' x, Fx g H g' H' → RepT E.K g' s x → Q x H') → r v w H Q
theorem LR2.n {r : R2} {f : T → T → Option T} (h : LR2 E r f) : LRN E r f := fun g H t u s v w Q zs h1 h2 e q => h g H t u s v w Q zs h1 h2 e fun x rx => q g H x (.inl ⟨rfl, rfl⟩) rx
theorem tOpN_lift {r : R2} {f : T → T → Option T} {ma mb : M Rdr} (hl : LRN E r f) {Q : VK} (h : teM E (eOp2 f ma mb) σ H Q) : tOp r (toM E ma) (toM E mb) σ H Q := by
  obtain ⟨g, h⟩ := h
  refine seqO st_okT h fun ra v g1 H1 s1 rd1 h1 => seqO st_okT h1 fun rb w g2 H2 s2 rd2 h2 => ?_
  obtain ⟨a, b, k1, k2, h3⟩ := at_rd2 h2 (rd1.step s2) rd2
  obtain ⟨s, st, e, rl, z⟩ := at_ofO h3
  refine hl g2 H2 a b s v w Q rl.zs k1 k2 e fun g' H' x fx rx => ?_
  obtain ⟨r2, s3⟩ := fx.rel rl
  exact z g' H' r2 s3 x rx
theorem me_opN {op : Operator} {r : R2} {f : T → T → Option T} {a b : Expr} {ma mb : M Rdr} (ho : OpR X (binaryOp op) r) (hl : LRN E r f) (ha : OE E X a ma) (hb : OE E X b mb) : ME E X (.BinOp a op b pos) (eOp2 f ma mb) :=
  ⟨PE.mono (pe_op ho ha.pe hb.pe) fun _ _ _ h => tOpN_lift hl h⟩
theorem fx_fz {ts : List T} {xs : List V} {Q : VK} (zs : Same g.Z H) (rl : RepL E.K g ts xs) (q : ∀ g' H' x, Fx g H g' H' → RepT E.K g' (.fz ts) x → Q x H') : ∀ p, H p = none → Q (.ref p) (upd H p (.lst xs)) := fun p hp =>
  q _ _ _ (.inr ⟨p, .lst xs, hp, rfl, rfl⟩) (rep_fz hp zs rl)
theorem fx_tup {ts : List T} {xs : List V} {Q : VK} (zs : Same g.Z H) (rl : RepL E.K g ts xs) (q : ∀ g' H' x, Fx g H g' H' → RepT E.K g' (.tup ts) x → Q x H') : ∀ p, H p = none → Q (.ref p) (upd H p (.tup xs)) := fun p hp =>
  q _ _ _ (.inr ⟨p, .tup xs, hp, rfl, rfl⟩) (rep_tup hp zs rl)
/-- + of ints, texts, tuples, lists -/
def addU : T → T → Option T
  | .int i, .int j => some (.int (i + j))
  | .str x, .str y => if x.length + y.length ≤ 1000000 then some (.str (x ++ y)) else none
  | .tup ts, .tup us => if ts.length + us.length ≤ 1000000 then some (.tup (ts ++ us)) else none
  | .fz ts, .fz us => if ts.length + us.length ≤ 1000000 then some (.fz (ts ++ us)) else none
  | _, _ => none
def rAddU (K : PySem.W.Frag) : R2 := fun x y H Q => rAdd K x y H Q ∨ rCat x y H Q
theorem op_addU : OpR X (binaryOp .Add) (rAddU X.K) := OpR.or op_addA op_cat
theorem ln_add : LRN E (rAddU E.K) addU := by
  intro g H t u s v w Q zs h1 h2 e q
  cases t <;> cases u <;> simp only [addU] at e <;> try contradiction
  · exact .inl (lr_add g H _ _ s v w Q zs h1 h2 (by simpa only [addO] using e) fun x rx => q g H x (.inl ⟨rfl, rfl⟩) rx)
  · exact .inl (lr_add g H _ _ s v w Q zs h1 h2 (by simpa only [addO] using e) fun x rx => q g H x (.inl ⟨rfl, rfl⟩) rx)
  · split at e
    · rename_i hz
      cases e
      obtain ⟨a, xs, rfl, ha, rl⟩ := h1.tup_of
      obtain ⟨b, ys, rfl, hb, rl2⟩ := h2.tup_of
      refine .inl (.inr (.inr ⟨a, b, xs, ys, rfl, rfl, sameT zs ha, sameT zs hb, by rw [rl.len, rl2.len]; exact mil hz, fun hx => ?_, fun hx hy => ?_, fun _ _ => fx_tup zs (rl.app rl2) q⟩))
      · have e0 := rl.len
        rw [hx] at e0
        have e1 := List.eq_nil_of_length_eq_zero e0.symm
        subst e1
        refine q g H _ (.inl ⟨rfl, rfl⟩) ?_
        unfold RepT
        exact ⟨b, ys, rfl, hb, rl2⟩
      · have e0 := rl2.len
        rw [hy] at e0
        have e1 := List.eq_nil_of_length_eq_zero e0.symm
        subst e1
        rw [List.append_nil] at q
        refine q g H _ (.inl ⟨rfl, rfl⟩) ?_
        unfold RepT
        exact ⟨a, xs, rfl, ha, rl⟩
    · contradiction
  · split at e
    · rename_i hz
      cases e
      obtain ⟨a, xs, rfl, ha, rl⟩ := h1
      obtain ⟨b, ys, rfl, hb, rl2⟩ := h2
      exact .inr ⟨a, b, xs, ys, rfl, rfl, ha, hb, by rw [rl.len, rl2.len]; exact mil hz, fx_fz zs (rl.app rl2) q⟩
    · contradiction
/-- * of ints, of a text, of a list -/
def mulU (t u : T) : Option T := match t with
  | .int _ => mulO t u
  | .str _ => mulSO t u
  | .fz _ => (repO t u).map .fz
  | _ => none
def rMulU : R2 := fun x y H Q => rI CMul (fun i j => .int (i * j)) x y H Q ∨ rMulS x y H Q ∨ rRep x y H Q
theorem op_mulU : OpR X (binaryOp .Mult) rMulU := OpR.or op_mul (OpR.or op_mulS op_rep)
theorem ln_mul : LRN E rMulU mulU := by
  intro g H t u s v w Q zs h1 h2 e q
  cases t <;> simp only [mulU] at e <;> try contradiction
  · exact .inl (lr_mul g H _ _ s v w Q zs h1 h2 e fun x rx => q g H x (.inl ⟨rfl, rfl⟩) rx)
  · exact .inr (.inl (lr_mulS g H _ _ s v w Q zs h1 h2 e fun x rx => q g H x (.inl ⟨rfl, rfl⟩) rx))
  · rename_i ts
    cases er : repO (.fz ts) u with
    | none => rw [er] at e; cases e
    | some us =>
      rw [er] at e
      cases e
      exact .inr (.inr (lr_rep g H _ _ us v w Q zs h1 h2 er fun p xs hp rl => q _ _ _ (.inr ⟨p, .lst xs, hp, rfl, rfl⟩) (rep_fz hp zs rl)))
/-! ### slices of any kind, a list's one stands still -/
def eSliceU (m : M Rdr) (ml mh : M (Option Int)) : M T := do
  let r ← m
  let lo ← ml
  let hi ← mh
  fun st => match r st with
    | some (.str s) => if s.length ≤ 1000000 then some (.ok (.str (cutL s lo hi)), st) else none
    | some (.tup ts) => some (.ok (.tup (cutL ts lo hi)), st)
    | some (.fz ts) => some (.ok (.fz (cutL ts lo hi)), st)
    | some (.scr ns) => some (.ok (.fz ((cutL ns lo hi).map .int)), st)
    | _ => none
def rSlU (K : PySem.W.Frag) : V → Option Int → Option Int → Hp → VK → Prop := fun x lo hi H Q => rSlST K x lo hi H Q ∨ rSlL K x lo hi H Q
theorem sl_U : SlR X (rSlU X.K) := by
  intro pins s σ H x v vl vu lo hi sl Q I rx hs pl pu h
  rcases h with h | h
  · exact sl_st pins s σ H x v vl vu lo hi sl Q I rx hs pl pu h
  · exact sl_list pins s σ H x v vl vu lo hi sl Q I rx hs pl pu h
theorem me_sliceU {e : Expr} {lo hi : Option Expr} {p2 : Pos} {m : M Rdr} {ml mh : M (Option Int)} (hK : E.K = X.K) (he : OE E X e m) (hl : PM E X lo ml) (hh : PM E X hi mh) : ME E X (.Subscript e (.Slice lo hi none p2) pos) (eSliceU m ml mh) :=
  ⟨PE.mono (pe_slice sl_U he.pe hl.po hh.po) fun σ H Q ⟨g, q⟩ => seqO st_okT q fun rd v g1 H1 s1 rr h1 => seqP st_okT h1 fun l g2 H2 s2 h2 => seqP st_okT h2 fun u g3 H3 s3 h3 => by
    obtain ⟨st, r, z⟩ := h3
    unfold run at z
    cases e : rd st with
    | none => simp only [e] at z
    | some t =>
      simp only [e] at z
      cases t with
      | str s =>
        simp only at z
        by_cases hs : s.length ≤ 1000000
        · rw [if_pos hs] at z
          have ev := (rr g3 st H3 _ r (s2.trans s3) e).str_of
          subst ev
          refine .inl (.inl ⟨sS s, rfl, by rw [sS_len]; exact mil hs, ?_⟩)
          have q2 := z g3 H3 r (Stp.refl _ _) (.str (sS (cutL s l u))) (rt_str _)
          have ec : cutS (sS s) l u = sS (cutL s l u) := by
            unfold cutS cutL
            rw [sS_len, show (sS s).cps.toList = s by simp [sS]]
            rfl
          rw [ec]
          exact q2
        · rw [if_neg hs] at z
          exact z.elim
      | tup ts =>
        obtain ⟨a, xs, rfl, ha, rl⟩ := (rr g3 st H3 _ r (s2.trans s3) e).tup_of
        rw [hK] at ha
        refine .inl (.inr ⟨a, xs, rfl, sameT r.zs ha, fun hw => ?_, fun _ => new_tup z r (rl.cut _ _)⟩)
        refine z g3 H3 r (Stp.refl _ _) (.ref a) ?_
        rw [rl.len] at hw
        rw [HT.sIx_whole hw]
        unfold RepT
        rw [hK]
        exact ⟨a, xs, rfl, ha, by rw [← hK]; exact rl⟩
      | fz ts =>
        obtain ⟨a, xs, rfl, ha, rl⟩ := rr g3 st H3 _ r (s2.trans s3) e
        refine .inr ⟨a, xs, rfl, .inl (.inl ha), fun p hp => ?_⟩
        obtain ⟨r2, s4⟩ := r.frz (o := .lst (cutV xs l u)) hp
        exact z _ _ r2 s4 _ (rep_fz hp r.zs (rl.cut _ _))
      | scr ns =>
        have h : RepT E.K g3 (.scr ns) v := rr g3 st H3 _ r (s2.trans s3) e
        unfold RepT at h
        obtain ⟨a, ev, ha⟩ := h
        rw [hK] at ha
        refine .inr ⟨a, _, ev, r.zs.seq ha, fun p hp => ?_⟩
        rw [cutV_map]
        obtain ⟨r2, s4⟩ := r.frz (o := .lst ((cutL ns l u).map V.int)) hp
        exact z _ _ r2 s4 _ (rep_fz hp r.zs (rep_ints _))
      | _ => exact z.elim⟩

/-! ### what is walked: a list that stands still, or a boxed one that nobody changes -/
def lstAt (S : List Ob) : T → Option (List T)
  | .fz ts => some ts
  | .ref a => match S[a]? with
    | some (.lst ts) => some ts
    | _ => none
  | _ => none
theorem lstAt_rep {t : T} {v : V} (h : RepT E.K g t v) : (∃ ts st, lstAt st t = some ts) → ∃ a, v = .ref a ∧ ∀ g' st' σ' H' ts, Rel E.K g' st' σ' H' → GStp g g' → lstAt st'.S t = some ts → ∃ xs, H' a = some (.lst xs) ∧ RepL E.K g' ts xs := by
  rintro ⟨ts0, S0, e0⟩
  cases t with
  | fz us =>
    obtain ⟨a, xs, ev, hz, rl⟩ := h.fz_of
    refine ⟨a, ev, fun g' st' σ' H' ts r s e => ?_⟩
    cases e
    exact ⟨xs, r.zs _ _ (s.z _ _ hz), rl.gstep s⟩
  | ref b =>
    unfold RepT at h
    refine ⟨g.ρ b, h.2, fun g' st' σ' H' ts r s e => ?_⟩
    unfold lstAt at e
    cases eb : st'.S[b]? with
    | none => simp only [eb] at e; cases e
    | some ob =>
      simp only [eb] at e
      cases ob with
      | lst us =>
        cases e
        obtain ⟨_, xs, e1, e2⟩ := r.box b _ eb
        rw [s.ρ b h.1] at e1
        exact ⟨xs, e1, e2⟩
      | _ => cases e
  | _ => cases e0
def iU (m : M T) : M Itr := do
  let t ← m
  fun st => match t with
    | .tup ts => some (.ok ⟨ts, fun _ => True⟩, st)
    | .str s => some (.ok ⟨s.map fun c => .str [c], fun _ => True⟩, st)
    | t => match lstAt st.S t with
      | some ts => some (.ok ⟨ts, fun st' => lstAt st'.S t = some ts⟩, st)
      | none => none
theorem it_at {a : Addr} {t : T} {ts : List T} {l : List Nat} (k : ∀ g' st' σ' H' ts, Rel E.K g' st' σ' H' → GStp g g' → lstAt st'.S t = some ts → ∃ xs, H' a = some (.lst xs) ∧ RepL E.K g' ts xs) :
    ItOk E g σ l (Itl X.K a) ⟨ts, fun st' => lstAt st'.S t = some ts⟩ := by
  refine ⟨fun g' st' σ' H' i r s ch _ hi => ?_, fun g' st' σ' H' r s ch _ => ?_, fun g' st' σ' H' i x H2 r s ch _ hi y => ?_⟩
  · obtain ⟨xs, e, rl⟩ := k g' st' σ' H' ts r s ch
    obtain ⟨t, et⟩ := lt_get hi
    obtain ⟨x, ex, _⟩ := rl.get et
    exact ⟨xs, x, .inl (.inl e), ex⟩
  · obtain ⟨xs, e, rl⟩ := k g' st' σ' H' ts r s ch
    exact ⟨xs, .inl (.inl e), by rw [rl.len]; exact Nat.le_refl _⟩
  · obtain ⟨xs, e, rl⟩ := k g' st' σ' H' ts r s ch
    obtain ⟨t, et⟩ := lt_get hi
    obtain ⟨x', ex, rx⟩ := rl.get et
    obtain ⟨eH, y⟩ := y
    subst eH
    have e2 := y xs (.inl (.inl e))
    rw [ex] at e2
    cases e2
    exact ⟨g', t, r, Stp.refl _ _, et, rx⟩
theorem PI.or {tg e : Expr} {t t' : TI} (h : PI X tg e t) (h' : PI X tg e t') : PI X tg e (fun σ H R => t σ H R ∨ t' σ H R) := ⟨fun pins s σ H R I q => by
  rcases q with q | q
  · exact h.run pins s σ H R I q
  · exact h'.run pins s σ H R I q⟩
/-- what each way of walking wants of the value -/
theorem pi_lts {tg e : Expr} {te : TE} (he : PE X e te) : PI X tg e (fun σ H R => te σ H fun x H1 => (∃ a, x = .ref a ∧ (∃ xs, SqL X.K H1 a xs) ∧ R (Itl X.K a) H1) ∨ (∃ a, x = .ref a ∧ (∃ xs, SqT X.K H1 a xs) ∧ R (Itt X.K a) H1) ∨ (∃ z, x = .str z ∧ R (Its z) H1)) := by
  refine ⟨fun pins s σ H R I h => ?_⟩
  refine thn (he.run pins s σ H _ I h) fun v s1 ⟨x, H1, I1, r1, q1⟩ => ?_
  rcases q1 with ⟨a, e, ⟨xs, hq⟩, q⟩ | ⟨a, e, ⟨xs, hq⟩, q⟩ | ⟨z, e, q⟩
  · subst e
    cases r1
    obtain ⟨its, rv, p, hz⟩ := I1.list hq
    refine wpAny_pyIter_list p.isList ?_
    refine ⟨s1.heap.objs.size, [s1.heap.objs.size], _, _, H1, rfl, I1.kept (t' := s1.toks) fun b o e => Heap.get?_push_of_some _ e, turn_list a _, ⟨_, Heap.get?_push_size _ rfl, rfl, rfl⟩, fun b hb => ?_, q⟩
    have e : b = s1.heap.objs.size := by simpa using hb
    subst e
    exact I1.fpOk (Nat.le_refl _) (I1.hok.fresh (Nat.le_refl _))
  · subst e
    cases r1
    obtain ⟨its, rv, p, hz⟩ := I1.tuple hq
    refine wpAny_pyIter_tuple (show s1.heap.IsTuple a its.toArray from p) ?_
    refine ⟨s1.heap.objs.size, [s1.heap.objs.size], _, _, H1, rfl, I1.kept (t' := s1.toks) fun b o e => Heap.get?_push_of_some _ e, turn_tuple a _, ⟨_, Heap.get?_push_size _ rfl, rfl, rfl⟩, fun b hb => ?_, q⟩
    have e : b = s1.heap.objs.size := by simpa using hb
    subst e
    exact I1.fpOk (Nat.le_refl _) (I1.hok.fresh (Nat.le_refl _))
  · subst e
    obtain ⟨t, rfl⟩ := r1
    cases ha : z.cps.all (· < 128)
    · exact wpAny_pyIter_wide ha (pi_one (tk := s1.toks) I1 _ (turn_str _ z t "str_iterator" (.inr rfl)) ⟨_, Heap.get?_push_size _ rfl, rfl, rfl⟩ q)
    · exact wpAny_pyIter_ascii ha (pi_one (tk := s1.toks) I1 _ (turn_str _ z t "str_ascii_iterator" (.inl rfl)) ⟨_, Heap.get?_push_size _ rfl, rfl, rfl⟩ q)
theorem it_tup {a : Addr} {xs : List V} {ts : List T} {l : List Nat} (hz : SqT X.K g.Z a xs) (rl : RepL E.K g ts xs) : ItOk E g σ l (Itt X.K a) ⟨ts, fun _ => True⟩ := by
  have sq : ∀ {g' st' σ' H'}, Rel E.K g' st' σ' H' → GStp g g' → SqT X.K H' a xs := fun r s => sameT r.zs (sameT s.z hz)
  refine ⟨fun g' st' σ' H' i r s _ _ hi => ?_, fun g' st' σ' H' r s _ _ => ⟨xs, sq r s, by rw [rl.len]; exact Nat.le_refl _⟩, fun g' st' σ' H' i x H2 r s _ _ hi y => ?_⟩
  · obtain ⟨t, e⟩ := lt_get hi
    obtain ⟨x, ex, _⟩ := rl.get e
    exact ⟨xs, x, sq r s, ex⟩
  · obtain ⟨t, e⟩ := lt_get hi
    obtain ⟨x', ex, rx⟩ := rl.get e
    obtain ⟨eH, y⟩ := y
    subst eH
    have e2 := y xs (sq r s)
    rw [ex] at e2
    cases e2
    exact ⟨g', t, r, Stp.refl _ _, e, rx.gstep s⟩
theorem it_str {s : List Nat} {l : List Nat} : ItOk E g σ l (Its (sS s)) ⟨s.map fun c => .str [c], fun _ => True⟩ := by
  have hz : (sS s).cps.size = s.length := by simp [sS]
  refine ⟨fun g' st' σ' H' i r s' _ _ hi => ?_, fun g' st' σ' H' r s' _ _ => ?_, fun g' st' σ' H' i x H2 r s' _ _ hi y => ?_⟩
  · show i < (sS s).cps.size
    rw [hz]
    simpa using hi
  · show (sS s).cps.size ≤ _
    rw [hz]
    simp
  · obtain ⟨e1, c, e2, e3⟩ := y
    subst e1
    subst e3
    have e2 : s[i]? = some c := by simpa [sS] using e2
    exact ⟨g', .str [c], r, Stp.refl _ _, by simp [e2], rt_str _⟩
theorem im_u {tg e : Expr} {l : List Nat} {m : M T} (hK : E.K = X.K) (h : ME E X e m) : IM E l X tg e (iU m) :=
  ⟨PI.mono (pi_lts h.pe) fun σ H R ⟨g, q⟩ => seqT st_okI q fun t v g1 H1 s1 rv h1 => by
    obtain ⟨st, r, z⟩ := h1
    unfold run at z
    have gen : ∀ ts, lstAt st.S t = some ts → (∀ J, ItOk E g1 σ l J ⟨ts, fun st' => lstAt st'.S t = some ts⟩ → R J H1) → ∃ a, v = .ref a ∧ (∃ xs, SqL X.K H1 a xs) ∧ R (Itl X.K a) H1 := fun ts e k => by
      obtain ⟨a, ev, ka⟩ := lstAt_rep rv ⟨ts, _, e⟩
      obtain ⟨xs, ex, rl⟩ := ka g1 st σ H1 ts r ⟨Same.refl _, Nat.le_refl _, fun _ _ => rfl⟩ e
      exact ⟨a, ev, ⟨xs, .inl (.inl ex)⟩, k _ (it_at ka)⟩
    cases t with
    | tup ts =>
      obtain ⟨a, xs, e, hz, rl⟩ := rv.tup_of
      rw [hK] at hz
      exact .inr (.inl ⟨a, e, ⟨xs, sameT r.zs hz⟩, z g1 H1 r (Stp.refl _ _) _ (it_tup hz rl)⟩)
    | str s => exact .inr (.inr ⟨sS s, rv.str_of, z g1 H1 r (Stp.refl _ _) _ it_str⟩)
    | fz ts => exact .inl (gen ts rfl fun J ok => z g1 H1 r (Stp.refl _ _) J ok)
    | ref a =>
      simp only at z
      cases el : lstAt st.S (.ref a) with
      | none => simp only [el] at z
      | some ts =>
        simp only [el] at z
        exact .inl (gen ts el fun J ok => z g1 H1 r (Stp.refl _ _) J ok)
    | non => exact z.elim
    | bl _ => exact z.elim
    | int _ => exact z.elim
    | ty _ => exact z.elim
    | scr _ => exact z.elim
    | dic _ _ => exact z.elim⟩
/-- enumerate of such a list -/
def iEnumU (m : M (List T)) : M Itr := do
  match ← m with
  | [t] => fun st => match lstAt st.S t with
    | some ts => some (.ok ⟨enumT ts, fun st' => lstAt st'.S t = some ts⟩, st)
    | none => none
  | _ => stuck
theorem it_enumU {a : Addr} {t : T} {ts : List T} {l : List Nat} (k : ∀ g' st' σ' H' ts, Rel E.K g' st' σ' H' → GStp g g' → lstAt st'.S t = some ts → ∃ xs, H' a = some (.lst xs) ∧ RepL E.K g' ts xs) :
    ItOk E g σ l (Ite X.K a) ⟨enumT ts, fun st' => lstAt st'.S t = some ts⟩ := by
  have hlen : (enumT ts).length = ts.length := by simp [enumT]
  refine ⟨fun g' st' σ' H' i r s ch _ hi => ?_, fun g' st' σ' H' r s ch _ => ?_, fun g' st' σ' H' i x H2 r s ch _ hi y => ?_⟩
  · obtain ⟨xs, e, rl⟩ := k g' st' σ' H' ts r s ch
    have hi : i < ts.length := by rw [← hlen]; exact hi
    obtain ⟨t, et⟩ := lt_get hi
    obtain ⟨x, ex, _⟩ := rl.get et
    exact ⟨xs, x, .inl (.inl e), ex⟩
  · obtain ⟨xs, e, rl⟩ := k g' st' σ' H' ts r s ch
    exact ⟨xs, .inl (.inl e), by rw [rl.len, ← hlen]; exact Nat.le_refl _⟩
  · obtain ⟨xs, e, rl⟩ := k g' st' σ' H' ts r s ch
    have hi : i < ts.length := by rw [← hlen]; exact hi
    obtain ⟨t, et⟩ := lt_get hi
    obtain ⟨x', ex, rx⟩ := rl.get et
    obtain ⟨p, z, e1, hp, e2, y⟩ := y
    have e3 := y xs (.inl (.inl e))
    rw [ex] at e3
    cases e3
    obtain ⟨r2, s2⟩ := r.frz (o := .tup [.int (i : Nat), x']) hp
    rw [e1, e2]
    exact ⟨_, .tup [.int (i : Nat), t], r2, s2, by simp [enumT, et], rep_tup hp r.zs (.two (rt_int _) rx)⟩
theorem im_enumU {l : List Nat} {e : Expr} {m : M (List T)} {p tpos : Pos} {elts : List Expr} {kk : Nat} (hg : Gl X "enumerate") (hm : X.mg "enumerate" = none) (ha : AM E X [e] m) (hs : starEach [e] X.env = [(false, eval e X.env)] := by rfl) :
    IM E l X (.Tuple elts kk tpos) (.Call (.Name "enumerate" p) [e] [] pos) (iEnumU m) :=
  ⟨PI.mono (pi_enum hg hm ha.pa hs) fun σ H R ⟨g, q⟩ => ⟨g, seq_any (Φ := fun g H => okI E l g H σ R) st_okI q fun ts st1 k g1 H1 r1 s1 vs rl => by
    have h1 := k g1 H1 r1 s1
    match ts, h1 with
    | [t], h1 =>
      obtain ⟨st, r, z⟩ := h1
      unfold run at z
      simp only at z
      cases el : lstAt st.S t with
      | none => simp only [el] at z
      | some us =>
        simp only [el] at z
        obtain ⟨v, e, rv⟩ := rl.one_of
        obtain ⟨a, ev, ka⟩ := lstAt_rep rv ⟨us, _, el⟩
        obtain ⟨xs, ex, _⟩ := ka g1 st σ H1 us r ⟨Same.refl _, Nat.le_refl _, fun _ _ => rfl⟩ el
        exact ⟨a, xs, by rw [e, ev], .inl (.inl ex), z g1 H1 r (Stp.refl _ _) _ (it_enumU ka)⟩
    | [], h1 => obtain ⟨_, _, z⟩ := h1; exact z.elim
    | _ :: _ :: _, h1 => obtain ⟨_, _, z⟩ := h1; exact z.elim⟩⟩
/-- zip of two such lists, or of two tuples -/
def iZipU (m : M (List T)) : M Itr := do
  match ← m with
  | [t, u] => fun st => match t, u with
    | .tup ts, .tup us => some (.ok ⟨zipT ts us, fun _ => True⟩, st)
    | t, u => match lstAt st.S t, lstAt st.S u with
      | some ts, some us => some (.ok ⟨zipT ts us, fun st' => lstAt st'.S t = some ts ∧ lstAt st'.S u = some us⟩, st)
      | _, _ => none
  | _ => stuck
theorem it_zipT {a b : Addr} {xs ys : List V} {ts us : List T} {l : List Nat} (hx : SqT X.K g.Z a xs) (hy : SqT X.K g.Z b ys) (rl : RepL E.K g ts xs) (rl2 : RepL E.K g us ys) (hK : E.K = X.K) :
    ItOk E g σ l (RZ.ItzT X.K a b) ⟨zipT ts us, fun _ => True⟩ := by
  have hlen : (zipT ts us).length = min ts.length us.length := by simp [zipT]
  have sq : ∀ {g' st' σ' H'}, Rel E.K g' st' σ' H' → GStp g g' → SqT X.K H' a xs ∧ SqT X.K H' b ys := fun r s => ⟨sameT r.zs (sameT s.z hx), sameT r.zs (sameT s.z hy)⟩
  refine ⟨fun g' st' σ' H' i r s _ _ hi => ?_, fun g' st' σ' H' r s _ _ => ?_, fun g' st' σ' H' i v H2 r s _ _ hi q => ?_⟩
  · have hi : i < min ts.length us.length := by rw [← hlen]; exact hi
    obtain ⟨t, e⟩ := lt_get (show i < ts.length by omega)
    obtain ⟨x, ex, _⟩ := rl.get e
    obtain ⟨t, e⟩ := lt_get (show i < us.length by omega)
    obtain ⟨y, ey, _⟩ := rl2.get e
    exact ⟨xs, ys, x, y, (sq r s).1, (sq r s).2, ex, ey⟩
  · refine ⟨xs, ys, (sq r s).1, (sq r s).2, ?_⟩
    show xs.length ≤ (zipT ts us).length ∨ ys.length ≤ (zipT ts us).length
    rw [hlen, rl.len, rl2.len]
    omega
  · have hi : i < min ts.length us.length := by rw [← hlen]; exact hi
    obtain ⟨t, e⟩ := lt_get (show i < ts.length by omega)
    obtain ⟨x', ex, rx⟩ := rl.get e
    obtain ⟨u, e'⟩ := lt_get (show i < us.length by omega)
    obtain ⟨y', ey, ry⟩ := rl2.get e'
    obtain ⟨p, z, z2, e1, hp, e2, yx, yy⟩ := q
    have e3 := yx xs (sq r s).1
    rw [ex] at e3
    cases e3
    have e4 := yy ys (sq r s).2
    rw [ey] at e4
    cases e4
    obtain ⟨r2, s2⟩ := r.frz (o := .tup [x', y']) hp
    rw [e1, e2]
    refine ⟨_, .tup [t, u], r2, s2, ?_, rep_tup hp r.zs (.two (rx.gstep s) (ry.gstep s))⟩
    have ez : (ts.zip us)[i]? = some (t, u) := List.getElem?_zip_eq_some.mpr ⟨e, e'⟩
    show ((ts.zip us).map _)[i]? = _
    rw [List.getElem?_map, ez]
    rfl
theorem it_zipU {a b : Addr} {t u : T} {ts us : List T} {l : List Nat} (k : ∀ g' st' σ' H' ts, Rel E.K g' st' σ' H' → GStp g g' → lstAt st'.S t = some ts → ∃ xs, H' a = some (.lst xs) ∧ RepL E.K g' ts xs)
    (k2 : ∀ g' st' σ' H' ts, Rel E.K g' st' σ' H' → GStp g g' → lstAt st'.S u = some ts → ∃ xs, H' b = some (.lst xs) ∧ RepL E.K g' ts xs) :
    ItOk E g σ l (Itz X.K a b) ⟨zipT ts us, fun st' => lstAt st'.S t = some ts ∧ lstAt st'.S u = some us⟩ := by
  have hlen : (zipT ts us).length = min ts.length us.length := by simp [zipT]
  refine ⟨fun g' st' σ' H' i r s ch _ hi => ?_, fun g' st' σ' H' r s ch _ => ?_, fun g' st' σ' H' i x H2 r s ch _ hi y => ?_⟩
  · obtain ⟨xs, e1, rl⟩ := k g' st' σ' H' ts r s ch.1
    obtain ⟨ys, e2, rl2⟩ := k2 g' st' σ' H' us r s ch.2
    have hi : i < min ts.length us.length := by rw [← hlen]; exact hi
    obtain ⟨t, e⟩ := lt_get (show i < ts.length by omega)
    obtain ⟨x, ex, _⟩ := rl.get e
    obtain ⟨t, e⟩ := lt_get (show i < us.length by omega)
    obtain ⟨y, ey, _⟩ := rl2.get e
    exact ⟨xs, ys, x, y, .inl (.inl e1), .inl (.inl e2), ex, ey⟩
  · obtain ⟨xs, e1, rl⟩ := k g' st' σ' H' ts r s ch.1
    obtain ⟨ys, e2, rl2⟩ := k2 g' st' σ' H' us r s ch.2
    refine ⟨xs, ys, .inl (.inl e1), .inl (.inl e2), ?_⟩
    show xs.length ≤ (zipT ts us).length ∨ ys.length ≤ (zipT ts us).length
    rw [hlen, rl.len, rl2.len]
    omega
  · obtain ⟨xs, q1, rl⟩ := k g' st' σ' H' ts r s ch.1
    obtain ⟨ys, q2, rl2⟩ := k2 g' st' σ' H' us r s ch.2
    have hi : i < min ts.length us.length := by rw [← hlen]; exact hi
    obtain ⟨t, e⟩ := lt_get (show i < ts.length by omega)
    obtain ⟨x', ex, rx⟩ := rl.get e
    obtain ⟨u, e'⟩ := lt_get (show i < us.length by omega)
    obtain ⟨y', ey, ry⟩ := rl2.get e'
    obtain ⟨p, z, z2, e1, hp, e2, yx, yy⟩ := y
    have e3 := yx xs (.inl (.inl q1))
    rw [ex] at e3
    cases e3
    have e4 := yy ys (.inl (.inl q2))
    rw [ey] at e4
    cases e4
    obtain ⟨r2, s2⟩ := r.frz (o := .tup [x', y']) hp
    rw [e1, e2]
    refine ⟨_, .tup [t, u], r2, s2, ?_, rep_tup hp r.zs (.two rx ry)⟩
    have ez : (ts.zip us)[i]? = some (t, u) := List.getElem?_zip_eq_some.mpr ⟨e, e'⟩
    simp only [zipT]
    rw [List.getElem?_map, ez]
    rfl
theorem im_zipU (hK : E.K = X.K) {l : List Nat} {e e2 : Expr} {m : M (List T)} {p tpos : Pos} {elts : List Expr} {kk : Nat} (hg : Gl X "zip") (hm : X.mg "zip" = none) (ha : AM E X [e, e2] m)
    (hs : starEach [e, e2] X.env = (false, eval e X.env) :: starEach [e2] X.env := by rfl) (hpl : (backTo pos (starEach [e2] X.env)).any (·.1) = false := by rfl) :
    IM E l X (.Tuple elts kk tpos) (.Call (.Name "zip" p) [e, e2] [] pos) (iZipU m) :=
  ⟨PI.mono (RZ.pi_zipA hg hm ha.pa hs hpl) fun σ H R ⟨g, q⟩ => ⟨g, seq_any (Φ := fun g H => okI E l g H σ R) st_okI q fun ts st1 k g1 H1 r1 s1 vs rl => by
    have h1 := k g1 H1 r1 s1
    match ts, h1 with
    | [t, u], h1 =>
      obtain ⟨st, r, z⟩ := h1
      have lists : run (fun st => match lstAt st.S t, lstAt st.S u with
          | some ts, some us => some (.ok (⟨zipT ts us, fun st' => lstAt st'.S t = some ts ∧ lstAt st'.S u = some us⟩ : Itr), st)
          | _, _ => none : M Itr) st (okI E l g1 H1 σ R) (exW E g1 H1 σ) → ∃ a b xs ys, vs = [.ref a, .ref b] ∧ ((SqL X.K H1 a xs ∧ SqL X.K H1 b ys ∧ R (Itz X.K a b) H1) ∨ (SqT X.K H1 a xs ∧ SqT X.K H1 b ys ∧ R (RZ.ItzT X.K a b) H1)) := fun z => by
        unfold run at z
        dsimp only at z
        cases e1 : lstAt st.S t with
        | none => simp only [e1] at z
        | some us =>
          cases e2 : lstAt st.S u with
          | none => simp only [e1, e2] at z
          | some ws =>
            simp only [e1, e2] at z
            obtain ⟨v, w, e, rv, rw'⟩ := rl.two_of
            obtain ⟨a, ev, ka⟩ := lstAt_rep rv ⟨us, _, e1⟩
            obtain ⟨b, ew, kb⟩ := lstAt_rep rw' ⟨ws, _, e2⟩
            obtain ⟨xs, ex, _⟩ := ka g1 st σ H1 us r ⟨Same.refl _, Nat.le_refl _, fun _ _ => rfl⟩ e1
            obtain ⟨ys, ey, _⟩ := kb g1 st σ H1 ws r ⟨Same.refl _, Nat.le_refl _, fun _ _ => rfl⟩ e2
            exact ⟨a, b, xs, ys, by rw [e, ev, ew], .inl ⟨.inl (.inl ex), .inl (.inl ey), z g1 H1 r (Stp.refl _ _) _ (it_zipU ka kb)⟩⟩
      by_cases ht : ∃ ts us, t = .tup ts ∧ u = .tup us
      · obtain ⟨ts, us, rfl, rfl⟩ := ht
        obtain ⟨v, w, e, rv, rw'⟩ := rl.two_of
        obtain ⟨a, xs, ea, hx, rl1⟩ := rv.tup_of
        obtain ⟨b, ys, eb, hy, rl2⟩ := rw'.tup_of
        rw [hK] at hx hy
        exact ⟨a, b, xs, ys, by rw [e, ea, eb], .inr ⟨sameT r.zs hx, sameT r.zs hy, z g1 H1 r (Stp.refl _ _) _ (it_zipT hx hy rl1 rl2 hK)⟩⟩
      · refine lists ?_
        cases t <;> first | exact z | (cases u <;> first | exact z | exact (ht ⟨_, _, rfl, rfl⟩).elim)
    | [], h1 => obtain ⟨_, _, z⟩ := h1; exact z.elim
    | [_], h1 => obtain ⟨_, _, z⟩ := h1; exact z.elim
    | _ :: _ :: _ :: _, h1 => obtain ⟨_, _, z⟩ := h1; exact z.elim⟩⟩
end
end Sw
namespace Sw
open PySem PySem.Spec PyProof.Rows L2
open Classical

/-- what every rule asks of its surroundings -/
structure Gd (E : Ev) (X : Cx) : Prop where
  K : E.K = X.K
  hu : X.A.units + 65 < cLine
  calm : X.calm = true
  nd : X.N.Nodup
  tk : Takes X E.W
  rx : RXok E.RX
section
variable {E : Ev} {X : Cx} {pos : Pos}
theorem Gd.blk (G : Gd E X) {s : Shared} {H : Hp} {scope : Scope} {cenv : Env} {fp : List Addr} : Gd E.nox (X.blk s H scope cenv fp) :=
  ⟨G.K, G.hu, G.calm, G.nd, takes0, G.rx⟩
/-! ### names -/
section
variable {x : Str} {p : Pos}
theorem ev (i : Nat) (hN : X.N[i]? = some x := by rfl) (hv : Vis X.env.scope x := by first | exact Or.inl rfl | exact Or.inr (Or.inl rfl) | exact Or.inr (Or.inr rfl)) (hd : (x == ("__debug__" : Str)) = false := by decide)
    (hcd : (x == ("__classdict__" : Str)) = false := by decide) : ME E X (.Name x p) (eVar i) := me_var (pe_var hN hv hd hcd)
theorem ov (i : Nat) (hN : X.N[i]? = some x := by rfl) (hv : Vis X.env.scope x := by first | exact Or.inl rfl | exact Or.inr (Or.inl rfl) | exact Or.inr (Or.inr rfl)) (hd : (x == ("__debug__" : Str)) = false := by decide)
    (hcd : (x == ("__classdict__" : Str)) = false := by decide) : OE E X (.Name x p) (oVar i) := oe_var (pe_var hN hv hd hcd)
theorem fv (i : Nat) (hN : X.N[i]? = some x := by rfl) (hv : Vis X.env.scope x := by first | exact Or.inl rfl | exact Or.inr (Or.inl rfl) | exact Or.inr (Or.inr rfl)) (hd : (x == ("__debug__" : Str)) = false := by decide)
    (hcd : (x == ("__classdict__" : Str)) = false := by decide) : ME E X (.Name x p) (eFrz i) := me_frz (pe_var hN hv hd hcd)
theorem lv (i : Nat) (hN : X.N[i]? = some x := by rfl) (hv : Vis X.env.scope x := by first | exact Or.inl rfl | exact Or.inr (Or.inl rfl) | exact Or.inr (Or.inr rfl)) (hd : (x == ("__debug__" : Str)) = false := by decide)
    (hcd : (x == ("__classdict__" : Str)) = false := by decide) : LM E X (.Name x p) (mVar i) := lm_var (pe_var hN hv hd hcd)
theorem iv {tg : Expr} (i : Nat) (hN : X.N[i]? = some x := by rfl) (hv : Vis X.env.scope x := by first | exact Or.inl rfl | exact Or.inr (Or.inl rfl) | exact Or.inr (Or.inr rfl)) (hd : (x == ("__debug__" : Str)) = false := by decide)
    (hcd : (x == ("__classdict__" : Str)) = false := by decide) : IM E [i] X tg (.Name x p) (iVar i) := im_var (pe_var hN hv hd hcd)
theorem gn (G : Gd E X) (i : Nat) (hi : X.N[i]? = some x := by rfl) (hx : Loc X.env.scope x := by first | exact .inl rfl | exact .inr rfl) (hf : X.fn x = true ∨ X.env.scope.names.lookup x = some .local := by first | exact .inl rfl | exact .inr rfl) : GM E X (.Name x p) (.nm i) := gm_name G.nd hi hx hf
theorem s_set (G : Gd E X) (i : Nat) {e : Expr} {m : M T} {pos' : Pos} (he : ME E X e m) (hi : X.N[i]? = some x := by rfl) (hx : Loc X.env.scope x := by first | exact .inl rfl | exact .inr rfl) (hs : swapsWith e (some (.Name x pos')) pos.line X.env = pure false := by rfl) (hf : X.fn x = true ∨ X.env.scope.names.lookup x = some .local := by first | exact .inl rfl | exact .inr rfl) :
    SM E X (.Assign [.Name x pos'] e pos) (cSet i m) := sm_set G.nd hi hx he hs hf
theorem s_own (G : Gd E X) (i : Nat) {e : Expr} {m : M Ob} {pos' : Pos} (he : FE E X e m) (hi : X.N[i]? = some x := by rfl) (hx : Loc X.env.scope x := by first | exact .inl rfl | exact .inr rfl) (hs : swapsWith e (some (.Name x pos')) pos.line X.env = pure false := by rfl) (hf : X.fn x = true ∨ X.env.scope.names.lookup x = some .local := by first | exact .inl rfl | exact .inr rfl) :
    SM E X (.Assign [.Name x pos'] e pos) (cOwn i m) := sm_own G.nd hi hx he hs hf
end
section
variable {a b c e : Expr} {ma mb mc : M Rdr}
theorem x_add (G : Gd E X) (ha : OE E X a ma) (hb : OE E X b mb) : ME E X (.BinOp a .Add b pos) (eOp2 addU ma mb) := me_opN op_addU (G.K ▸ ln_add) ha hb
theorem x_mul (ha : OE E X a ma) (hb : OE E X b mb) : ME E X (.BinOp a .Mult b pos) (eOp2 mulU ma mb) := me_opN op_mulU ln_mul ha hb
theorem x_sub (ha : OE E X a ma) (hb : OE E X b mb) : ME E X (.BinOp a .Sub b pos) (eOp2 subO ma mb) := me_op op_sub lr_sub ha hb
theorem x_div (ha : OE E X a ma) (hb : OE E X b mb) : ME E X (.BinOp a .FloorDiv b pos) (eOp2 divO ma mb) := me_op op_fdivW lr_div ha hb
theorem x_mod (ha : OE E X a ma) (hb : OE E X b mb) : ME E X (.BinOp a .Mod b pos) (eOp2 modO ma mb) := me_op op_mod lr_mod ha hb
theorem x_pow (ha : OE E X a ma) (hb : OE E X b mb) : ME E X (.BinOp a .Pow b pos) (eOp2 powO ma mb) := me_op op_pow lr_pow ha hb
theorem x_ix (G : Gd E X) (ha : OE E X a ma) (hb : OE E X b mb) (hs : PlainIx b := by exact fun _ _ => rfl) : ME E X (.Subscript a b pos) (eOp2 ixU ma mb) := me_ix (ix_U (by have := G.hu; omega)) (G.K ▸ lr_ixU) ha hb hs
/-- the comparisons, with their rules -/
structure CmpOk (E : Ev) (X : Cx) (op : CmpOp) (f : T → T → Option T) : Prop where
  ex : ∃ r, OpR X (compareOp op) r ∧ LR2 E r f
theorem k_eq (G : Gd E X) : CmpOk E X .Eq eqT := ⟨_, op_eqD (by have := G.hu; omega), G.K ▸ lr_eq⟩
theorem k_ne (G : Gd E X) : CmpOk E X .NotEq neT := ⟨_, op_neD (by have := G.hu; omega), G.K ▸ lr_ne⟩
theorem k_lt (G : Gd E X) : CmpOk E X .Lt ltO := ⟨_, op_lt, lr_lt⟩
theorem k_le (G : Gd E X) : CmpOk E X .LtE leO := ⟨_, op_le, lr_le⟩
theorem k_gt (G : Gd E X) : CmpOk E X .Gt gtO := ⟨_, op_gt, lr_gt⟩
theorem k_ge (G : Gd E X) : CmpOk E X .GtE geO := ⟨_, op_ge, lr_ge⟩
theorem k_in (G : Gd E X) : CmpOk E X .In inU := ⟨_, op_inU G.hu, G.K ▸ lr_inU⟩
theorem k_nin (G : Gd E X) : CmpOk E X .NotIn ninU := ⟨_, op_ninU G.hu, G.K ▸ lr_ninU⟩
theorem k_isN (G : Gd E X) : CmpOk E X .Is isNO := ⟨_, op_isN, lr_isN⟩
theorem k_notN (G : Gd E X) : CmpOk E X .IsNot notNO := ⟨_, op_notN, lr_notN⟩
theorem k_isB (G : Gd E X) : CmpOk E X .Is isBO := ⟨_, op_isBl, lr_isB⟩
theorem k_notB (G : Gd E X) : CmpOk E X .IsNot notBO := ⟨_, op_notBl, lr_notB⟩
theorem x_cmp {op : CmpOp} {f : T → T → Option T} (k : CmpOk E X op f) (ha : OE E X a ma) (hb : OE E X b mb) (hm : behindInMarks op b = false := by rfl) : ME E X (.Compare a [op] [b] pos) (eOp2 f ma mb) :=
  let ⟨_, ho, hl⟩ := k.ex; me_cmp ho hl ha hb hm
theorem t_cmp {op : CmpOp} {f : T → T → Option T} (k : CmpOk E X op f) (ha : OE E X a ma) (hb : OE E X b mb) (hm : behindInMarks op b = false := by rfl) : TM E X (.Compare a [op] [b] pos) (asB (eOp2 f ma mb)) :=
  let ⟨_, ho, hl⟩ := k.ex; tm_cmp ho hl ha hb hm
theorem x_chain {op op' : CmpOp} {f f' : T → T → Option T} (k : CmpOk E X op f) (k' : CmpOk E X op' f') (ha : OE E X a ma) (hb : OE E X b mb) (hc : OE E X c mc) (hm : lastMarks [op, op'] [b, c] = false := by with_unfolding_all rfl) : ME E X (.Compare a [op, op'] [b, c] pos) (eChain f f' ma mb mc) :=
  let ⟨_, ho, hl⟩ := k.ex; let ⟨_, ho', hl'⟩ := k'.ex; me_chain ho ho' hl hl' ha hb hc hm
theorem t_chain {op op' : CmpOp} {f f' : T → T → Option T} (k : CmpOk E X op f) (k' : CmpOk E X op' f') (ha : OE E X a ma) (hb : OE E X b mb) (hc : OE E X c mc) (hm : lastMarks [op, op'] [b, c] = false := by with_unfolding_all rfl) : TM E X (.Compare a [op, op'] [b, c] pos) (asB (eChain f f' ma mb mc)) :=
  let ⟨_, ho, hl⟩ := k.ex; let ⟨_, ho', hl'⟩ := k'.ex; tm_chain ho ho' hl hl' ha hb hc hm
/-- built-ins by their names -/
structure BiOk (E : Ev) (X : Cx) (f : List T → Option T) (fv : Value) : Prop where
  ex : ∃ r, CallR X fv r ∧ LRC E r f
theorem b_len (G : Gd E X) : BiOk E X lenO (.builtin "len") := ⟨_, call_len, G.K ▸ lr_len⟩
theorem b_all (G : Gd E X) : BiOk E X allO (.builtin "all") := ⟨_, cr_all G.calm, G.K ▸ lr_all⟩
theorem b_any (G : Gd E X) : BiOk E X anyO (.builtin "any") := ⟨_, cr_any G.calm, G.K ▸ lr_any⟩
theorem b_isi (G : Gd E X) : BiOk E X isiO (.builtin "isinstance") := ⟨_, call_isi, G.K ▸ lr_isi⟩
theorem b_int (G : Gd E X) : BiOk E X intO (.type "int") := ⟨_, call_int1, lr_int⟩
variable {x : Str} {p : Pos} {es : List Expr} {id Ty : String} {m : M (List Rdr)} {f : List T → Option T}
theorem x_bi (k : BiOk E X f (.builtin id)) (hm : X.mg x = none) (hv : bootBuiltins x = some (.builtin id)) (ha : OA E X (e :: es) m) (hg : Gl X x := by rfl) (hn : x ≠ "__name__" := by decide) (hdb : (x == ("__debug__" : Str)) = false := by decide)
    (he : starEach (e :: es) X.env = (false, eval e X.env) :: starEach es X.env := by rfl) (hpl : (backTo pos (starEach es X.env)).any (·.1) = false := by rfl) : ME E X (.Call (.Name x p) (e :: es) [] pos) (eCall f m) :=
  let ⟨_, hc, hl⟩ := k.ex; me_callB hc hl hg hm hv ha hn hdb he hpl
theorem x_ty (k : BiOk E X f (.type Ty)) (hm : X.mg x = none) (hv : bootBuiltins x = some (.type Ty)) (ha : OA E X (e :: es) m) (hg : Gl X x := by rfl) (hn : x ≠ "__name__" := by decide) (hdb : (x == ("__debug__" : Str)) = false := by decide)
    (he : starEach (e :: es) X.env = (false, eval e X.env) :: starEach es X.env := by rfl) (hpl : (backTo pos (starEach es X.env)).any (·.1) = false := by rfl) : ME E X (.Call (.Name x p) (e :: es) [] pos) (eCall f m) :=
  let ⟨_, hc, hl⟩ := k.ex; me_callTy hc hl hg hm hv ha hn hdb he hpl
theorem x_list (G : Gd E X) (hm : X.mg "list" = none) (ha : OA E X [e] m) (hg : Gl X "list" := by rfl)
    (he : starEach [e] X.env = (false, eval e X.env) :: starEach [] X.env := by rfl) (hpl : (backTo pos (starEach [] X.env)).any (·.1) = false := by rfl) : FE E X (.Call (.Name "list" p) [e] [] pos) (fCall listO m) :=
  fe_callTy call_list_of (G.K ▸ lr_list) hg hm (by decide +kernel) ha (by decide) (by decide) he hpl
theorem x_tyv {n : String} (hm : X.mg x = none) (hv : bootBuiltins x = some (.type n)) (hg : Gl X x := by rfl) (hn : x ≠ "__name__" := by decide) (hd : (x == ("__debug__" : Str)) = false := by decide) : ME E X (.Name x p) (pure (.ty n)) := me_ty hg hm hv hn hd
/-- a def's call -/
theorem x_fn (G : Gd E X) {k j n : Nat} {fa : Addr} {fd : FuncData} {ps : List Str} {mf : FnM} {mx : M (List T)} (F : FnOk X.prog X.w X.K X.mg X.base (L2.CX X.prog X.w) j fa fd ps (spM E.K E.RX n mf)) (hr : Room k X.A) (hj : j ≤ k) (hm : X.mg x = some (.ref fa)) (hk : PySem.W.keepIn X.K (.ref fa) = true) (hb : Binds X.K fd ps [])
    (ha : AM E X (e :: es) mx) (hn : ∀ ts st, (∃ st', mx st = some (.ok ts, st')) → ts.length = n) (hg : Gl X x := by rfl) (hdb : (x == ("__debug__" : Str)) = false := by decide) (he : starEach (e :: es) X.env = (false, eval e X.env) :: starEach es X.env := by rfl) (hpl : (backTo pos (starEach es X.env)).any (·.1) = false := by rfl) :
    ME E X (.Call (.Name x p) (e :: es) [] pos) (eFn mf mx) := me_fn F (hr.mono hj) hg hm hk hb G.tk G.rx ha hn hdb he hpl
end
/-- how many values an argument list gives -/
theorem al_nil : ∀ ts st, (∃ st', aNil st = some (.ok ts, st')) → ts.length = 0 := fun ts st ⟨st', e⟩ => by
  have e : some (R.ok ([] : List T), st) = some (.ok ts, st') := e
  cases e
  rfl
theorem al_cons {m : M T} {k : M (List T)} {n : Nat} (h : ∀ ts st, (∃ st', k st = some (.ok ts, st')) → ts.length = n) : ∀ ts st, (∃ st', aCons m k st = some (.ok ts, st')) → ts.length = n + 1 := fun ts st ⟨st', e⟩ => by
  unfold aCons at e
  rw [bind_def] at e
  cases e1 : m st with
  | none => simp only [e1] at e; cases e
  | some p =>
    obtain ⟨r, st1⟩ := p
    simp only [e1] at e
    cases r with
    | exc x => cases e
    | ok t =>
      simp only [bind_def] at e
      cases e2 : k st1 with
      | none => simp only [e2] at e; cases e
      | some p =>
        obtain ⟨r, st2⟩ := p
        simp only [e2] at e
        cases r with
        | exc x => cases e
        | ok us =>
          have e : some (R.ok (t :: us), st2) = some (.ok ts, st') := e
          cases e
          rw [List.length_cons, h us st1 ⟨_, e2⟩]
/-! ### lists' methods by their names -/
section
variable {o e : Expr} {apos cpos : Pos} {mp : M Plc}
theorem x_append {m : M T} (G : Gd E X) (ho : LM E X o mp) (ha : ME E X e m)
    (hbase : attributeBase o "append" X.env (eval o X.env) = eval o X.env := by rfl)
    (hfew : ((backTo cpos (starEach [e] X.env)).all (fun x => !x.1) && (backToKw cpos (keywordEach [] X.env)).all (fun x => x.1.isSome)
      && decide ([e].length + ([] : List Keyword).length + (if ([] : List Keyword).isEmpty then 0 else 1) < 30)) = true := by rfl)
    (hline : (apos.endLine == cpos.line) = true := by rfl) (hs : starEach [e] X.env = (false, eval e X.env) :: starEach [] X.env := by rfl) (hplain : (backTo cpos (starEach [] X.env)).any (·.1) = false := by rfl) :
    ME E X (.Call (.Attribute o "append" apos) [e] [] cpos) (eLst appendF mp (aCons m aNil)) :=
  me_lst PySem.F.slot_list_append PySem.F.type_list_append mt_append (by have := G.K; exact lm_append) ho (am_cons ha am_nil hs) G.K hbase hfew hline hs hplain
theorem x_extend {m : M T} (G : Gd E X) (ho : LM E X o mp) (ha : ME E X e m)
    (hbase : attributeBase o "extend" X.env (eval o X.env) = eval o X.env := by rfl)
    (hfew : ((backTo cpos (starEach [e] X.env)).all (fun x => !x.1) && (backToKw cpos (keywordEach [] X.env)).all (fun x => x.1.isSome)
      && decide ([e].length + ([] : List Keyword).length + (if ([] : List Keyword).isEmpty then 0 else 1) < 30)) = true := by rfl)
    (hline : (apos.endLine == cpos.line) = true := by rfl) (hs : starEach [e] X.env = (false, eval e X.env) :: starEach [] X.env := by rfl) (hplain : (backTo cpos (starEach [] X.env)).any (·.1) = false := by rfl) :
    ME E X (.Call (.Attribute o "extend" apos) [e] [] cpos) (eLst extendF mp (aCons m aNil)) :=
  me_lst PySem.F.slot_list_extend PySem.F.type_list_extend mt_extend lm_extend ho (am_cons ha am_nil hs) G.K hbase hfew hline hs hplain
theorem x_popAt {m : M T} (G : Gd E X) (ho : LM E X o mp) (ha : ME E X e m)
    (hbase : attributeBase o "pop" X.env (eval o X.env) = eval o X.env := by rfl)
    (hfew : ((backTo cpos (starEach [e] X.env)).all (fun x => !x.1) && (backToKw cpos (keywordEach [] X.env)).all (fun x => x.1.isSome)
      && decide ([e].length + ([] : List Keyword).length + (if ([] : List Keyword).isEmpty then 0 else 1) < 30)) = true := by rfl)
    (hline : (apos.endLine == cpos.line) = true := by rfl) (hs : starEach [e] X.env = (false, eval e X.env) :: starEach [] X.env := by rfl) (hplain : (backTo cpos (starEach [] X.env)).any (·.1) = false := by rfl) :
    ME E X (.Call (.Attribute o "pop" apos) [e] [] cpos) (eLst popF mp (aCons m aNil)) :=
  me_lst PySem.F.slot_list_pop PySem.F.type_list_pop mt_popA lm_pop ho (am_cons ha am_nil hs) G.K hbase hfew hline hs hplain
theorem x_pop (G : Gd E X) (ho : LM E X o mp)
    (hbase : attributeBase o "pop" X.env (eval o X.env) = eval o X.env := by rfl) (hline : (apos.endLine == cpos.line) = true := by rfl) : ME E X (.Call (.Attribute o "pop" apos) [] [] cpos) (eLst0 popF mp) :=
  me_lst0 PySem.F.slot_list_pop PySem.F.type_list_pop mt_popA lm_pop ho G.K hbase hline
theorem x_clear (G : Gd E X) (ho : LM E X o mp)
    (hbase : attributeBase o "clear" X.env (eval o X.env) = eval o X.env := by rfl) (hline : (apos.endLine == cpos.line) = true := by rfl) : ME E X (.Call (.Attribute o "clear" apos) [] [] cpos) (eLst0 clearF mp) :=
  me_lst0 PySem.F.slot_list_clear PySem.F.type_list_clear mt_clear lm_clear ho G.K hbase hline
theorem x_insert {i : Expr} {mi m : M T} (G : Gd E X) (ho : LM E X o mp) (hi : ME E X i mi) (ha : ME E X e m)
    (hbase : attributeBase o "insert" X.env (eval o X.env) = eval o X.env := by rfl)
    (hfew : ((backTo cpos (starEach [i, e] X.env)).all (fun x => !x.1) && (backToKw cpos (keywordEach [] X.env)).all (fun x => x.1.isSome)
      && decide ([i, e].length + ([] : List Keyword).length + (if ([] : List Keyword).isEmpty then 0 else 1) < 30)) = true := by rfl)
    (hline : (apos.endLine == cpos.line) = true := by rfl) (hs : starEach [i, e] X.env = (false, eval i X.env) :: starEach [e] X.env := by rfl) (hs2 : starEach [e] X.env = (false, eval e X.env) :: starEach [] X.env := by rfl) (hplain : (backTo cpos (starEach [e] X.env)).any (·.1) = false := by rfl) :
    ME E X (.Call (.Attribute o "insert" apos) [i, e] [] cpos) (eLst insertF mp (aCons mi (aCons m aNil))) :=
  me_lst PySem.F.slot_list_insert PySem.F.type_list_insert mt_insert lm_insert ho (am_cons hi (am_cons ha am_nil hs2) hs) G.K hbase hfew hline hs hplain
variable {mo : M Rdr}
theorem x_index {m : M T} (G : Gd E X) (ho : OE E X o mo) (ha : ME E X e m)
    (hbase : attributeBase o "index" X.env (eval o X.env) = eval o X.env := by rfl)
    (hfew : ((backTo cpos (starEach [e] X.env)).all (fun x => !x.1) && (backToKw cpos (keywordEach [] X.env)).all (fun x => x.1.isSome)
      && decide ([e].length + ([] : List Keyword).length + (if ([] : List Keyword).isEmpty then 0 else 1) < 30)) = true := by rfl)
    (hline : (apos.endLine == cpos.line) = true := by rfl) (hs : starEach [e] X.env = (false, eval e X.env) :: starEach [] X.env := by rfl) (hplain : (backTo cpos (starEach [] X.env)).any (·.1) = false := by rfl) :
    ME E X (.Call (.Attribute o "index" apos) [e] [] cpos) (eMeth "list" indexF mo (aCons m aNil)) :=
  me_meth PySem.F.plainAttrs_list PySem.F.slot_list_index PySem.F.type_list_index (mt_indexD G.hu) (G.K ▸ lr_index) ho (am_cons ha am_nil hs) G.K hbase hfew hline hs hplain
theorem x_join {m : M T} (G : Gd E X) (ho : OE E X o mo) (ha : ME E X e m)
    (hbase : attributeBase o "join" X.env (eval o X.env) = eval o X.env := by rfl)
    (hfew : ((backTo cpos (starEach [e] X.env)).all (fun x => !x.1) && (backToKw cpos (keywordEach [] X.env)).all (fun x => x.1.isSome)
      && decide ([e].length + ([] : List Keyword).length + (if ([] : List Keyword).isEmpty then 0 else 1) < 30)) = true := by rfl)
    (hline : (apos.endLine == cpos.line) = true := by rfl) (hs : starEach [e] X.env = (false, eval e X.env) :: starEach [] X.env := by rfl) (hplain : (backTo cpos (starEach [] X.env)).any (·.1) = false := by rfl) :
    ME E X (.Call (.Attribute o "join" apos) [e] [] cpos) (eMeth "str" joinF mo (aCons m aNil)) :=
  me_meth PySem.F.plainAttrs_str PySem.F.slot_str_join PySem.F.type_str_join mt_join (G.K ▸ lr_join) ho (am_cons ha am_nil hs) G.K hbase hfew hline hs hplain
end
/-! ### comprehensions, loops -/
section
variable {elt tge iter : Expr} {ifs : List Expr} {scope : Scope} {mi : M Itr} {tg : Tg} {test : M Bool} {me : M T}
theorem x_comp (G : Gd E X) (l : List Nat) (own : List (Str × Nat)) (hi : IM E l X tge iter mi)
    (hg : ∀ (s : Shared) (H : Hp) (C : Addr) (cl : List (Str × Addr)) (fp : List Addr), GM E.nox (X.blk s H scope (compEnvC scope cl C X.env) fp) tge tg) (hq : ∀ (s : Shared) (H : Hp) (C : Addr) (cl : List (Str × Addr)) (fp : List Addr), QM E.nox (X.blk s H scope (compEnvC scope cl C X.env) fp) ifs test)
    (he : ∀ (s : Shared) (H : Hp) (C : Addr) (cl : List (Str × Addr)) (fp : List Addr), ME E.nox (X.blk s H scope (compEnvC scope cl C X.env) fp) elt me)
    (ok : BlkOk X.N X.env.scope scope own) (hl : ∀ j ∈ l, j ∉ own.map (·.2) := by decide) (ht : ∀ i ∈ tg.ix, i ∈ own.map (·.2) := by decide) (hs : ∀ x, foldedSetIterable iter X.env x = pure x := by intro _; rfl) :
    FE E X (.ListComp elt [⟨tge, iter, ifs, 0⟩] scope pos) (fComp mi (own.map (·.2)) tg test me) := fe_comp G.calm G.nd hi ok hl ht hg hq he hs
theorem s_ownC (G : Gd E X) (i : Nat) (l : List Nat) (own : List (Str × Nat)) {y : Str} {py spos : Pos} (hi : IM E l X tge iter mi)
    (hg : ∀ (s : Shared) (H : Hp) (C : Addr) (cl : List (Str × Addr)) (fp : List Addr), GM E.nox (X.blk s H scope (compEnvC scope cl C X.env) fp) tge tg) (hq : ∀ (s : Shared) (H : Hp) (C : Addr) (cl : List (Str × Addr)) (fp : List Addr), QM E.nox (X.blk s H scope (compEnvC scope cl C X.env) fp) ifs test)
    (he : ∀ (s : Shared) (H : Hp) (C : Addr) (cl : List (Str × Addr)) (fp : List Addr), ME E.nox (X.blk s H scope (compEnvC scope cl C X.env) fp) elt me)
    (ok : BlkOk X.N X.env.scope scope own) (hsw : swapsWith (.ListComp elt [⟨tge, iter, ifs, 0⟩] scope pos) (some (.Name y py)) spos.line X.env = pure true) (hy : X.N[i]? = some y := by rfl) (hyl : X.env.scope.names.lookup y = some .local := by rfl) (hl : ∀ j ∈ l, j ∉ own.map (·.2) := by decide) (ht : ∀ i ∈ tg.ix, i ∈ own.map (·.2) := by decide) (hs : ∀ x, foldedSetIterable iter X.env x = pure x := by intro _; rfl) :
    SM E X (.Assign [.Name y py] (.ListComp elt [⟨tge, iter, ifs, 0⟩] scope pos) spos) (cOwn i (fComp mi (own.map (·.2)) tg test me)) := sm_ownC G.calm G.nd hy hyl hsw hi ok hl ht hg hq he hs
theorem s_setC (G : Gd E X) (i : Nat) (l : List Nat) (own : List (Str × Nat)) {y : Str} {py spos : Pos} (hi : IM E l X tge iter mi)
    (hg : ∀ (s : Shared) (H : Hp) (C : Addr) (cl : List (Str × Addr)) (fp : List Addr), GM E.nox (X.blk s H scope (compEnvC scope cl C X.env) fp) tge tg) (hq : ∀ (s : Shared) (H : Hp) (C : Addr) (cl : List (Str × Addr)) (fp : List Addr), QM E.nox (X.blk s H scope (compEnvC scope cl C X.env) fp) ifs test)
    (he : ∀ (s : Shared) (H : Hp) (C : Addr) (cl : List (Str × Addr)) (fp : List Addr), ME E.nox (X.blk s H scope (compEnvC scope cl C X.env) fp) elt me)
    (ok : BlkOk X.N X.env.scope scope own) (hsw : swapsWith (.ListComp elt [⟨tge, iter, ifs, 0⟩] scope pos) (some (.Name y py)) spos.line X.env = pure true) (hy : X.N[i]? = some y := by rfl) (hyl : X.env.scope.names.lookup y = some .local := by rfl) (hl : ∀ j ∈ l, j ∉ own.map (·.2) := by decide) (ht : ∀ i ∈ tg.ix, i ∈ own.map (·.2) := by decide) (hs : ∀ x, foldedSetIterable iter X.env x = pure x := by intro _; rfl) :
    SM E X (.Assign [.Name y py] (.ListComp elt [⟨tge, iter, ifs, 0⟩] scope pos) spos) (cSet i (eFz (fComp mi (own.map (·.2)) tg test me))) := sm_setC G.calm G.nd hy hyl hsw hi ok hl ht hg hq he hs
variable {body : List Stmt} {c : Cmd}
theorem s_for (G : Gd E X) (hp : PassesOwn (model X.prog X.w) X.A X.env X.xe) (hi : IM E [] X tge iter mi) (hg : GM E X tge tg) (hb : SSM E X body c)
    (hs : ∀ x, foldedSetIterable iter X.env x = pure x := by intro _; rfl) : SM E X (.For tge iter body [] pos) (cFor mi tg c) := sm_for hp G.calm hi hg hb hs
@[irreducible] def FUEL : Nat := 100000
theorem s_while {te : Expr} {b : M Bool} (hp : PassesOwn (model X.prog X.w) X.A X.env X.xe) (hb : TM E X te b) (hc : SSM E X body c) : SM E X (.While te body [] pos) (whileL b c FUEL) := sm_while FUEL hp hb hc
end
end
/-! ### defs -/
abbrev RXn : Gh → Xn → Value → Option Addr → Hp → Prop := fun _ _ _ _ _ => False
theorem rxn_ok : RXok RXn := fun _ _ _ _ _ _ _ h => h
section
variable {P : Program} {w : World} {K : PySem.W.Frag} {mg : Str → Option Value} {base : Heap} {RX : Gh → Xn → Value → Option Addr → Hp → Prop}
abbrev fnEv (K : PySem.W.Frag) (RX : Gh → Xn → Value → Option Addr → Hp → Prop) (Ex : XK) : Ev := ⟨K, fun cls d _ H => Ex cls d H, RX⟩
theorem hu65 {A : Around} {k : Nat} (hr : Room k A) : A.units + 65 < cLine := by have := hr.un; omega
theorem fn_okD {x qual : Str} {params : Arguments} {body : List Stmt} {scope : Scope} {dvs : List V} {kws : List (Str × V)} {f : Addr} {fd : FuncData} {N ps : List Str} {c : Cmd} (k : Nat) (F : FunD K x qual params body scope dvs kws f fd) (S : FnScope N ps scope) (hR : RXok RX)
    (hbody : ∀ (cdv : Value) (A : Around) (outer : List Env) (s : Shared) (H : Hp) (Ex : XK), Room k (cxOf (L2.CX P w) P w K mg base N qual scope f cdv A outer s H Ex).A → Gd (fnEv K RX Ex) (cxOf (L2.CX P w) P w K mg base N qual scope f cdv A outer s H Ex) →
      PassesOwn (model P w) (cxOf (L2.CX P w) P w K mg base N qual scope f cdv A outer s H Ex).A (cxOf (L2.CX P w) P w K mg base N qual scope f cdv A outer s H Ex).env (cxOf (L2.CX P w) P w K mg base N qual scope f cdv A outer s H Ex).xe →
      SSM (fnEv K RX Ex) (cxOf (L2.CX P w) P w K mg base N qual scope f cdv A outer s H Ex) body c) :
    FnOk P w K mg base (L2.CX P w) (k + 1) f fd ps (spM K RX ps.length (fnM N.length c)) := by
  refine F.ok S (fun vs H Q Ex h => ?_) (fun cdv A outer s H vs Q Ex hr h => ?_)
  · obtain ⟨g, Sx, ts, hn, r, rl, _⟩ := h
    rw [rl.len, hn]
  · obtain ⟨g, Sx, ts, hn, r, rl, _, h⟩ := h
    have tk : Takes (cxOf (L2.CX P w) P w K mg base N qual scope f cdv A outer s H Ex) (fun cls d _ H => Ex cls d H) := takes_of rfl rfl rfl rfl
    refine ⟨_, (hbody cdv A outer s H Ex hr ⟨rfl, hu65 hr, rfl, S.nd, tk, hR⟩ (passes_of (K := fun e s'' => L2.CX P w outer H s Ex e s'') rfl)).pss, g, ⟨ts.map .val ++ List.replicate (N.length - ts.length) .emp, Sx⟩, start_rel r rl, ?_⟩
    unfold fnM at h
    unfold run
    cases e : c ⟨ts.map .val ++ List.replicate (N.length - ts.length) .emp, Sx⟩ with
    | none => rw [e] at h; exact h.elim
    | some p =>
      obtain ⟨q, st'⟩ := p
      rw [e] at h
      cases q with
      | exc x => exact fun g' σ' H' c d r' s' rx => h g' H' c d r'.toRelS s' rx
      | ok fl =>
        cases fl with
        | nxt => exact fun g' σ' H' r' s' => h g' H' .non r'.toRelS s' (by unfold RepT; rfl)
        | ret t => exact fun g' σ' H' r' s' v rv => h g' H' v r'.toRelS s' rv
        | brk => exact h.elim
        | cnt => exact h.elim
/-- a def that is never called any deeper -/
theorem fn_none {f : Addr} {fd : FuncData} {ps : List Str} (k n : Nat) : FnOk P w K mg base (L2.CX P w) k f fd ps (spM K RX n fun _ _ => none) :=
  ⟨fun vs H Q E ⟨_, _, _, _, _, _, _, h⟩ => h.elim, fun A outer s H args us vs Q E _ _ _ _ ⟨_, _, _, _, _, _, _, h⟩ => h.elim⟩
/-- a law's def: its script -/
theorem law_sp {m : FnM} (h : ∀ ns : List Int, ns.length ≤ 63 → ∃ S', m [.scr ns] [] = some (.ok (.bl true), S')) (H : Hp) (a : Addr) (ns : List Int) (hl : ns.length ≤ 63) (hS : SqL K H a (ns.map V.int)) :
    spM K RX 1 m [.ref a] H (fun v _ => v = .bl true) fun _ _ _ => False := by
  obtain ⟨S', e⟩ := h ns hl
  refine ⟨⟨fun p => if H p = none then .out else .fz, H, fun _ => 0, 0⟩, [], [.scr ns], rfl, ⟨Same.refl _, fun p o e => ?_, fun p e => ?_, rfl, fun a ob e => by simp at e⟩, .one (by unfold RepT; exact ⟨a, rfl, hS⟩), fun p i e => ?_, ?_⟩
  · show (if H p = none then _ else _) = _
    have e : H p = some o := e
    rw [if_neg (by rw [e]; exact fun z => by cases z)]
  · show (if H p = none then _ else _) = _
    rw [if_pos e]
  · have e : (if H p = none then Ow.out else Ow.fz) = .slot i := e
    split at e <;> cases e
  · rw [e]
    exact fun g' H' v _ _ rv => rv.bl_of
/-- a def that lets nothing out, by its promise -/
theorem nox_law {k : Nat} {f : Addr} {fd : FuncData} {ps : List Str} {sp : Sp} (F : FnOk P w K mg base (L2.CX P w) k f fd ps sp) : FnOk P w K mg base CX0 k f fd ps (fun vs H Q _ => sp vs H Q fun _ _ _ => False) :=
  ⟨fun vs H Q E h => F.len _ _ _ _ h, fun A outer s H args us vs Q E hr he hb hv hs => codeAny_mono (F.run A outer s H args us vs Q _ hr he hb hv hs) fun r s' hq => by
    cases r with
    | ok fl => cases fl <;> exact hq
    | error e =>
      obtain ⟨_, _, _, _, _, _, _, _, _, _, _, _, z⟩ := hq
      exact z.elim⟩
end
end Sw
namespace Sw
open Classical

/-! ### what a computation comes to -/
@[irreducible] def W {α : Type} (m : M α) (st : Stt) (Φ : α → Stt → Prop) : Prop :=
  match m st with
  | some (.ok a, st') => Φ a st'
  | _ => False
@[irreducible] def Fw (m : FnM) (ts : List T) (S : List Ob) (Φ : T → List Ob → Prop) : Prop :=
  match m ts S with
  | some (.ok t, S') => Φ t S'
  | _ => False
theorem Fw.ex {m : FnM} {ts : List T} {S : List Ob} {Φ : T → List Ob → Prop} (h : Fw m ts S Φ) : ∃ t S', m ts S = some (.ok t, S') ∧ Φ t S' := by
  unfold Fw at h
  cases e : m ts S with
  | none => rw [e] at h; exact h.elim
  | some p =>
    obtain ⟨r, S'⟩ := p
    rw [e] at h
    cases r with
    | ok t => exact ⟨t, S', rfl, h⟩
    | exc x => exact h.elim
theorem Fw.of {m : FnM} {ts : List T} {S : List Ob} {Φ : T → List Ob → Prop} {t : T} {S' : List Ob} (e : m ts S = some (.ok t, S')) (h : Φ t S') : Fw m ts S Φ := by
  unfold Fw
  rw [e]
  exact h
theorem Fw.mono {m : FnM} {ts : List T} {S : List Ob} {Φ Ψ : T → List Ob → Prop} (h : Fw m ts S Φ) (k : ∀ t S', Φ t S' → Ψ t S') : Fw m ts S Ψ := by
  obtain ⟨t, S', e, q⟩ := h.ex
  exact .of e (k t S' q)
theorem W.ex {α : Type} {m : M α} {st : Stt} {Φ : α → Stt → Prop} (h : W m st Φ) : ∃ a st', m st = some (.ok a, st') ∧ Φ a st' := by
  unfold W at h
  cases e : m st with
  | none => rw [e] at h; exact h.elim
  | some p =>
    obtain ⟨r, st'⟩ := p
    rw [e] at h
    cases r with
    | ok a => exact ⟨a, st', rfl, h⟩
    | exc x => exact h.elim
theorem W.of {α : Type} {m : M α} {st : Stt} {Φ : α → Stt → Prop} {a : α} {st' : Stt} (e : m st = some (.ok a, st')) (h : Φ a st') : W m st Φ := by
  unfold W
  rw [e]
  exact h
theorem W.mono {α : Type} {m : M α} {st : Stt} {Φ Ψ : α → Stt → Prop} (h : W m st Φ) (k : ∀ a st', Φ a st' → Ψ a st') : W m st Ψ := by
  obtain ⟨a, st', e, q⟩ := h.ex
  exact .of e (k a st' q)
section
variable {α β : Type} {st : Stt}
theorem W_pure {a : α} {Φ : α → Stt → Prop} : W (pure a) st Φ = Φ a st := by with_unfolding_all rfl
theorem W_stuck {Φ : α → Stt → Prop} : W (stuck : M α) st Φ = False := by with_unfolding_all rfl
theorem W_bind {m : M α} {f : α → M β} {Φ : β → Stt → Prop} : W (m >>= f) st Φ = W m st (fun a st1 => W (f a) st1 Φ) := by
  unfold W
  rw [bind_def]
  cases m st with
  | none => with_unfolding_all rfl
  | some p =>
    obtain ⟨r, st1⟩ := p
    cases r <;> with_unfolding_all rfl
/-- an option's value is wanted -/
def Op {α : Type} (o : Option α) (Φ : α → Prop) : Prop := match o with
  | some a => Φ a
  | none => False
theorem Op_some {a : α} {Φ : α → Prop} : Op (some a) Φ = Φ a := by with_unfolding_all rfl
theorem Op_none {Φ : α → Prop} : Op (none : Option α) Φ = False := by with_unfolding_all rfl
theorem Op_ite {c : Prop} [Decidable c] {o : Option α} {Φ : α → Prop} : Op (if c then o else none) Φ = (c ∧ Op o Φ) := by
  by_cases h : c
  · rw [if_pos h]; simp [h]
  · rw [if_neg h]; simp [h, Op_none]
theorem Op_map {o : Option α} {f : α → β} {Φ : β → Prop} : Op (o.map f) Φ = Op o (fun a => Φ (f a)) := by cases o <;> with_unfolding_all rfl
theorem Op_bind {o : Option α} {f : α → Option β} {Φ : β → Prop} : Op (o.bind f) Φ = Op o (fun a => Op (f a) Φ) := by cases o <;> with_unfolding_all rfl
theorem Op.ex {o : Option α} {Φ : α → Prop} (h : Op o Φ) : ∃ a, o = some a ∧ Φ a := by
  cases o with
  | none => exact h.elim
  | some a => exact ⟨a, rfl, h⟩
theorem Op.of {o : Option α} {Φ : α → Prop} {a : α} (e : o = some a) (h : Φ a) : Op o Φ := by rw [e]; exact h
theorem W_ofO {o : Option α} {Φ : α → Stt → Prop} : W (ofO o) st Φ = Op o (fun a => Φ a st) := by cases o <;> with_unfolding_all rfl
theorem W_eVar {i : Nat} {Φ : T → Stt → Prop} : W (eVar i) st Φ = (match st.σ[i]? with | some (.val t) => Φ t st | _ => False) := by
  unfold W eVar
  cases st.σ[i]? with
  | none => with_unfolding_all rfl
  | some s => cases s <;> with_unfolding_all rfl
theorem W_eFrz {i : Nat} {Φ : T → Stt → Prop} : W (eFrz i) st Φ = (match st.σ[i]? with | some (.own (.lst ts)) => Φ (.fz ts) { st with σ := st.σ.set i (.val (.fz ts)) } | _ => False) := by
  unfold W eFrz
  cases st.σ[i]? with
  | none => with_unfolding_all rfl
  | some s =>
    cases s with
    | own ob => cases ob <;> with_unfolding_all rfl
    | _ => with_unfolding_all rfl
theorem W_oVar {i : Nat} {Φ : Rdr → Stt → Prop} : W (oVar i) st Φ = (match st.σ[i]? with | some .emp => False | none => False | some _ => Φ (rVar i) st) := by
  unfold W oVar
  cases st.σ[i]? with
  | none => with_unfolding_all rfl
  | some s => cases s <;> with_unfolding_all rfl
theorem W_oE {m : M T} {Φ : Rdr → Stt → Prop} : W (oE m) st Φ = W m st (fun t st1 => Φ (fun s => peekT s.S t) st1) := by
  unfold oE
  rw [W_bind]
  with_unfolding_all rfl
theorem W_op2 {f : T → T → Option T} {ra rb : Rdr} {Φ : T → Stt → Prop} : W (fun st => match ra st, rb st with | some a, some b => ofO (f a b) st | _, _ => none) st Φ = Op (ra st) (fun a => Op (rb st) (fun b => Op (f a b) (fun t => Φ t st))) := by
  unfold W
  dsimp only
  cases ra st with
  | none => with_unfolding_all rfl
  | some a =>
    cases rb st with
    | none => with_unfolding_all rfl
    | some b =>
      simp only [Op_some]
      cases f a b <;> with_unfolding_all rfl
theorem W_eOp2 {f : T → T → Option T} {ma mb : M Rdr} {Φ : T → Stt → Prop} : W (eOp2 f ma mb) st Φ = W ma st (fun ra st1 => W mb st1 (fun rb st2 => Op (ra st2) (fun a => Op (rb st2) (fun b => Op (f a b) (fun t => Φ t st2))))) := by
  unfold eOp2
  rw [W_bind]
  congr 1
  funext ra st1
  rw [W_bind]
  congr 1
  funext rb st2
  with_unfolding_all exact W_op2
theorem W_eChain {f f' : T → T → Option T} {ma mb mc : M Rdr} {Φ : T → Stt → Prop} : W (eChain f f' ma mb mc) st Φ = W ma st (fun ra st1 => W mb st1 (fun rb st2 => Op (ra st2) (fun a => Op (rb st2) (fun b => Op (f a b) (fun z =>
    match z with
    | .bl true => W mc st2 (fun rc st3 => Op (rb st3) (fun b => Op (rc st3) (fun c => Op (f' b c) (fun t => Φ t st3))))
    | .bl false => Φ (.bl false) st2
    | _ => False))))) := by
  unfold eChain
  rw [W_bind]
  congr 1
  funext ra st1
  rw [W_bind]
  congr 1
  funext rb st2
  rw [W_bind]
  refine Eq.trans (W_op2 (f := f) (ra := ra) (rb := rb)) ?_
  congr 1
  funext a
  congr 1
  funext b
  congr 1
  funext z
  cases z with
  | bl k =>
    cases k with
    | false => with_unfolding_all rfl
    | true =>
      simp only
      rw [W_bind]
      congr 1
      funext rc st3
      with_unfolding_all exact W_op2
  | _ => with_unfolding_all rfl
/-- a truth is wanted -/
def Bw (t : T) (Φ : Bool → Prop) : Prop := match t with
  | .bl b => Φ b
  | _ => False
theorem Bw_bl {b : Bool} {Φ : Bool → Prop} : Bw (.bl b) Φ = Φ b := by with_unfolding_all rfl
theorem W_asB {m : M T} {Φ : Bool → Stt → Prop} : W (asB m) st Φ = W m st (fun t st1 => Bw t (fun b => Φ b st1)) := by
  unfold asB
  rw [W_bind]
  congr 1
  funext t st1
  cases t <;> with_unfolding_all rfl
theorem W_bNot {m : M Bool} {Φ : Bool → Stt → Prop} : W (bNot m) st Φ = W m st (fun b st1 => Φ (!b) st1) := by
  unfold bNot
  rw [W_bind]
  with_unfolding_all rfl
theorem W_bAnd {m k : M Bool} {Φ : Bool → Stt → Prop} : W (bAnd m k) st Φ = W m st (fun b st1 => if b = true then W k st1 Φ else Φ false st1) := by
  unfold bAnd
  rw [W_bind]
  congr 1
  funext b st1
  cases b <;> with_unfolding_all rfl
theorem W_bOr {m k : M Bool} {Φ : Bool → Stt → Prop} : W (bOr m k) st Φ = W m st (fun b st1 => if b = true then Φ true st1 else W k st1 Φ) := by
  unfold bOr
  rw [W_bind]
  congr 1
  funext b st1
  cases b <;> with_unfolding_all rfl
theorem W_eNot {m : M T} {Φ : T → Stt → Prop} : W (eNot m) st Φ = W m st (fun t st1 => Bw t (fun b => Φ (.bl (!b)) st1)) := by
  unfold eNot
  rw [W_bind, W_asB]
  with_unfolding_all rfl
theorem W_eAnd {m k : M T} {Φ : T → Stt → Prop} : W (eAnd m k) st Φ = W m st (fun t st1 => Bw t (fun b => if b = true then W k st1 Φ else Φ (.bl false) st1)) := by
  unfold eAnd
  rw [W_bind, W_asB]
  congr 1
  funext t st1
  congr 1
  funext b
  cases b <;> with_unfolding_all rfl
theorem W_eOr {m k : M T} {Φ : T → Stt → Prop} : W (eOr m k) st Φ = W m st (fun t st1 => Bw t (fun b => if b = true then Φ (.bl true) st1 else W k st1 Φ)) := by
  unfold eOr
  rw [W_bind, W_asB]
  congr 1
  funext t st1
  congr 1
  funext b
  cases b <;> with_unfolding_all rfl
theorem W_eIf {c : M Bool} {a b : M T} {Φ : T → Stt → Prop} : W (eIf c a b) st Φ = W c st (fun d st1 => if d = true then W a st1 Φ else W b st1 Φ) := by
  unfold eIf
  rw [W_bind]
  congr 1
  funext b st1
  cases b <;> with_unfolding_all rfl
theorem W_eNeg {m : M T} {Φ : T → Stt → Prop} : W (eNeg m) st Φ = W m st (fun t st1 => match t with | .int i => Φ (.int (-i)) st1 | _ => False) := by
  unfold eNeg
  rw [W_bind]
  congr 1
  funext t st1
  cases t <;> with_unfolding_all rfl
theorem W_aNil {Φ : List T → Stt → Prop} : W aNil st Φ = Φ [] st := by with_unfolding_all rfl
theorem W_aCons {m : M T} {k : M (List T)} {Φ : List T → Stt → Prop} : W (aCons m k) st Φ = W m st (fun t st1 => W k st1 (fun ts st2 => Φ (t :: ts) st2)) := by
  unfold aCons
  rw [W_bind]
  congr 1
  funext t st1
  rw [W_bind]
  with_unfolding_all rfl
theorem W_oNil {Φ : List Rdr → Stt → Prop} : W oNil st Φ = Φ [] st := by with_unfolding_all rfl
theorem W_oCons {m : M Rdr} {k : M (List Rdr)} {Φ : List Rdr → Stt → Prop} : W (oCons m k) st Φ = W m st (fun t st1 => W k st1 (fun ts st2 => Φ (t :: ts) st2)) := by
  unfold oCons
  rw [W_bind]
  congr 1
  funext t st1
  rw [W_bind]
  with_unfolding_all rfl
theorem W_eTup {m : M (List T)} {Φ : T → Stt → Prop} : W (eTup m) st Φ = W m st (fun ts st1 => ts.length ≤ 1000 ∧ Φ (.tup ts) st1) := by
  unfold eTup
  rw [W_bind]
  congr 1
  funext t st1
  by_cases h : t.length ≤ 1000
  · rw [if_pos h, W_pure]; simp [h]
  · rw [if_neg h, W_stuck]; simp [h]
theorem W_fLst {m : M (List T)} {Φ : Ob → Stt → Prop} : W (fLst m) st Φ = W m st (fun ts st1 => ts.length ≤ 1000 ∧ Φ (.lst ts) st1) := by
  unfold fLst
  rw [W_bind]
  congr 1
  funext t st1
  by_cases h : t.length ≤ 1000
  · rw [if_pos h, W_pure]; simp [h]
  · rw [if_neg h, W_stuck]; simp [h]
theorem W_eFz {m : M Ob} {Φ : T → Stt → Prop} : W (eFz m) st Φ = W m st (fun ob st1 => match ob with | .lst ts => Φ (.fz ts) st1 | _ => False) := by
  unfold eFz
  rw [W_bind]
  congr 1
  funext t st1
  cases t <;> with_unfolding_all rfl
theorem W_eBox {m : M Ob} {Φ : T → Stt → Prop} : W (eBox m) st Φ = W m st (fun ob st1 => Φ (.ref st1.S.length) { st1 with S := st1.S ++ [ob] }) := by
  unfold eBox
  rw [W_bind]
  with_unfolding_all rfl
theorem W_fDic {Φ : Ob → Stt → Prop} : W fDic st Φ = Φ (.dct [] []) st := by with_unfolding_all rfl
theorem W_rdM {rs : List Rdr} {f : List T → M α} {Φ : α → Stt → Prop} : W (rdM rs f) st Φ = Op (rdAll rs st) (fun ts => W (f ts) st Φ) := by
  unfold W rdM
  cases rdAll rs st <;> with_unfolding_all rfl
theorem W_eCall {f : List T → Option T} {m : M (List Rdr)} {Φ : T → Stt → Prop} : W (eCall f m) st Φ = W m st (fun rs st1 => Op (rdAll rs st1) (fun ts => Op (f ts) (fun t => Φ t st1))) := by
  unfold eCall
  rw [W_bind]
  congr 1
  funext rs st1
  rw [W_rdM]
  congr 1
  funext ts
  rw [W_ofO]
theorem W_fCall {f : List T → Option (List T)} {m : M (List Rdr)} {Φ : Ob → Stt → Prop} : W (fCall f m) st Φ = W m st (fun rs st1 => Op (rdAll rs st1) (fun ts => Op (f ts) (fun us => Φ (.lst us) st1))) := by
  unfold fCall
  rw [W_bind]
  congr 1
  funext rs st1
  rw [W_rdM]
  congr 1
  funext ts
  rw [W_ofO, Op_map]
theorem rdAll_nil : rdAll [] st = some [] := by with_unfolding_all rfl
theorem Op_rdAll {r : Rdr} {rs : List Rdr} {Φ : List T → Prop} : Op (rdAll (r :: rs) st) Φ = Op (r st) (fun t => Op (rdAll rs st) (fun ts => Φ (t :: ts))) := by
  have e : rdAll (r :: rs) st = match r st, rdAll rs st with
    | some t, some ts => some (t :: ts)
    | _, _ => none := by with_unfolding_all rfl
  rw [e]
  cases r st with
  | none => with_unfolding_all rfl
  | some t => cases rdAll rs st <;> with_unfolding_all rfl
theorem W_pNo {Φ : Option Int → Stt → Prop} : W pNo st Φ = Φ none st := by with_unfolding_all rfl
theorem W_pSome {m : M T} {Φ : Option Int → Stt → Prop} : W (pSome m) st Φ = W m st (fun t st1 => match t with | .int i => Φ (some i) st1 | _ => False) := by
  unfold pSome
  rw [W_bind]
  congr 1
  funext t st1
  cases t <;> with_unfolding_all rfl
theorem W_eSliceU {m : M Rdr} {ml mh : M (Option Int)} {Φ : T → Stt → Prop} : W (eSliceU m ml mh) st Φ = W m st (fun r st1 => W ml st1 (fun lo st2 => W mh st2 (fun hi st3 => Op (r st3) (fun t => match t with
    | .str s => s.length ≤ 1000000 ∧ Φ (.str (cutL s lo hi)) st3
    | .tup ts => Φ (.tup (cutL ts lo hi)) st3
    | .fz ts => Φ (.fz (cutL ts lo hi)) st3
    | .scr ns => Φ (.fz ((cutL ns lo hi).map .int)) st3
    | _ => False)))) := by
  unfold eSliceU
  rw [W_bind]
  congr 1
  funext r st1
  rw [W_bind]
  congr 1
  funext lo st2
  rw [W_bind]
  congr 1
  funext hi st3
  unfold W
  dsimp only
  cases r st3 with
  | none => with_unfolding_all rfl
  | some t =>
    cases t with
    | str s =>
      simp only [Op_some]
      by_cases h : s.length ≤ 1000000
      · simp [h]
      · simp [h]
    | _ => with_unfolding_all rfl
theorem W_fSlice {m : M Rdr} {ml mh : M (Option Int)} {Φ : Ob → Stt → Prop} : W (fSlice m ml mh) st Φ = W m st (fun r st1 => W ml st1 (fun lo st2 => W mh st2 (fun hi st3 => Op (r st3) (fun t => match t with
    | .fz ts => Φ (.lst (cutL ts lo hi)) st3
    | .scr ns => Φ (.lst ((cutL ns lo hi).map .int)) st3
    | _ => False)))) := by
  unfold fSlice
  rw [W_bind]
  congr 1
  funext r st1
  rw [W_bind]
  congr 1
  funext lo st2
  rw [W_bind]
  congr 1
  funext hi st3
  unfold W
  dsimp only
  cases r st3 with
  | none => with_unfolding_all rfl
  | some t => cases t <;> with_unfolding_all rfl
theorem W_fRev {m : M Rdr} {Φ : Ob → Stt → Prop} : W (fRev m) st Φ = W m st (fun r st1 => Op (r st1) (fun t => match t with
    | .fz ts => Φ (.lst ts.reverse) st1
    | _ => False)) := by
  unfold fRev
  rw [W_bind]
  congr 1
  funext r st1
  unfold W
  dsimp only
  cases r st1 with
  | none => with_unfolding_all rfl
  | some t => cases t <;> with_unfolding_all rfl
/-- a list place is wanted -/
def Lw (o : Option (Ob × (Ob → Stt))) (Φ : List T → (Ob → Stt) → Prop) : Prop := match o with
  | some (.lst us, set) => Φ us set
  | _ => False
theorem Lw_some {us : List T} {set : Ob → Stt} {Φ : List T → (Ob → Stt) → Prop} : Lw (some (.lst us, set)) Φ = Φ us set := by with_unfolding_all rfl
theorem W_eLst {f : List T → List T → Option (List T × T)} {mp : M Plc} {ma : M (List T)} {Φ : T → Stt → Prop} : W (eLst f mp ma) st Φ =
    W mp st (fun pl st1 => Lw (pl st1) (fun _ _ => W ma st1 (fun as st2 => Lw (pl st2) (fun us set => Op (f us as) (fun p => Φ p.2 (set (.lst p.1))))))) := by
  unfold eLst
  rw [W_bind]
  congr 1
  funext pl st1
  rw [W_bind]
  unfold W isLst Lw
  cases pl st1 with
  | none => with_unfolding_all rfl
  | some p =>
    obtain ⟨ob, set⟩ := p
    cases ob with
    | lst us =>
      simp only [bind_def]
      cases ma st1 with
      | none => with_unfolding_all rfl
      | some p =>
        obtain ⟨r, st2⟩ := p
        cases r with
        | exc x => with_unfolding_all rfl
        | ok as =>
          simp only [opL]
          cases pl st2 with
          | none => with_unfolding_all rfl
          | some p =>
            obtain ⟨ob, set⟩ := p
            cases ob with
            | lst us =>
              simp only
              cases f us as with
              | none => with_unfolding_all rfl
              | some p => with_unfolding_all rfl
            | _ => with_unfolding_all rfl
    | _ => with_unfolding_all rfl
theorem W_eLst0 {f : List T → List T → Option (List T × T)} {mp : M Plc} {Φ : T → Stt → Prop} : W (eLst0 f mp) st Φ =
    W mp st (fun pl st1 => Lw (pl st1) (fun us set => Op (f us []) (fun p => Φ p.2 (set (.lst p.1))))) := by
  unfold eLst0
  rw [W_bind]
  congr 1
  funext pl st1
  unfold W opL Lw
  cases pl st1 with
  | none => with_unfolding_all rfl
  | some p =>
    obtain ⟨ob, set⟩ := p
    cases ob with
    | lst us =>
      simp only
      cases f us [] with
      | none => with_unfolding_all rfl
      | some p => with_unfolding_all rfl
    | _ => with_unfolding_all rfl
theorem W_mVar {i : Nat} {Φ : Plc → Stt → Prop} : W (mVar i) st Φ = Op (pVar i st) (fun _ => Φ (pVar i) st) := by
  unfold W mVar
  cases pVar i st <;> with_unfolding_all rfl
theorem W_mRef {m : M T} {Φ : Plc → Stt → Prop} : W (mRef m) st Φ = W m st (fun t st1 => match t with | .ref a => Φ (pRef a) st1 | _ => False) := by
  unfold mRef
  rw [W_bind]
  congr 1
  funext t st1
  cases t <;> with_unfolding_all rfl
theorem W_eMeth {Ty : String} {f : T → List T → Option T} {m : M Rdr} {ma : M (List T)} {Φ : T → Stt → Prop} : W (eMeth Ty f m ma) st Φ =
    W m st (fun r st1 => Op (r st1) (fun t => tyOk Ty t = true ∧ W ma st1 (fun as st2 => Op (r st2) (fun t => Op (f t as) (fun x => Φ x st2))))) := by
  unfold eMeth
  rw [W_bind]
  congr 1
  funext r st1
  rw [W_bind]
  unfold W isTy
  cases r st1 with
  | none => with_unfolding_all rfl
  | some t =>
    by_cases h : tyOk Ty t = true
    · simp only [h, if_true, Op_some, true_and, bind_def]
      cases ma st1 with
      | none => with_unfolding_all rfl
      | some p =>
        obtain ⟨q, st2⟩ := p
        cases q with
        | exc x => with_unfolding_all rfl
        | ok as =>
          simp only
          cases r st2 with
          | none => with_unfolding_all rfl
          | some t =>
            simp only [Op_some]
            cases f t as <;> with_unfolding_all rfl
    · simp [h, Op_some]
theorem W_eFn {m : FnM} {ma : M (List T)} {Φ : T → Stt → Prop} : W (eFn m ma) st Φ = W ma st (fun ts st1 => Fw m ts st1.S (fun t S' => Φ t { st1 with S := S' })) := by
  unfold eFn
  rw [W_bind]
  congr 1
  funext ts st1
  unfold W Fw
  dsimp only
  cases m ts st1.S with
  | none => with_unfolding_all rfl
  | some p =>
    obtain ⟨r, S'⟩ := p
    cases r <;> with_unfolding_all rfl
/-! statements -/
theorem W_cSeq {a b : Cmd} {Φ : Fl → Stt → Prop} : W (cSeq a b) st Φ = W a st (fun f st1 => match f with | .nxt => W b st1 Φ | f => Φ f st1) := by
  unfold cSeq
  rw [W_bind]
  congr 1
  funext f st1
  cases f <;> with_unfolding_all rfl
theorem W_cRet {m : M T} {Φ : Fl → Stt → Prop} : W (cRet m) st Φ = W m st (fun t st1 => Φ (.ret t) st1) := by
  unfold cRet
  rw [W_bind]
  with_unfolding_all rfl
theorem W_cExpr {m : M T} {Φ : Fl → Stt → Prop} : W (cExpr m) st Φ = W m st (fun _ st1 => Φ .nxt st1) := by
  unfold cExpr
  rw [W_bind]
  with_unfolding_all rfl
theorem W_cIf {c : M Bool} {a b : Cmd} {Φ : Fl → Stt → Prop} : W (cIf c a b) st Φ = W c st (fun d st1 => if d = true then W a st1 Φ else W b st1 Φ) := by
  unfold cIf
  rw [W_bind]
  congr 1
  funext d st1
  cases d <;> with_unfolding_all rfl
theorem W_cSet {i : Nat} {m : M T} {Φ : Fl → Stt → Prop} : W (cSet i m) st Φ = W m st (fun t st1 => Φ .nxt { st1 with σ := st1.σ.set i (.val t) }) := by
  unfold cSet
  rw [W_bind]
  with_unfolding_all rfl
theorem W_cOwn {i : Nat} {m : M Ob} {Φ : Fl → Stt → Prop} : W (cOwn i m) st Φ = W m st (fun t st1 => Φ .nxt { st1 with σ := st1.σ.set i (.own t) }) := by
  unfold cOwn
  rw [W_bind]
  with_unfolding_all rfl
theorem W_cUnp {tg : Tg} {m : M T} {Φ : Fl → Stt → Prop} : W (cUnp tg m) st Φ = W m st (fun t st1 => Op (asgT tg t st1.σ) (fun σ' => Φ .nxt { st1 with σ := σ' })) := by
  unfold cUnp
  rw [W_bind]
  congr 1
  funext t st1
  unfold W
  dsimp only
  cases asgT tg t st1.σ <;> with_unfolding_all rfl
theorem W_cSetIx {mp : M Plc} {mi m : M T} {Φ : Fl → Stt → Prop} : W (cSetIx mp mi m) st Φ = W m st (fun t st1 => W mp st1 (fun pl st2 => W mi st2 (fun k st3 => Op (pl st3) (fun p => Op (setF p.1 k t) (fun ob => Φ .nxt (p.2 ob)))))) := by
  unfold cSetIx
  rw [W_bind]
  congr 1
  funext t st1
  rw [W_bind]
  congr 1
  funext pl st2
  rw [W_bind]
  congr 1
  funext k st3
  unfold W
  dsimp only
  cases pl st3 with
  | none => with_unfolding_all rfl
  | some p =>
    obtain ⟨ob, set⟩ := p
    simp only [Op_some]
    cases setF ob k t <;> with_unfolding_all rfl
theorem W_cPut {mp : M Plc} {mk mv : M T} {Φ : Fl → Stt → Prop} : W (cPut mp mk mv) st Φ = W mv st (fun t st1 => W mp st1 (fun pl st2 => W mk st2 (fun k st3 => Op (pl st3) (fun p => match p.1 with
    | .dct ks vs => isKey k = true ∧ ks.length ≤ 1000000 ∧ Φ .nxt (p.2 (putD ks vs k t))
    | _ => False)))) := by
  unfold cPut
  rw [W_bind]
  congr 1
  funext t st1
  rw [W_bind]
  congr 1
  funext pl st2
  rw [W_bind]
  congr 1
  funext k st3
  unfold W
  dsimp only
  cases pl st3 with
  | none => with_unfolding_all rfl
  | some p =>
    obtain ⟨ob, set⟩ := p
    cases ob with
    | dct ks vs =>
      simp only [Op_some]
      by_cases h : isKey k = true ∧ ks.length ≤ 1000000
      · simp [h]
      · simp only [if_neg h]
        simp only [eq_iff_iff, false_iff]
        exact fun z => h ⟨z.1, z.2.1⟩
    | _ => with_unfolding_all rfl
theorem Fw_fnM {n : Nat} {c : Cmd} {ts : List T} {S : List Ob} {Φ : T → List Ob → Prop} : Fw (fnM n c) ts S Φ = W c ⟨ts.map .val ++ List.replicate (n - ts.length) .emp, S⟩ (fun f st' => match f with | .nxt => Φ .non st'.S | .ret t => Φ t st'.S | _ => False) := by
  unfold Fw fnM W
  cases c ⟨ts.map .val ++ List.replicate (n - ts.length) .emp, S⟩ with
  | none => with_unfolding_all rfl
  | some p =>
    obtain ⟨r, st'⟩ := p
    cases r with
    | exc x => with_unfolding_all rfl
    | ok f => cases f <;> with_unfolding_all rfl
/-! iterables -/
theorem W_iU {m : M T} {Φ : Itr → Stt → Prop} : W (iU m) st Φ = W m st (fun t st1 => match t with
    | .tup ts => Φ ⟨ts, fun _ => True⟩ st1
    | .str s => Φ ⟨s.map fun c => .str [c], fun _ => True⟩ st1
    | t => Op (lstAt st1.S t) (fun ts => Φ ⟨ts, fun st' => lstAt st'.S t = some ts⟩ st1)) := by
  unfold iU
  rw [W_bind]
  congr 1
  funext t st1
  unfold W
  cases t with
  | ref a =>
    simp only
    cases lstAt st1.S (.ref a) <;> with_unfolding_all rfl
  | _ => with_unfolding_all rfl
theorem W_iVar {i : Nat} {Φ : Itr → Stt → Prop} : W (iVar i) st Φ = Op (rVar i st) (fun t => match t with
    | .fz ts => Φ ⟨ts, fun st' => rVar i st' = some (.fz ts)⟩ st
    | _ => False) := by
  unfold W iVar
  cases rVar i st with
  | none => with_unfolding_all rfl
  | some t => cases t <;> with_unfolding_all rfl
theorem W_iRange {m : M (List T)} {Φ : Itr → Stt → Prop} : W (iRange m) st Φ = W m st (fun ts st1 => match ts with
    | [.int n] => (n ≤ 1000000 ∧ -1000000 ≤ n) ∧ Φ ⟨(List.range n.toNat).map fun k => .int (k : Nat), fun _ => True⟩ st1
    | _ => False) := by
  unfold iRange
  rw [W_bind]
  congr 1
  funext ts st1
  match ts with
  | [.int n] =>
    simp only
    by_cases h : n ≤ 1000000 ∧ -1000000 ≤ n
    · rw [if_pos h, W_pure]; simp [h]
    · rw [if_neg h, W_stuck]; simp [h]
  | [] => with_unfolding_all rfl
  | .int _ :: _ :: _ => with_unfolding_all rfl
  | .non :: _ => with_unfolding_all rfl
  | .bl _ :: _ => with_unfolding_all rfl
  | .str _ :: _ => with_unfolding_all rfl
  | .ty _ :: _ => with_unfolding_all rfl
  | .tup _ :: _ => with_unfolding_all rfl
  | .fz _ :: _ => with_unfolding_all rfl
  | .ref _ :: _ => with_unfolding_all rfl
  | .scr _ :: _ => with_unfolding_all rfl
  | .dic _ _ :: _ => with_unfolding_all rfl
theorem W_iEnumU {m : M (List T)} {Φ : Itr → Stt → Prop} : W (iEnumU m) st Φ = W m st (fun ts st1 => match ts with
    | [t] => Op (lstAt st1.S t) (fun us => Φ ⟨enumT us, fun st' => lstAt st'.S t = some us⟩ st1)
    | _ => False) := by
  unfold iEnumU
  rw [W_bind]
  congr 1
  funext ts st1
  match ts with
  | [t] =>
    unfold W
    simp only
    cases lstAt st1.S t <;> with_unfolding_all rfl
  | [] => with_unfolding_all rfl
  | _ :: _ :: _ => with_unfolding_all rfl
theorem W_iZipU {m : M (List T)} {Φ : Itr → Stt → Prop} : W (iZipU m) st Φ = W m st (fun ts st1 => match ts with
    | [t, u] => (match t, u with
      | .tup ts, .tup us => Φ ⟨zipT ts us, fun _ => True⟩ st1
      | t, u => Op (lstAt st1.S t) (fun us => Op (lstAt st1.S u) (fun ws => Φ ⟨zipT us ws, fun st' => lstAt st'.S t = some us ∧ lstAt st'.S u = some ws⟩ st1)))
    | _ => False) := by
  unfold iZipU
  rw [W_bind]
  congr 1
  funext ts st1
  match ts with
  | [t, u] =>
    have h : ∀ t u : T, W (fun st => match lstAt st.S t, lstAt st.S u with
      | some ts, some us => some (R.ok (⟨zipT ts us, fun st' => lstAt st'.S t = some ts ∧ lstAt st'.S u = some us⟩ : Itr), st)
      | _, _ => none : M Itr) st1 Φ = Op (lstAt st1.S t) (fun us => Op (lstAt st1.S u) (fun ws => Φ ⟨zipT us ws, fun st' => lstAt st'.S t = some us ∧ lstAt st'.S u = some ws⟩ st1)) := fun t u => by
      unfold W
      dsimp only
      cases lstAt st1.S t with
      | none => rfl
      | some us => cases lstAt st1.S u <;> rfl
    cases t <;> first | exact h _ _ | (cases u <;> first | exact h _ _ | with_unfolding_all rfl)
  | [] => with_unfolding_all rfl
  | [_] => with_unfolding_all rfl
  | _ :: _ :: _ :: _ => with_unfolding_all rfl
/-! loops -/
theorem W_cFor {mi : M Itr} {tg : Tg} {body : Cmd} {Φ : Fl → Stt → Prop} : W (cFor mi tg body) st Φ = W mi st (fun it st1 => W (forL it.chk tg body it.ts) st1 Φ) := by
  unfold cFor
  rw [W_bind]
/-- what a turn of a loop is to come to -/
def turn (I : Stt → Prop) (Φ : Fl → Stt → Prop) : Fl → Stt → Prop
  | .nxt, st => I st
  | .cnt, st => I st
  | .brk, st => Φ .nxt st
  | .ret v, st => Φ (.ret v) st
theorem W_forL {chk : Stt → Prop} {tg : Tg} {body : Cmd} {Φ : Fl → Stt → Prop} (I : Nat → Stt → Prop) : ∀ (ts : List T) (k : Nat) (st : Stt), I k st →
    (∀ i t st, ts[i]? = some t → I (k + i) st → chk st ∧ Op (asgT tg t st.σ) (fun σ' => W body { st with σ := σ' } (turn (I (k + i + 1)) Φ))) → (∀ st, I (k + ts.length) st → chk st ∧ Φ .nxt st) → W (forL chk tg body ts) st Φ
  | [], k, st, h0, _, he => by
    obtain ⟨hc, q⟩ := he st h0
    unfold W forL
    rw [if_pos hc]
    with_unfolding_all exact q
  | t :: ts, k, st, h0, hs, he => by
    obtain ⟨hc, q⟩ := hs 0 t st rfl h0
    obtain ⟨σ', ea, q⟩ := q.ex
    obtain ⟨f, st', eb, q⟩ := q.ex
    have rest : I (k + 0 + 1) st' → W (forL chk tg body ts) st' Φ := fun h =>
      W_forL I ts (k + 1) st' h (fun i u s e hi => by
        have := hs (i + 1) u s (by rw [List.getElem?_cons_succ]; exact e) (by rw [show k + (i + 1) = k + 1 + i by omega]; exact hi)
        rw [show k + (i + 1) = k + 1 + i by omega] at this
        exact this) (fun s hi => he s (by rw [List.length_cons, show k + (ts.length + 1) = k + 1 + ts.length by omega]; exact hi))
    unfold W forL
    rw [if_pos hc]
    simp only [ea, eb]
    cases f with
    | nxt => with_unfolding_all exact rest q
    | cnt => with_unfolding_all exact rest q
    | brk => with_unfolding_all exact q
    | ret v => with_unfolding_all exact q
theorem W_whileL {b : M Bool} {body : Cmd} {Φ : Fl → Stt → Prop} (I : Nat → Stt → Prop) (hs : ∀ n st, I n st → W b st (fun c st1 => if c = true then W body st1 (turn (fun st2 => ∃ m, m < n ∧ I m st2) Φ) else Φ .nxt st1)) : ∀ (fuel n : Nat) (st : Stt), n < fuel → I n st → W (whileL b body fuel) st Φ
  | 0, n, st, h, _ => absurd h (Nat.not_lt_zero _)
  | fuel + 1, n, st, h, hi => by
    unfold whileL
    rw [W_bind]
    refine (hs n st hi).mono fun c st1 q => ?_
    cases c with
    | false => with_unfolding_all exact q
    | true =>
      rw [if_pos rfl] at q
      show W (body >>= _) st1 Φ
      rw [W_bind]
      refine q.mono fun f st2 q => ?_
      cases f with
      | nxt =>
        obtain ⟨m, hm, hi2⟩ := q
        exact W_whileL I hs fuel m st2 (by omega) hi2
      | cnt =>
        obtain ⟨m, hm, hi2⟩ := q
        exact W_whileL I hs fuel m st2 (by omega) hi2
      | brk => with_unfolding_all exact q
      | ret v => with_unfolding_all exact q
/-- a comprehension by an invariant: I i done st, ahead of turn i -/
theorem lcL_inv {chk : Stt → Prop} {own : List Nat} {tg : Tg} {test : M Bool} {elt : M T} (I : Nat → List T → Stt → Prop) : ∀ (ts : List T) (k : Nat) (done : List T) (st : Stt), I k done st →
    (∀ i t done st, ts[i]? = some t → I (k + i) done st → chk st ∧ Op (asgT tg t st.σ) (fun σ' => W test { st with σ := σ' } (fun b st1 => if b = true then W elt st1 (fun y st2 => I (k + i + 1) (done ++ [y]) { st2 with σ := wipeS st2.σ own })
      else I (k + i + 1) done { st1 with σ := wipeS st1.σ own }))) → (∀ done st, I (k + ts.length) done st → chk st) → ∃ ys st', lcL chk own tg test elt ts st = some (ys, st') ∧ I (k + ts.length) (done ++ ys) st'
  | [], k, done, st, h0, _, he => by
    refine ⟨[], st, ?_, by rw [List.append_nil]; exact h0⟩
    unfold lcL
    rw [if_pos (he done st h0)]
  | t :: ts, k, done, st, h0, hs, he => by
    obtain ⟨hc, q⟩ := hs 0 t done st rfl h0
    obtain ⟨σ', ea, q⟩ := q.ex
    obtain ⟨b, st1, et, q⟩ := q.ex
    have rest : ∀ done' st', I (k + 0 + 1) done' st' → ∃ ys stE, lcL chk own tg test elt ts st' = some (ys, stE) ∧ I (k + (t :: ts).length) (done' ++ ys) stE := fun done' st' h => by
      have := lcL_inv I ts (k + 1) done' st' h (fun i u dn s e hi => by
        have := hs (i + 1) u dn s (by rw [List.getElem?_cons_succ]; exact e) (by rw [show k + (i + 1) = k + 1 + i by omega]; exact hi)
        rw [show k + (i + 1) = k + 1 + i by omega] at this
        exact this) (fun dn s hi => he dn s (by rw [List.length_cons, show k + (ts.length + 1) = k + 1 + ts.length by omega]; exact hi))
      rw [List.length_cons, show k + (ts.length + 1) = k + 1 + ts.length by omega]
      exact this
    cases b with
    | false =>
      rw [if_neg (by simp)] at q
      obtain ⟨ys, stE, e, q⟩ := rest done _ q
      refine ⟨ys, stE, ?_, q⟩
      unfold lcL
      rw [if_pos hc]
      simp only [ea, et, e]
    | true =>
      rw [if_pos rfl] at q
      obtain ⟨y, st2, ee, q⟩ := q.ex
      obtain ⟨ys, stE, e, q⟩ := rest _ _ q
      refine ⟨y :: ys, stE, ?_, by rw [List.append_assoc] at q; exact q⟩
      unfold lcL
      rw [if_pos hc]
      simp only [ea, et, ee, e]
theorem W_fComp {mi : M Itr} {own : List Nat} {tg : Tg} {test : M Bool} {elt : M T} {Φ : Ob → Stt → Prop} : W (fComp mi own tg test elt) st Φ = W mi st (fun it st1 => (it.ts.length ≤ 1000000 ∧ own.all (fun v => notOwn st1.σ[v]?) = true) ∧
    Op (lcL it.chk own tg test elt it.ts { st1 with σ := wipeS st1.σ own }) (fun p => Φ (.lst p.1) { p.2 with σ := restS st1.σ p.2.σ own })) := by
  unfold fComp
  rw [W_bind]
  congr 1
  funext it st1
  unfold W
  by_cases h : it.ts.length ≤ 1000000 ∧ own.all (fun v => notOwn st1.σ[v]?) = true
  · simp only [if_pos h, eq_iff_iff]
    cases lcL it.chk own tg test elt it.ts { st1 with σ := wipeS st1.σ own } with
    | none => simp [Op]
    | some p => simp only [Op]; exact ⟨fun z => ⟨h, z⟩, fun z => z.2⟩
  · simp only [if_neg h, eq_iff_iff, false_iff]
    exact fun z => h z.1
/-- .. whose test and element change nothing -/
theorem lcL_pure {chk : Stt → Prop} {own : List Nat} {tg : Tg} {test : M Bool} {elt : M T} {st : Stt} (p : T → Bool) (f : T → T) (hc : chk st) : ∀ ts : List T,
    (∀ t ∈ ts, Op (asgT tg t st.σ) (fun σ' => wipeS σ' own = st.σ ∧ W test { st with σ := σ' } (fun b st1 => b = p t ∧ st1 = { st with σ := σ' }) ∧ (p t = true → W elt { st with σ := σ' } (fun y st1 => y = f t ∧ st1 = { st with σ := σ' })))) →
    lcL chk own tg test elt ts st = some ((ts.filter p).map f, st)
  | [], _ => by unfold lcL; rw [if_pos hc]; with_unfolding_all rfl
  | t :: ts, h => by
    obtain ⟨σ', ea, hw, ht, he⟩ := (h t List.mem_cons_self).ex
    obtain ⟨b, st1, et, rfl, rfl⟩ := ht.ex
    have ih := lcL_pure p f hc ts fun u hu => h u (List.mem_cons_of_mem _ hu)
    have es : ({ st with σ := wipeS σ' own } : Stt) = st := by rw [hw]
    unfold lcL
    rw [if_pos hc]
    simp only [ea, et]
    cases hp : p t with
    | false =>
      simp only [es, ih]
      rw [List.filter_cons_of_neg (by rw [hp]; simp)]
    | true =>
      obtain ⟨y, st2, ee, rfl, rfl⟩ := (he hp).ex
      simp only [ee, es, ih]
      rw [List.filter_cons_of_pos hp]
      with_unfolding_all rfl
end
end Sw
namespace Sw
open PySem PySem.Spec PyProof.Rows L2
open Classical
section
variable {E : Ev} {g g1 : Gh} {H H1 : Hp} {σ : L2.St} {X : Cx} {pos : Pos}
/-- enumerate of a name's own list: it must not change -/
def iEnumV (i : Nat) : M Itr := fun st => match rVar i st with
  | some (.fz ts) => some (.ok ⟨enumT ts, fun st' => rVar i st' = some (.fz ts)⟩, st)
  | _ => none
theorem im_enumV {i : Nat} {e : Expr} {p tpos : Pos} {elts : List Expr} {kk : Nat} (hg : Gl X "enumerate") (hm : X.mg "enumerate" = none) (h : PE X e (tVar i)) (hs : starEach [e] X.env = [(false, eval e X.env)] := by rfl) :
    IM E [i] X (.Tuple elts kk tpos) (.Call (.Name "enumerate" p) [e] [] pos) (iEnumV i) :=
  ⟨PI.mono (pi_enum hg hm (pa_cons h pa_nil hs) hs) fun σ H R ⟨g, st, r, z⟩ => by
    unfold run iEnumV at z
    cases e1 : rVar i st with
    | none => simp only [e1] at z
    | some t =>
      simp only [e1] at z
      cases t with
      | fz ts =>
        simp only at z
        obtain ⟨v, ev⟩ := rVar_some r e1
        have rd := var_rd (E := E) (g := g) (H := H) (st := st) ev
        obtain ⟨a, xs, e, ha, rl⟩ := rd g st H _ r (Stp.refl _ _) e1
        have hlen : (enumT ts).length = ts.length := by simp [enumT]
        have sq : ∀ {g' st' σ' H'}, Rel E.K g' st' σ' H' → (∀ j ∈ [i], σ'[j]? = σ[j]?) → rVar i st' = some (.fz ts) → ∃ xs, H' a = some (.lst xs) ∧ RepL E.K g' ts xs := fun {g' st' σ' H'} r' hs e' => by
          have ev' : σ'[i]? = some (some v) := (hs i (List.mem_singleton.mpr rfl)).trans ev
          have rd' := var_rd (E := E) (g := g') (H := H') (st := st') ev'
          obtain ⟨b, ys, e2, hb, rl2⟩ := rd' g' st' H' _ r' (Stp.refl _ _) e'
          rw [e] at e2
          cases e2
          exact ⟨ys, hb, rl2⟩
        refine ⟨v, ev, a, xs, by rw [e], .inl (.inl ha), z g H r (Stp.refl _ _) _ ⟨fun g' st' σ' H' k r' s hch hs hi => ?_, fun g' st' σ' H' r' s hch hs => ?_, fun g' st' σ' H' k x H2 r' s hch hs hi y => ?_⟩⟩
        · obtain ⟨ys, hb, rl2⟩ := sq r' hs hch
          have hi : k < ts.length := by rw [← hlen]; exact hi
          obtain ⟨t, e⟩ := lt_get hi
          obtain ⟨x, ex, _⟩ := rl2.get e
          exact ⟨ys, x, .inl (.inl hb), ex⟩
        · obtain ⟨ys, hb, rl2⟩ := sq r' hs hch
          exact ⟨ys, .inl (.inl hb), by rw [rl2.len, ← hlen]; exact Nat.le_refl _⟩
        · obtain ⟨ys, hb, rl2⟩ := sq r' hs hch
          have hi : k < ts.length := by rw [← hlen]; exact hi
          obtain ⟨t, et⟩ := lt_get hi
          obtain ⟨x', ex, rx⟩ := rl2.get et
          obtain ⟨p, q, e1, hp, e2, y⟩ := y
          have e3 := y ys (.inl (.inl hb))
          rw [ex] at e3
          cases e3
          obtain ⟨r2, s2⟩ := r'.frz (o := .tup [.int (k : Nat), x']) hp
          rw [e1, e2]
          exact ⟨_, .tup [.int (k : Nat), t], r2, s2, by simp [enumT, et], rep_tup hp r'.zs (.two (rt_int _) rx)⟩
      | _ => exact z.elim⟩
theorem W_iEnumV {i : Nat} {st : Stt} {Φ : Itr → Stt → Prop} : W (iEnumV i) st Φ = Op (rVar i st) (fun t => match t with
    | .fz ts => Φ ⟨enumT ts, fun st' => rVar i st' = some (.fz ts)⟩ st
    | _ => False) := by
  unfold W iEnumV
  cases rVar i st with
  | none => rfl
  | some t => cases t <;> rfl
section
variable {x : Str} {p : Pos}
theorem iev {tpos cp : Pos} {elts : List Expr} {kk : Nat} (hm : X.mg "enumerate" = none) (i : Nat) (hg : Gl X "enumerate" := by rfl) (hN : X.N[i]? = some x := by rfl) (hv : Vis X.env.scope x := by first | exact Or.inl rfl | exact Or.inr (Or.inl rfl) | exact Or.inr (Or.inr rfl)) (hd : (x == ("__debug__" : Str)) = false := by decide)
    (hcd : (x == ("__classdict__" : Str)) = false := by decide) : IM E [i] X (.Tuple elts kk tpos) (.Call (.Name "enumerate" cp) [.Name x p] [] pos) (iEnumV i) := im_enumV hg hm (pe_var hN hv hd hcd)
end
end
end Sw
namespace Sw
open PySem PySem.Spec PyProof.Rows L2
open Classical
section
variable {E : Ev} {g g1 : Gh} {H H1 : Hp} {σ : L2.St} {X : Cx} {pos : Pos}
def sortC (zs : List (List Nat)) : List (List Nat) := zs.mergeSort (fun a b => decide (a ≤ b))
theorem sortC_perm {zs : List (List Nat)} : (sortC zs).Perm zs := List.mergeSort_perm _ _
theorem sortC_sorted {zs : List (List Nat)} : (sortC zs).Pairwise (· ≤ ·) := by
  have := List.pairwise_mergeSort (le := fun a b : List Nat => decide (a ≤ b)) (fun a b c h1 h2 => by
    simp only [decide_eq_true_eq] at *
    exact List.le_trans h1 h2) (fun a b => by
    simp only [Bool.or_eq_true, decide_eq_true_eq]
    exact List.le_total a b) zs
  exact this.imp fun h => by simpa using h
theorem sorted_uniq : ∀ {a b : List (List Nat)}, a.Perm b → a.Pairwise (· ≤ ·) → b.Pairwise (· ≤ ·) → a = b
  | [], b, h, _, _ => by rw [List.nil_perm.mp h]
  | x :: a, [], h, _, _ => by have := h.length_eq; simp at this
  | x :: a, y :: b, h, h1, h2 => by
    rw [List.pairwise_cons] at h1 h2
    have e : x = y := by
      have hx := h.mem_iff.mp List.mem_cons_self
      have hy := h.mem_iff.mpr (List.mem_cons_self (a := y) (l := b))
      rcases List.mem_cons.mp hx with e | hx
      · exact e
      · rcases List.mem_cons.mp hy with e | hy
        · exact e.symm
        · exact List.le_antisymm (h1.1 y hy) (h2.1 x hx)
    subst e
    rw [sorted_uniq h.cons_inv h1.2 h2.2]
theorem rising_pw : ∀ {ss : List Str} {p : Str}, risingS p ss = true → (p :: ss).Pairwise (fun a b : Str => a.cps.toList ≤ b.cps.toList)
  | [], p, _ => by simp
  | x :: r, p, h => by
    have h : (!ltCps x.cps.toList p.cps.toList && risingS x r) = true := h
    rw [Bool.and_eq_true] at h
    have ih := rising_pw h.2
    have hx : p.cps.toList ≤ x.cps.toList := by
      have h1 := h.1
      rw [ltCps_eq] at h1
      simpa using h1
    rw [List.pairwise_cons]
    refine ⟨fun y hy => ?_, ih⟩
    rcases List.mem_cons.mp hy with rfl | hy
    · exact hx
    · exact List.le_trans hx ((List.pairwise_cons.mp ih).1 y hy)
theorem sortedS_pw : ∀ {ss : List Str}, sortedS ss = true → (ss.map fun s => s.cps.toList).Pairwise (· ≤ ·)
  | [], _ => by simp
  | x :: r, h => by
    have := rising_pw (show risingS x r = true from h)
    exact List.pairwise_map.mpr this
def sortO : List T → Option (List T)
  | [.fz ts] => match strsOf ts with
    | some zs => if zs.length < 64 then some ((sortC zs).map .str) else none
    | none => none
  | _ => none
theorem rep_strs {K : PySem.W.Frag} : ∀ (zs : List (List Nat)), RepL K g (zs.map .str) ((zs.map sS).map V.str)
  | [] => .nil
  | z :: zs => by
    unfold RepL
    exact ⟨_, _, rfl, rt_str z, rep_strs zs⟩
theorem lr_sorted : LRF E (rSortedS E.K) sortO := by
  intro g H ts us vs Q zs rk e q
  match ts, e with
  | [.fz ws], e =>
    simp only [sortO] at e
    cases es : strsOf ws with
    | none => rw [es] at e; cases e
    | some cs =>
      rw [es] at e
      simp only at e
      split at e
      · rename_i h64
        cases e
        obtain ⟨v, rfl, rv⟩ := rk.one
        obtain ⟨a, xs, rfl, ha, rl⟩ := rv
        have ex := rl.strs es
        subst ex
        refine ⟨a, cs.map sS, rfl, .inl (.inl ha), by rw [List.length_map]; exact h64, fun ys p hp hs hH => ?_⟩
        have e1 : (cs.map sS).map (fun s => s.cps.toList) = cs := by
          rw [List.map_map]
          conv => rhs; rw [← List.map_id cs]
          refine List.map_congr_left fun z _ => ?_
          simp [sS]
        have e2 : (ys.map fun s => s.cps.toList) = sortC cs := by
          refine sorted_uniq ?_ (sortedS_pw hs) sortC_sorted
          have := hp.map (fun s : Str => s.cps.toList)
          rw [e1] at this
          exact this.trans sortC_perm.symm
        have e3 : ys = (sortC cs).map sS := by
          rw [← e2, List.map_map]
          conv => lhs; rw [← List.map_id ys]
          refine List.map_congr_left fun z _ => ?_
          simp [sS]
        rw [e3]
        exact q p _ hH (rep_strs _)
      · cases e
theorem x_sorted {p : Pos} {e : Expr} {m : M (List Rdr)} (G : Gd E X) (hm : X.mg "sorted" = none) (ha : OA E X [e] m) (hg : Gl X "sorted" := by rfl)
    (he : starEach [e] X.env = (false, eval e X.env) :: starEach [] X.env := by rfl) (hpl : (backTo pos (starEach [] X.env)).any (·.1) = false := by rfl) : FE E X (.Call (.Name "sorted" p) [e] [] pos) (fCall sortO m) :=
  fe_callB cr_sortedS (G.K ▸ lr_sorted) hg hm (by decide +kernel) ha (by decide) (by decide) he hpl
theorem sort_O {zs : List (List Nat)} (h : zs.length < 64) : sortO [.fz (zs.map .str)] = some ((sortC zs).map .str) := by
  show (match strsOf (zs.map T.str) with | some zs => (if zs.length < 64 then some ((sortC zs).map T.str) else none : Option (List T)) | none => none) = _
  have e : ∀ zs : List (List Nat), strsOf (zs.map T.str) = some zs := fun zs => by
    induction zs with
    | nil => rfl
    | cons z zs ih =>
      show (strsOf (zs.map T.str)).map (z :: ·) = _
      rw [ih]
      rfl
  rw [e]
  simp only [h, if_true]
/-- a name's list, given away, or what it is where it was given away before -/
def eFr (i : Nat) : M T := fun st => match st.σ[i]? with
  | some (.val t) => some (.ok t, st)
  | some (.own (.lst ts)) => some (.ok (.fz ts), { st with σ := st.σ.set i (.val (.fz ts)) })
  | _ => none
theorem me_fr {i : Nat} {e : Expr} (h : PE X e (tVar i)) : ME E X e (eFr i) := by
  refine ⟨⟨fun pins s σ H Q I q => ?_⟩⟩
  obtain ⟨g, st, r, z⟩ := q
  cases es : st.σ[i]? with
  | none => unfold run eFr at z; simp only [es] at z
  | some sl =>
    cases sl with
    | emp => unfold run eFr at z; simp only [es] at z
    | val t =>
      refine (me_var (E := E) h).pe.run pins s σ H Q I ⟨g, st, r, ?_⟩
      unfold run eFr at z
      unfold run eVar
      simp only [es] at z ⊢
      exact z
    | own ob =>
      refine (me_frz (E := E) h).pe.run pins s σ H Q I ⟨g, st, r, ?_⟩
      unfold run eFr at z
      unfold run eFrz
      cases ob with
      | lst ts =>
        simp only [es] at z ⊢
        exact z
      | _ => simp only [es] at z
theorem W_eFr {i : Nat} {st : Stt} {Φ : T → Stt → Prop} : W (eFr i) st Φ = (match st.σ[i]? with | some (.val t) => Φ t st | some (.own (.lst ts)) => Φ (.fz ts) { st with σ := st.σ.set i (.val (.fz ts)) } | _ => False) := by
  unfold W eFr
  cases st.σ[i]? with
  | none => rfl
  | some s =>
    cases s with
    | own ob => cases ob <;> rfl
    | _ => rfl
theorem frv {x : Str} {p : Pos} (i : Nat) (hN : X.N[i]? = some x := by rfl) (hv : Vis X.env.scope x := by first | exact Or.inl rfl | exact Or.inr (Or.inl rfl) | exact Or.inr (Or.inr rfl)) (hd : (x == ("__debug__" : Str)) = false := by decide)
    (hcd : (x == ("__classdict__" : Str)) = false := by decide) : ME E X (.Name x p) (eFr i) := me_fr (pe_var hN hv hd hcd)
end
end Sw
namespace Sw
open PySem PySem.Spec PyProof.Rows L2
open Classical
/-! ### x, *ys = e -/
section
variable {prog : Program} {w : World} {A : Around} {E : Value → Shared → Prop} {s : Shared}
/-- what the cut in two leaves: the rest laid as a new list -/
def Laid2 (s : Shared) (x : Value) (rest : List Value) (Q : List Value → Shared → Prop) : Prop :=
  ∀ (D : Addr) (h' : Heap) (tk : Nat), (∀ b o, s.heap.get? b = some o → h'.get? b = some o) → s.heap.get? D = none →
    h'.get? D = some ({ cls := .type "list", data := .seq rest.toArray 0 } : Obj) → Q [x, .ref D] { s with heap := h', toks := tk }
theorem cut2_end {h1 : Heap} {tk : Nat} {x : Value} {rest : List Value} {Q : List Value → Shared → Prop}
    (k : ∀ b o, b ≠ s.heap.objs.size → s.heap.get? b = some o → h1.get? b = some o) (q : Laid2 s x rest Q) (hl : rest.length ≤ sizeLine) :
    wpAny (model prog w) A (newList rest >>= fun d => pure ([x] ++ [d] ++ [])) Q E { s with heap := h1, toks := tk } := by
  have kk : ∀ b o, s.heap.get? b = some o → h1.get? b = some o := fun b o e => k b o (Nat.ne_of_lt (Heap.lt_size e)) e
  refine wpAny_bind (wpAny_newList ?_ hl)
  refine wpAny_pure (q h1.objs.size _ tk (fun b o e => Heap.get?_push_of_some _ (kk b o e)) ?_ (Heap.get?_push_size _ rfl))
  cases e : s.heap.get? h1.objs.size with
  | none => rfl
  | some o => exact absurd (Heap.lt_size (kk _ _ e)) (Nat.lt_irrefl _)
theorem cut2_tup {t : Addr} {x : Value} {rest : List Value} {Q : List Value → Shared → Prop} (hh : A.handled = none) (ht : IsTup s.heap t (x :: rest).toArray) (hz : rest.length + 1 ≤ sizeLine) (q : Laid2 s x rest Q) :
    wpAny (model prog w) A (unpackItems (.ref t) 2 (some 1)) Q E s := by
  have ne : t ≠ s.heap.objs.size := by
    obtain ⟨o, e, _⟩ := ht
    exact Nat.ne_of_lt (Heap.lt_size e)
  unfold unpackItems notIterableAtAll
  refine wpAny_bind (wpAny_bind (wpAny_specialOf ht.typeIs slot_tuple_iter.lookup (wpAny_pure ?_)))
  simp only [Bool.false_eq_true, if_false]
  refine wpAny_bind (wpAny_holding (iter_tuple ht (wpAny_bind (wpAny_holding ?_))))
  refine draw_tuple ne 1 0 _ _ ⟨_, Heap.get?_push_size _ rfl, rfl, rfl⟩ (ht.push _) (by simp) fun h1 i1 s1 => ?_
  have t1 : IsTup h1 t (x :: rest).toArray := (ht.push _).extBut s1.extBut ne
  obtain ⟨oi, ei, _⟩ := id i1
  obtain ⟨ot, et, _⟩ := id t1
  simp only [List.drop_zero, List.take_succ_cons, List.take_zero, List.length_cons, List.length_nil, Nat.zero_add, Nat.lt_irrefl, if_false]
  refine wpAny_bind (wpAny_holding ?_)
  refine W.kun_collect (s := { s with heap := h1 }) (.inr (.inr (.inr rfl))) (Walks.tuple (A := A.in1) hh s.heap.objs.size t ne (x :: rest).toArray) (fun j u st => st.1.typeIs) (k := 1) (by simp) ⟨i1, t1⟩ (Heap.lt_size ei) (Heap.lt_size et) (fun h2 tk k2 => ?_) (by simpa using hz)
  have e1 : List.drop 1 (x :: rest).toArray.toList = rest := rfl
  rw [e1]
  simp only [Nat.add_one_sub_one, Nat.sub_self, Nat.not_lt_zero, if_false, Nat.sub_zero, List.take_length, List.drop_length]
  have kk : ∀ b o, b ≠ s.heap.objs.size → s.heap.get? b = some o → h2.get? b = some o := fun b o hb e => k2 b o hb (s1.extBut b o hb (Heap.get?_push_of_some _ e))
  exact cut2_end (s := s) (h1 := h2) kk q (by omega)
theorem cut2_lst {t : Addr} {x : Value} {rest : List Value} {Q : List Value → Shared → Prop} (hh : A.handled = none) (ht : s.heap.IsList t (x :: rest).toArray) (hz : rest.length + 1 ≤ sizeLine) (q : Laid2 s x rest Q) :
    wpAny (model prog w) A (unpackItems (.ref t) 2 (some 1)) Q E s := by
  have ne : t ≠ s.heap.objs.size := by
    obtain ⟨o, e, _⟩ := ht
    exact Nat.ne_of_lt (Heap.lt_size e)
  unfold unpackItems notIterableAtAll
  refine wpAny_bind (wpAny_bind (wpAny_specialOf ht.typeIs slot_list_iter.lookup (wpAny_pure ?_)))
  simp only [Bool.false_eq_true, if_false]
  refine wpAny_bind (wpAny_holding (wpAny_pyIter_list ht (wpAny_bind (wpAny_holding ?_))))
  refine W.kun_draw ne 1 0 _ _ ⟨_, Heap.get?_push_size _ rfl, rfl, rfl⟩ (ht.push _) (by simp) fun h1 i1 s1 => ?_
  have t1 : h1.IsList t (x :: rest).toArray := (ht.push _).extBut s1.extBut ne
  obtain ⟨oi, ei, _⟩ := id i1
  obtain ⟨ot, et, _⟩ := id t1
  simp only [List.drop_zero, List.take_succ_cons, List.take_zero, List.length_cons, List.length_nil, Nat.zero_add, Nat.lt_irrefl, if_false]
  refine wpAny_bind (wpAny_holding ?_)
  refine W.kun_collect (s := { s with heap := h1 }) (.inr (.inr (.inl rfl))) (Walks.list (A := A.in1) hh s.heap.objs.size t ne (x :: rest).toArray) (fun j u st => st.1.typeIs) (k := 1) (by simp) ⟨i1, t1⟩ (Heap.lt_size ei) (Heap.lt_size et) (fun h2 tk k2 => ?_) (by simpa using hz)
  have e1 : List.drop 1 (x :: rest).toArray.toList = rest := rfl
  rw [e1]
  simp only [Nat.add_one_sub_one, Nat.sub_self, Nat.not_lt_zero, if_false, Nat.sub_zero, List.take_length, List.drop_length]
  have kk : ∀ b o, b ≠ s.heap.objs.size → s.heap.get? b = some o → h2.get? b = some o := fun b o hb e => k2 b o hb (s1.extBut b o hb (Heap.get?_push_of_some _ e))
  exact cut2_end (s := s) (h1 := h2) kk q (by omega)
end
/-- the first, and a new list of the rest -/
def gStar (K : PySem.W.Frag) (t : TGs) : TG := fun v σ H Q => ∃ a x rest, v = .ref a ∧ (SqT K H a (x :: rest) ∨ SqL K H a (x :: rest)) ∧ ∀ D, H D = none → t [x, .ref D] σ (upd H D (.lst rest)) Q
section
variable {X : Cx} {pos : Pos}
theorem pg_star {ex ey : Expr} {k : Nat} {sp : Pos} {t : TGs} (hc : X.calm = true) (h : PGs X [ex, ey] t)
    (hn : (assignEach [ex, .Starred ey sp] X.env).length = 2 := by rfl) (hst : (assignEach [ex, .Starred ey sp] X.env).findIdx? (·.1) = some 1 := by rfl)
    (he : (assignEach [ex, .Starred ey sp] X.env).map (·.2) = (assignEach [ex, ey] X.env).map (·.2) := by rfl) : PG X (.Tuple [ex, .Starred ey sp] k pos) (gStar X.K t) := by
  refine ⟨fun pins s σ H v u Q I r hw => ?_⟩
  obtain ⟨a, x, rest, e1, hq, hw⟩ := hw
  subst e1
  obtain rfl : u = Value.ref a := r
  have fin : ∀ {x' : Value} {rest' : List Value}, RelV x x' → Vals rest rest' → rest.length ≤ sizeLine → Laid2 s x' rest' fun vs s' => wpAny (model X.prog X.w) X.A (assignInOrder ((assignEach [ex, .Starred ey sp] X.env).map (·.2)) vs) (fun _ s2 => ∃ σ' H', Inv X pins σ' H' s2 ∧ Q σ' H') X.xe s' := by
    intro x' rest' rx rr hz D h' tk kk hD ho
    have hn := I.hok.gone hD
    have I1 : Inv X pins σ (upd H D (.lst rest)) { s with heap := h', toks := tk } := I.laidN kk hD hn ⟨hz, rest', 0, rr, ho⟩
    rw [he]
    exact h.run pins _ σ _ [x, .ref D] _ Q I1 (.cons rx (.cons (show RelV (V.ref D) (Value.ref D) from rfl) .nil)) (hw D hn)
  rw [assign_Tuple]
  refine wpAny_bind (wpAny_standAt ?_)
  unfold unpack
  rw [hn, hst]
  rcases hq with hq | hq
  · obtain ⟨its, rv, ht, hz⟩ := I.tuple hq
    cases rv with
    | cons rx rr =>
      rw [List.length_cons] at hz
      exact wpAny_bind (wpAny_holding (cut2_tup (I.ok.hd hc) ht (by rw [← rr.length]; exact hz) (fin rx rr (by omega))))
  · obtain ⟨its, rv, ht, hz⟩ := I.list hq
    cases rv with
    | cons rx rr =>
      rw [List.length_cons] at hz
      exact wpAny_bind (wpAny_holding (cut2_lst (I.ok.hd hc) ht.isList (by rw [← rr.length]; exact hz) (fin rx rr (by omega))))
/-- x, *ys = e, ys one's own -/
def consT : T → Option (T × List T)
  | .tup (x :: xs) => some (x, xs)
  | .fz (x :: xs) => some (x, xs)
  | _ => none
def cStO (i j : Nat) (m : M T) : Cmd := do
  let t ← m
  fun st => match consT t with
    | some (x, xs) => some (.ok .nxt, setS j (.own (.lst xs)) (setS i (.val x) st))
    | none => none
def cStF (i j : Nat) (m : M T) : Cmd := do
  let t ← m
  fun st => match consT t with
    | some (x, xs) => some (.ok .nxt, setS j (.val (.fz xs)) (setS i (.val x) st))
    | none => none
variable {E : Ev}
theorem consT_rep {g : Gh} {H : Hp} {t x : T} {xs : List T} {v : V} (hK : E.K = X.K) (zs : Same g.Z H) (h : RepT E.K g t v) (e : consT t = some (x, xs)) : ∃ a x' r', v = .ref a ∧ (SqT X.K H a (x' :: r') ∨ SqL X.K H a (x' :: r')) ∧ RepT E.K g x x' ∧ RepL E.K g xs r' := by
  cases t with
  | tup ts =>
    cases ts with
    | nil => cases e
    | cons y ys =>
      cases e
      obtain ⟨a, us, ev, hs, rl⟩ := h.tup_of
      unfold RepL at rl
      obtain ⟨x', r', rfl, rx, rr⟩ := rl
      exact ⟨a, x', r', ev, .inl (hK ▸ sameT zs hs), rx, rr⟩
  | fz ts =>
    cases ts with
    | nil => cases e
    | cons y ys =>
      cases e
      obtain ⟨a, us, ev, hs, rl⟩ := h.fz_of
      unfold RepL at rl
      obtain ⟨x', r', rfl, rx, rr⟩ := rl
      exact ⟨a, x', r', ev, .inr (.inl (.inl (zs _ _ hs))), rx, rr⟩
  | _ => cases e
variable {x y : Str} {p1 p2 p3 p4 : Pos} {k : Nat} {i j : Nat} {e : Expr} {m : M T}
theorem s_starO (G : Gd E X) (i j : Nat) (he : ME E X e m) (hi : X.N[i]? = some x := by rfl) (hj : X.N[j]? = some y := by rfl) (hx : Loc X.env.scope x := by first | exact .inl rfl | exact .inr rfl) (hy : Loc X.env.scope y := by first | exact .inl rfl | exact .inr rfl)
    (hf : X.fn x = true ∨ X.env.scope.names.lookup x = some .local := by first | exact .inl rfl | exact .inr rfl) (hf2 : X.fn y = true ∨ X.env.scope.names.lookup y = some .local := by first | exact .inl rfl | exact .inr rfl)
    (hs : swapsWithSole [.Tuple [.Name x p1, .Starred (.Name y p2) p3] k p4] e pos.line X.env = pure false := by rfl) (hw : swappedStores [.Tuple [.Name x p1, .Starred (.Name y p2) p3] k p4] e X.env = pure none := by rfl) :
    SM E X (.Assign [.Tuple [.Name x p1, .Starred (.Name y p2) p3] k p4] e pos) (cStO i j m) :=
  ⟨PS.mono (ps_asg he.pe (pg_star G.calm (pgs_cons (pg_name G.nd hi hx hf) (pgs_cons (pg_name G.nd hj hy hf2) pgs_nil))) hs hw) fun D σ H ⟨g, q⟩ => sT q fun t v g1 H1 s1 rv h1 => by
    obtain ⟨st, r, z⟩ := h1
    unfold run at z
    cases ec : consT t with
    | none => simp only [ec] at z
    | some c =>
      obtain ⟨u, us⟩ := c
      simp only [ec] at z
      obtain ⟨a, x', r', ev, hq, rx, rr⟩ := consT_rep (H := H1) G.K r.zs rv ec
      refine ⟨a, x', r', ev, hq, fun A hA => ⟨x', [.ref A], rfl, .ref A, [], rfl, rfl, ?_⟩⟩
      obtain ⟨r2, s2⟩ := (r.set (i := i) rx).owns (i := j) (ob := .lst us) (o := .lst r') hA ⟨r', rfl, rr⟩
      exact z _ _ _ r2 s2⟩
theorem s_starF (G : Gd E X) (i j : Nat) (he : ME E X e m) (hi : X.N[i]? = some x := by rfl) (hj : X.N[j]? = some y := by rfl) (hx : Loc X.env.scope x := by first | exact .inl rfl | exact .inr rfl) (hy : Loc X.env.scope y := by first | exact .inl rfl | exact .inr rfl)
    (hf : X.fn x = true ∨ X.env.scope.names.lookup x = some .local := by first | exact .inl rfl | exact .inr rfl) (hf2 : X.fn y = true ∨ X.env.scope.names.lookup y = some .local := by first | exact .inl rfl | exact .inr rfl)
    (hs : swapsWithSole [.Tuple [.Name x p1, .Starred (.Name y p2) p3] k p4] e pos.line X.env = pure false := by rfl) (hw : swappedStores [.Tuple [.Name x p1, .Starred (.Name y p2) p3] k p4] e X.env = pure none := by rfl) :
    SM E X (.Assign [.Tuple [.Name x p1, .Starred (.Name y p2) p3] k p4] e pos) (cStF i j m) :=
  ⟨PS.mono (ps_asg he.pe (pg_star G.calm (pgs_cons (pg_name G.nd hi hx hf) (pgs_cons (pg_name G.nd hj hy hf2) pgs_nil))) hs hw) fun D σ H ⟨g, q⟩ => sT q fun t v g1 H1 s1 rv h1 => by
    obtain ⟨st, r, z⟩ := h1
    unfold run at z
    cases ec : consT t with
    | none => simp only [ec] at z
    | some c =>
      obtain ⟨u, us⟩ := c
      simp only [ec] at z
      obtain ⟨a, x', r', ev, hq, rx, rr⟩ := consT_rep (H := H1) G.K r.zs rv ec
      refine ⟨a, x', r', ev, hq, fun A hA => ⟨x', [.ref A], rfl, .ref A, [], rfl, rfl, ?_⟩⟩
      have rf := rep_fz (g := g1) (H := H1) (E := E) hA r.zs rr
      obtain ⟨r2, s2⟩ := r.frz (o := .lst r') hA
      exact z _ _ _ ((r2.set (i := i) (rx.step s2)).set (i := j) rf) s2⟩
end
end Sw
namespace Sw
open PySem PySem.Spec PyProof.Rows L2
open Classical
section
variable {E : Ev} {g g1 : Gh} {H H1 : Hp} {σ : L2.St} {X : Cx} {pos : Pos}
/-! ### calls that may lay something new -/
def LRCN (E : Ev) (r : List V → Hp → VK → Prop) (f : List T → Option T) : Prop := ∀ (g : Gh) (H : Hp) (ts : List T) (s : T) (vs : List V) (Q : VK), Same g.Z H → RepKs E g H ts vs → f ts = some s → (∀ g' H' x, Fx g H g' H' → RepT E.K g' s x → Q x H') → r vs H Q
theorem tCBN_lift {r : List V → Hp → VK → Prop} {f : List T → Option T} {m : M (List Rdr)} (hl : LRCN E r f) {Q : VK} (h : teM E (eCall f m) σ H Q) : tCB r (tolM E m) σ H Q := by
  obtain ⟨g, q⟩ := h
  refine seqRL st_okT q fun rs vs g1 H1 s1 rl h1 => ?_
  obtain ⟨ts, rk, h2⟩ := at_rdM h1 rl
  obtain ⟨s, st, e, r', z⟩ := at_ofO h2
  refine hl g1 H1 ts s vs Q r'.zs rk e fun g' H' x fx rx => ?_
  obtain ⟨r2, s3⟩ := fx.rel r'
  exact z g' H' r2 s3 x rx
def tupO : List T → Option T
  | [.fz ts] => some (.tup ts)
  | [.tup ts] => some (.tup ts)
  | _ => none
theorem ln_tup : LRCN E (fun xs H Q => ∃ p ys, xs = [.ref p] ∧ ((SqL E.K H p ys ∧ ∀ l, H l = none → Q (.ref l) (upd H l (.tup ys))) ∨ (SqT E.K H p ys ∧ Q (.ref p) H))) tupO := by
  intro g H ts s vs Q zs rk e q
  match ts, e with
  | [.fz us], e =>
    cases e
    obtain ⟨v, rfl, rv⟩ := rk.one
    obtain ⟨a, xs, rfl, ha, rl⟩ := rv
    exact ⟨a, xs, rfl, .inl ⟨.inl (.inl ha), fx_tup zs rl q⟩⟩
  | [.tup us], e =>
    cases e
    obtain ⟨v, rfl, rv⟩ := rk.one
    obtain ⟨a, xs, rfl, ha, rl⟩ := rv.tup_of
    refine ⟨a, xs, rfl, .inr ⟨sameT zs ha, q g H _ (.inl ⟨rfl, rfl⟩) ?_⟩⟩
    unfold RepT
    exact ⟨a, xs, rfl, ha, rl⟩
theorem x_tuple {p : Pos} {e : Expr} {m : M (List Rdr)} (G : Gd E X) (hm : X.mg "tuple" = none) (ha : OA E X [e] m) (hg : Gl X "tuple" := by rfl)
    (he : starEach [e] X.env = (false, eval e X.env) :: starEach [] X.env := by rfl) (hpl : (backTo pos (starEach [] X.env)).any (·.1) = false := by rfl) : ME E X (.Call (.Name "tuple" p) [e] [] pos) (eCall tupO m) :=
  ⟨PE.mono (pe_callTy call_tuple_of hg hm (by decide +kernel) ha.pa (by decide) (by decide) he hpl) fun _ _ _ q => tCBN_lift (G.K ▸ ln_tup) q⟩
/-! ### a new object of nobody's -/
theorem Rel.outs {st : Stt} {p : Addr} {o : HO} (r : Rel E.K g st σ H) (hp : H p = none) : Rel E.K g st σ (upd H p o) ∧ Stp g g H (upd H p o) := by
  have op : g.own p = .out := r.fr p hp
  have zp : g.Z p = none := r.zs.free hp
  refine ⟨⟨⟨fun b u e => ?_, r.zo, fun b e => ?_, r.n, fun a ob e => ?_⟩, r.len, fun i s v e1 e2 => ?_⟩, ⟨Same.refl _, Nat.le_refl _, fun _ _ => rfl, fun b u h1 h2 => ⟨h1, ?_⟩⟩⟩
  · rw [upd_ne (ne_of_none e zp)]
    exact r.zs b u e
  · by_cases hb : b = p
    · rw [hb]; exact op
    · rw [upd_ne hb] at e
      exact r.fr b e
  · obtain ⟨h1, h2⟩ := r.box a ob e
    have hb : g.ρ a ≠ p := fun z => by rw [z, op] at h1; cases h1
    exact ⟨h1, by rw [upd_ne hb]; exact h2⟩
  · have q := r.slot i s v e1 e2
    cases s with
    | emp => trivial
    | val t => exact q
    | own ob =>
      obtain ⟨p', e, q1, q2⟩ := q
      have hb : p' ≠ p := fun z => by rw [z, op] at q1; cases q1
      exact ⟨p', e, q1, by rw [upd_ne hb]; exact q2⟩
  · rw [upd_ne (ne_of_none h2 hp)]
    exact h2
/-- an object of nobody's is let go -/
def delp (H : Hp) (p : Addr) : Hp := fun b => if b = p then none else H b
theorem delp_same {p : Addr} : delp H p p = none := if_pos rfl
theorem delp_ne {p b : Addr} (h : b ≠ p) : delp H p b = H b := if_neg h
theorem upd_delp {p : Addr} {o : HO} : upd (delp H p) p o = upd H p o := by
  funext b
  by_cases hb : b = p
  · rw [hb, upd_same, upd_same]
  · rw [upd_ne hb, upd_ne hb, delp_ne hb]
theorem Rel.drop {st : Stt} {p : Addr} (r : Rel E.K g st σ H) (op : g.own p = .out) : Rel E.K g st σ (delp H p) := by
  have nz : ∀ b o, g.Z b = some o → b ≠ p := fun b o e z => by
    have := r.zo b o e
    rw [z, op] at this
    cases this
  refine ⟨⟨fun b u e => ?_, r.zo, fun b e => ?_, r.n, fun a ob e => ?_⟩, r.len, fun i s v e1 e2 => ?_⟩
  · rw [delp_ne (nz b u e)]
    exact r.zs b u e
  · by_cases hb : b = p
    · rw [hb]; exact op
    · rw [delp_ne hb] at e
      exact r.fr b e
  · obtain ⟨h1, h2⟩ := r.box a ob e
    have hb : g.ρ a ≠ p := fun z => by rw [z, op] at h1; cases h1
    exact ⟨h1, by rw [delp_ne hb]; exact h2⟩
  · have q := r.slot i s v e1 e2
    cases s with
    | emp => trivial
    | val t => exact q
    | own ob =>
      obtain ⟨p', e, q1, q2⟩ := q
      have hb : p' ≠ p := fun z => by rw [z, op] at q1; cases q1
      exact ⟨p', e, q1, by rw [delp_ne hb]; exact q2⟩
/-! ### isinstance(x, (A, B)) -/
def kitsB (n : String) : List String → Option Bool
  | [] => some false
  | c :: r => match kitB n c with
    | some true => some true
    | some false => kitsB n r
    | none => none
theorem kits_any {K : PySem.W.Frag} {n : String} : ∀ {cs : List String} {b : Bool}, kitsB n cs = some b → PySem.W.kitAny K (.type n) (cs.map Value.type) = some b
  | [], b, h => h
  | c :: r, b, h => by
    unfold kitsB at h
    rw [List.map_cons]
    unfold PySem.W.kitAny
    cases e : kitB n c with
    | none => rw [e] at h; cases h
    | some k =>
      rw [e] at h
      rw [kit_ty e]
      cases k with
      | true => exact h
      | false => exact kits_any h
def eIsT (cs : List String) (m : M Rdr) : M T := do
  let r ← m
  fun st => match r st with
    | some t => (match t.tyOf with
      | some n => (match kitsB n cs with
        | some b => some (.ok (.bl b), st)
        | none => none)
      | none => none)
    | none => none
def TysE (X : Cx) : List Expr → List String → Prop
  | [], [] => True
  | e :: es, c :: cs => PE X e (tC (.ty c)) ∧ TysE X es cs
  | _, _ => False
theorem cls_map : ∀ cs : List String, Paired ClsV (cs.map V.ty) (cs.map Value.type)
  | [] => .nil
  | c :: cs => .cons (.ty c) (cls_map cs)
theorem pe_tyv {x : Str} {n : String} {p : Pos} (hm : X.mg x = none) (hv : bootBuiltins x = some (.type n)) (hg : Gl X x := by rfl) (hn : x ≠ "__name__" := by decide) (hd : (x == ("__debug__" : Str)) = false := by decide) : PE X (.Name x p) (tC (.ty n)) := pe_bltn (v := .ty n) hg hm hv rfl hn hd
theorem x_isT2 {p : Pos} {e a b : Expr} {ca cb : String} {k : Nat} {tp : Pos} {m : M Rdr} (G : Gd E X) (hm : X.mg "isinstance" = none) (he : OE E X e m) (h1 : PE X a (tC (.ty ca))) (h2 : PE X b (tC (.ty cb))) (hg : Gl X "isinstance" := by rfl)
    (hs : starEach [e, .Tuple [a, b] k tp] X.env = (false, eval e X.env) :: starEach [.Tuple [a, b] k tp] X.env := by rfl) (hpl : (backTo pos (starEach [.Tuple [a, b] k tp] X.env)).any (·.1) = false := by rfl)
    (hs2 : starEach [.Tuple [a, b] k tp] X.env = (false, eval (.Tuple [a, b] k tp) X.env) :: starEach [] X.env := by rfl)
    (hs3 : starEach [a, b] X.env = (false, eval a X.env) :: starEach [b] X.env := by rfl) (hs4 : starEach [b] X.env = (false, eval b X.env) :: starEach [] X.env := by rfl) :
    ME E X (.Call (.Name "isinstance" p) [e, .Tuple [a, b] k tp] [] pos) (eIsT [ca, cb] m) :=
  ⟨PE.mono (pe_callB call_isiT hg hm (by decide +kernel) (pa_cons he.pe (pa_cons (pe_tup (pa_cons h1 (pa_cons h2 pa_nil hs4) hs3)) pa_nil hs2) hs) (by decide) (by decide) hs hpl) fun σ H Q ⟨g, q⟩ => seqO st_okT q fun rd v g1 H1 s1 rr h1 => by
    refine ⟨by rw [sizeLine_eq]; simp, fun tq htq => ?_⟩
    obtain ⟨st, r, z⟩ := h1
    unfold run at z
    cases er : rd st with
    | none => simp only [er] at z
    | some t =>
      simp only [er] at z
      cases en : t.tyOf with
      | none => simp only [en] at z
      | some n =>
        simp only [en] at z
        cases ek : kitsB n [ca, cb] with
        | none => simp only [ek] at z
        | some bb =>
          simp only [ek] at z
          obtain ⟨r2, s2⟩ := r.outs (o := .tup [.ty ca, .ty cb]) htq
          have rk := rr g1 st _ t r2 s2 er
          exact ⟨v, tq, _, _, _, bb, rfl, upd_same, cls_map [ca, cb], G.K ▸ rk.tyx r2.zs en, kits_any ek, z _ _ r2 s2 _ (rt_bl _)⟩⟩
end
end Sw
namespace Sw
open PySem PySem.Spec PyProof.Rows L2
open Classical
section
variable {E : Ev} {g g1 : Gh} {H H1 : Hp} {σ : L2.St} {X : Cx} {pos : Pos}
/-! ### a dict display -/
def prs : List V → List (V × V)
  | x :: y :: r => (x, y) :: prs r
  | _ => []
def dctOf : List T → List T → List T → Option Ob
  | [], ks, vs => some (.dct ks vs)
  | k :: v :: r, ks, vs => if isKey k then (match putD ks vs k v with
    | .dct a b => dctOf r a b
    | _ => none) else none
  | [_], _, _ => none
theorem dctOf_rep {K : PySem.W.Frag} : ∀ (n : Nat) {ts ks vs : List T} {xs : List V} {acc : List (Key × V)} {ob : Ob}, ts.length = n → RepL K g ts xs → dctOf ts ks vs = some ob → ks.map keyOf = acc.map (fun p => some p.1) → RepL K g vs (acc.map (·.2)) →
    ∃ kvs : List (Key × V), prs xs = kvs.map (fun kv => (kV kv.1, kv.2)) ∧ 2 * kvs.length = ts.length ∧ RepO K g ob (some (.dK (mergeK acc kvs))) := by
  intro n
  induction n using Nat.strongRecOn with
  | ind n ih =>
    intro ts ks vs xs acc ob hn hx hd e1 e2
    match ts, hd with
    | [], hd =>
      unfold RepL at hx
      subst hx
      cases hd
      exact ⟨[], rfl, rfl, ⟨_, rfl, e1, e2⟩⟩
    | [_], hd => cases hd
    | k :: v :: r, hd =>
      unfold RepL at hx
      obtain ⟨x, r1, rfl, hk, hx⟩ := hx
      unfold RepL at hx
      obtain ⟨y, r2, rfl, hv, hx⟩ := hx
      unfold dctOf at hd
      split at hd
      · rename_i ik
        obtain ⟨kq, ek⟩ := isKey_of ik
        have hxk : x = kV kq := by
          cases k <;> simp only [keyOf] at ek <;> try contradiction
          all_goals (cases ek; unfold RepT at hk; exact hk)
        have pr := putD_rep ek hv e1 e2
        cases ep : putD ks vs k v with
        | dct a b =>
          rw [ep] at hd pr
          obtain ⟨kvs', ez, f1, f2⟩ := pr
          cases ez
          obtain ⟨kvs, q1, q2, q3⟩ := ih r.length (by simp at hn; omega) rfl hx hd f1 f2
          refine ⟨(kq, y) :: kvs, ?_, ?_, q3⟩
          · unfold prs
            rw [List.map_cons, q1, hxk]
          · simp only [List.length_cons]; omega
        | lst l => rw [ep] at hd; cases hd
        | dead => rw [ep] at hd; cases hd
      · cases hd
structure DP (E : Ev) (X : Cx) (pos : Pos) (keys : List (Option Expr)) (values : List Expr) (m : M (List T)) : Prop where
  ex : ∃ trs, PPs X pos keys values trs ∧ ∀ g σ H (Q : List (V × V) → Hp → Prop), at_ E m g σ H (okL E g H σ fun vs H2 => Q (prs vs) H2) → tPairs trs σ H Q
theorem dp_nil : DP E X pos [] [] aNil := ⟨[], pps_nil, fun g σ H Q q => by
  obtain ⟨st, r, z⟩ := at_pure q
  exact z g H r (Stp.refl _ _) [] (by unfold RepL; rfl)⟩
def dCons (mk mv : M T) (m : M (List T)) : M (List T) := do
  let k ← mk
  let v ← mv
  let ts ← m
  pure (k :: v :: ts)
theorem dp_cons {k v : Expr} {ks : List (Option Expr)} {vs : List Expr} {mk mv : M T} {m : M (List T)} (hk : ME E X k mk) (hv : ME E X v mv) (hr : DP E X pos ks vs m) : DP E X pos (some k :: ks) (v :: vs) (dCons mk mv m) := by
  obtain ⟨trs, pp, f⟩ := hr.ex
  refine ⟨_, pps_cons hk.pe hv.pe pp, fun g σ H Q q => ?_⟩
  exact seqT st_okL q fun tk x g1 H1 s1 rk h1 => seqT st_okL h1 fun tv y g2 H2 s2 rv h2 => f g2 σ H2 _ (seq_any st_okL h2 fun ts st1 q g3 H3 r3 s3 vs rl => by
    obtain ⟨st, r, z⟩ := at_pure (q g3 H3 r3 s3)
    refine z g3 H3 r (Stp.refl _ _) (x :: y :: vs) ?_
    unfold RepL
    refine ⟨x, _, rfl, (rk.step s2).step s3, ?_⟩
    unfold RepL
    exact ⟨y, vs, rfl, rv.step s3, rl⟩)
def fDisp (m : M (List T)) : M Ob := do
  let ts ← m
  fun st => if ts.length ≤ 30 then (match dctOf ts [] [] with
    | some ob => some (.ok ob, st)
    | none => none) else none
theorem fe_disp {keys : List (Option Expr)} {values : List Expr} {m : M (List T)} (h : DP E X pos keys values m) (hall : keys.all (·.isSome) = true := by rfl) (hl : keys.length = values.length := by rfl) (h0 : keys ≠ [] := by exact List.cons_ne_nil _ _)
    (h15 : keys.length ≤ 15 := by decide) : FE E X (.Dict keys values pos) (fDisp m) := by
  obtain ⟨trs, pp, f⟩ := h.ex
  refine ⟨PE.mono (pe_disp pp hall hl h0 h15) fun σ H Q ⟨g, q⟩ p hp => ?_⟩
  have q1 : at_ E (fDisp m) g σ (upd H p (.dK [])) (okF E g H σ Q) := by
    obtain ⟨st, r, z⟩ := q
    obtain ⟨r2, s2⟩ := r.outs (o := .dK []) hp
    exact ⟨st, r2, run_mono z (fun _ _ y => y) fun _ _ y => exW.step s2 y⟩
  have op : g.own p = .out := by
    obtain ⟨st, r, _⟩ := q
    exact r.fr p hp
  refine f g σ _ _ ?_
  have q2 := q1
  unfold fDisp at q2
  refine at_bind q2 fun ts st1 q3 g1 H1 r1 s1 vs rl => ?_
  obtain ⟨op1, hp1⟩ := s1.out p _ op upd_same
  refine ⟨hp1, ?_⟩
  obtain ⟨st, r, z⟩ := q3 g1 H1 r1 s1
  unfold run at z
  by_cases hz : ts.length ≤ 30
  · simp only [if_pos hz] at z
    cases ed : dctOf ts [] [] with
    | none => simp only [ed] at z
    | some ob =>
      simp only [ed] at z
      obtain ⟨kvs, e1, e2, e3⟩ := dctOf_rep _ rfl rl ed (acc := []) rfl (by unfold RepL; rfl)
      refine ⟨kvs, e1, by omega, ?_⟩
      have z := z g1 (delp H1 p) (r.drop op1) ⟨s1.z, s1.n, s1.ρ, fun a o h1 h2 => ?_⟩ p _ delp_same e3
      · rw [upd_delp] at z
        exact z
      · have hb : a ≠ p := ne_of_none h2 hp
        obtain ⟨i1, i2⟩ := s1.out a o h1 (by rw [upd_ne hb]; exact h2)
        exact ⟨i1, by rw [delp_ne hb]; exact i2⟩
  · simp only [if_neg hz] at z
end
end Sw
namespace Sw
open PySem PySem.Spec PyProof.Rows L2
open Classical
section
variable {E : Ev} {g g1 : Gh} {H H1 : Hp} {σ : L2.St} {X : Cx} {pos : Pos}
/-! ### d.get(k, x) -/
def isDc (r : Rdr) : M Unit := fun st => match r st with
  | some (.dic _ _) => some (.ok (), st)
  | _ => none
def getO (t k d : T) : Option T := match t with
  | .dic ks vs => if isKey k then some ((lookD ks vs k).getD d) else none
  | _ => none
def eDGet (m : M Rdr) (mk md : M T) : M T := do
  let r ← m
  isDc r
  let k ← mk
  let d ← md
  fun st => match r st with
    | some t => ofO (getO t k d) st
    | none => none
theorem at_isDc {β : Type} {rd : Rdr} {v : V} {f : Unit → M β} {Φ : β → Stt → Prop} (h : at_ E (isDc rd >>= f) g σ H Φ) (pk : Reads E g H σ rd v) : (∃ a kvs, v = .ref a ∧ H a = some (.dK kvs)) ∧ at_ E (f ()) g σ H Φ := by
  obtain ⟨st, r, q⟩ := h
  have q := run_bind q
  unfold run isDc at q
  cases e : rd st with
  | none => simp only [e] at q
  | some t =>
    cases t <;> simp only [e] at q
    obtain ⟨a, kvs, e1, e2, _⟩ := (pk g st H _ r (Stp.refl _ _) e).dic_of
    exact ⟨⟨a, kvs, e1, e2⟩, st, r, q⟩
theorem x_dget {o k d : Expr} {apos cpos : Pos} {m : M Rdr} {mk md : M T} (G : Gd E X) (ho : OE E X o m) (hk : ME E X k mk) (hd : ME E X d md)
    (hb : attributeBase o "get" X.env (eval o X.env) = eval o X.env := by rfl)
    (hf : ((backTo cpos (starEach [k, d] X.env)).all (fun x => !x.1) && (backToKw cpos (keywordEach [] X.env)).all (fun x => x.1.isSome)
      && decide (([k, d] : List Expr).length + ([] : List Keyword).length + (if ([] : List Keyword).isEmpty then 0 else 1) < 30)) = true := by rfl)
    (hl : (apos.endLine == cpos.line) = true := by rfl) (ht : backTo cpos (starEach [k, d] X.env) = [(false, eval k X.env), (false, eval d X.env)] := by rfl) :
    ME E X (.Call (.Attribute o "get" apos) [k, d] [] cpos) (eDGet m mk md) :=
  ⟨PE.mono (pe_dget2 (by have := G.hu; omega) ho.pe hk.pe hd.pe ⟨hb, hf, hl, ht⟩) fun σ H Q ⟨g, q⟩ => seqO st_okT q fun rd v g1 H1 s1 rr h1 => by
    obtain ⟨⟨a, kvs, rfl, ha⟩, h2⟩ := at_isDc h1 rr
    refine ⟨a, rfl, .inl ⟨kvs, .inl ha⟩, seqT st_okT h2 fun tk y g2 H2 s2 rk h3 => seqT st_okT h3 fun td z g3 H3 s3 rd' h4 => ?_⟩
    obtain ⟨t, rt, h5⟩ := at_rd1 h4 ((rr.step s2).step s3)
    obtain ⟨s, st, e, r', fin⟩ := at_ofO h5
    cases t <;> simp only [getO] at e <;> try contradiction
    rename_i ks vs
    split at e
    · rename_i ik
      obtain ⟨kq, ek⟩ := isKey_of ik
      obtain ⟨b, kvs', eb, hb', hks, rl⟩ := rt.dic_of
      cases eb
      have hv := (RepT.k r'.zs (rk.step s3)).key ek
      obtain ⟨l1, l2⟩ := lookD_val ek hks rl
      refine ⟨valV kvs' kq, by rw [hv]; exact DGet.k hb', ?_⟩
      cases el : lookD ks vs tk with
      | none =>
        rw [el] at e
        cases e
        rw [l2 el]
        exact fin g3 H3 r' (Stp.refl _ _) z rd'
      | some u =>
        rw [el] at e
        cases e
        obtain ⟨x, ex, rx⟩ := l1 u el
        rw [ex]
        exact fin g3 H3 r' (Stp.refl _ _) x rx
    · cases e⟩
/-! ### .get of a written dict of the module -/
/-- p: a written dict of the module with text keys, its keys and values -/
structure KTab (K : PySem.W.Frag) (w : World) (p : Addr) (kvs : List (Str × V)) : Prop where
  at_ : ∃ es n, K.lookup p = some ⟨.type "dict", none, .dict es n, #[]⟩ ∧ PySem.W.KeysLit w.params es.toList
  low : (p == sysModules) = false
  there : ∀ z v, (z, v) ∈ kvs → ∃ u, PySem.W.nsIn K p z = some (some u) ∧ RelV v u
  miss : ∀ z, z ∉ kvs.map (·.1) → PySem.W.nsIn K p z = some none
def tKGet (kvs : List (Str × V)) (tk td : TE) : TE := fun σ H Q => tk σ H fun y H2 => td σ H2 fun d H3 => ∃ (z : Str), y = .str z ∧
  ((∃ v, (z, v) ∈ kvs ∧ Q v H3) ∨ (z ∉ kvs.map (·.1) ∧ Q d H3))
theorem pe_kget {o k d : Expr} {p : Addr} {kvs : List (Str × V)} {apos cpos : Pos} {tk td : TE} (ho : PE X o (tC (.ref p))) (hk : PE X k tk) (hd : PE X d td) (m : M2 X o "get" apos k d cpos) (hp : KTab X.K X.w p kvs) :
    PE X (.Call (.Attribute o "get" apos) [k, d] [] cpos) (tKGet kvs tk td) := by
  refine ⟨fun pins s σ H Q I h => ?_⟩
  have h0 : tC (.ref p) σ H (fun x H1 => x = .ref p ∧ H1 = H) := ⟨rfl, rfl⟩
  refine wpAny_Call_method m.base m.few m.line PySem.F.plainAttrs_dict PySem.F.slot_dict_get PySem.F.type_dict_get (thn (ho.run pins s σ H _ I h0) fun u s1 ⟨x, H1, I1, rx, ex, eh⟩ => ?_)
  subst ex
  subst eh
  obtain rfl : u = Value.ref p := rx
  obtain ⟨es, n, hl, hkl⟩ := hp.at_
  have hm := PySem.W.mapOf_K (prog := X.prog) (w := X.w) I1.kIn hl hkl
  refine ⟨hm.typeIs, fun b q => ?_, ?_⟩
  · cases q
    exact ⟨_, I1.kIn _ _ hl, rfl⟩
  rw [m.trees]
  refine Calls.callWith_builtin rfl (Calls.evalArgs_plain (Calls.spliced_cons (thn (hk.run pins s1 σ H1 _ I1 h) fun iv s2 ⟨y, H2, I2, ry, q2⟩ =>
    Calls.spliced_cons (thn (hd.run pins s2 σ H2 _ I2 q2) fun fv s3 ⟨d', H3, I3, rz, q3⟩ => Calls.spliced_nil ?_))))
  obtain ⟨z, ey, q3⟩ := q3
  subst ey
  obtain ⟨t, rfl⟩ := (show ∃ t, iv = Value.str z t from ry)
  have hm3 := PySem.W.mapOf_K (prog := X.prog) (w := X.w) I3.kIn hl hkl
  refine call_meetsIn PySem.F.slot_dict_get hm3.typeIs PySem.F.entry_dict_get (PySem.F.args_dict_get_3 _ _ _) (meets_dict_get_default (strKind X.prog X.w) p (strKind_is X.prog X.w z t) hp.low fv) ⟨_, hm3, ?_⟩
  rcases q3 with ⟨v, hv, q⟩ | ⟨hv, q⟩
  · obtain ⟨u0, e, r⟩ := hp.there z v hv
    rw [PySem.W.find_K hl e]
    exact ⟨v, H3, I3.tok _, r, q⟩
  · rw [PySem.W.find_K hl (hp.miss z hv)]
    exact ⟨d', H3, I3.tok _, rz, q⟩
/-- the table as it is read here: its keys as codes -/
def tabO (kvs : List (List Nat × T)) (k d : T) : Option T := match k with
  | .str z => some (match kvs.find? fun q => q.1 == z with
    | some q => q.2
    | none => d)
  | _ => none
def eKGet (kvs : List (List Nat × T)) (mk md : M T) : M T := do
  let k ← mk
  let d ← md
  ofO (tabO kvs k d)
theorem sS_ne {x y : List Nat} (h : x ≠ y) : sS x ≠ sS y := fun e => by
  have h2 := sS_eq (x := x) (y := y)
  rw [e, beq_self_eq_true] at h2
  exact h (beq_iff_eq.mp h2.symm)
theorem tab_at {K : PySem.W.Frag} {zz : List Nat} : ∀ {kvs : List (List Nat × T)} {tab : List (Str × V)}, Paired (fun (q : List Nat × T) (r : Str × V) => r.1 = sS q.1 ∧ ∀ g, RepT K g q.2 r.2) kvs tab →
    (∀ q, kvs.find? (fun q => q.1 == zz) = some q → ∃ v, (sS zz, v) ∈ tab ∧ ∀ g, RepT K g q.2 v) ∧ (kvs.find? (fun q => q.1 == zz) = none → sS zz ∉ tab.map (·.1))
  | [], _, h => by cases h; exact ⟨fun q h => (by cases h), fun _ => (by simp)⟩
  | q :: qs, _, .cons (b := r) h t => by
    have ih := tab_at (zz := zz) t
    by_cases hz : q.1 = zz
    · have e : (q :: qs).find? (fun q => q.1 == zz) = some q := List.find?_cons_of_pos (p := fun q : List Nat × T => q.1 == zz) (by simp [hz])
      rw [e]
      refine ⟨fun q' h' => ?_, fun h' => by cases h'⟩
      cases h'
      have e2 : r.1 = sS zz := by rw [h.1, hz]
      exact ⟨r.2, by rw [← e2]; exact List.mem_cons_self, h.2⟩
    · have e : (q :: qs).find? (fun q => q.1 == zz) = qs.find? (fun q => q.1 == zz) := List.find?_cons_of_neg (p := fun q : List Nat × T => q.1 == zz) (by simp [hz])
      rw [e]
      refine ⟨fun q' h' => ?_, fun h' => ?_⟩
      · obtain ⟨v, hv, hr'⟩ := ih.1 q' h'
        exact ⟨v, List.mem_cons_of_mem _ hv, hr'⟩
      · rw [List.map_cons, List.mem_cons, not_or]
        exact ⟨fun e => sS_ne hz (by rw [h.1] at e; exact e.symm), ih.2 h'⟩
theorem x_kget {x : Str} {p : Pos} {k d : Expr} {a : Addr} {kvs : List (List Nat × T)} {tab : List (Str × V)} {apos cpos : Pos} {mk md : M T} (hm : X.mg x = some (.ref a)) (hp : KTab X.K X.w a tab)
    (hr : Paired (fun (q : List Nat × T) (r : Str × V) => r.1 = sS q.1 ∧ ∀ g, RepT E.K g q.2 r.2) kvs tab) (hk : ME E X k mk) (hd : ME E X d md) (hg : Gl X x := by rfl) (hdb : (x == ("__debug__" : Str)) = false := by decide)
    (hb : attributeBase (.Name x p) "get" X.env (eval (.Name x p) X.env) = eval (.Name x p) X.env := by rfl)
    (hf : ((backTo cpos (starEach [k, d] X.env)).all (fun x => !x.1) && (backToKw cpos (keywordEach [] X.env)).all (fun x => x.1.isSome)
      && decide (([k, d] : List Expr).length + ([] : List Keyword).length + (if ([] : List Keyword).isEmpty then 0 else 1) < 30)) = true := by rfl)
    (hl : (apos.endLine == cpos.line) = true := by rfl) (ht : backTo cpos (starEach [k, d] X.env) = [(false, eval k X.env), (false, eval d X.env)] := by rfl) :
    ME E X (.Call (.Attribute (.Name x p) "get" apos) [k, d] [] cpos) (eKGet kvs mk md) :=
  ⟨PE.mono (pe_kget (pe_glob (v := .ref a) hg hm rfl hdb) hk.pe hd.pe ⟨hb, hf, hl, ht⟩ hp) fun σ H Q ⟨g, q⟩ => seqT st_okT q fun tk y g2 H2 s2 rk h3 => seqT st_okT h3 fun td z g3 H3 s3 rd' h4 => by
    obtain ⟨s, st, e, r', fin⟩ := at_ofO h4
    cases tk <;> simp only [tabO] at e <;> try contradiction
    rename_i zz
    have hy : y = .str (sS zz) := by unfold RepT at rk; exact rk
    refine ⟨sS zz, hy, ?_⟩
    obtain ⟨k1, k2⟩ := tab_at (zz := zz) hr
    cases ef : kvs.find? (fun q => q.1 == zz) with
    | none =>
      rw [ef] at e
      cases e
      exact .inr ⟨k2 ef, fin g3 H3 r' (Stp.refl _ _) z rd'⟩
    | some q' =>
      rw [ef] at e
      cases e
      obtain ⟨v, hv, rv⟩ := k1 q' ef
      exact .inl ⟨v, hv, fin g3 H3 r' (Stp.refl _ _) v (rv g3)⟩⟩
end
end Sw
namespace Sw
open PySem PySem.Spec PyProof.Rows L2
open Classical
/-! ### constants of the module -/
def ksB (K : PySem.W.Frag) (a : Addr) (ks : List Str) : Bool := match K.lookup a with
  | some ⟨_, _, .dict es _, _⟩ => decide (es.toList.map (fun e => match e.key with
    | .str x _ => some x
    | _ => none) = ks.map some)
  | _ => false
theorem no_key {z : Str} : ∀ {es : List DictEntry} {ks : List Str}, es.map (fun e => match e.key with
    | .str x _ => some x
    | _ => none) = ks.map some → z ∉ ks → es.find? (·.key.isStr z) = none ∧ es.any (·.refKey) = false
  | [], _, _, _ => ⟨rfl, rfl⟩
  | e :: r, [], h, _ => by cases h
  | e :: r, k :: ks, h, hz => by
    rw [List.map_cons, List.map_cons] at h
    injection h with h1 h2
    rw [List.mem_cons, not_or] at hz
    obtain ⟨i1, i2⟩ := no_key h2 hz.2
    obtain ⟨hs, key, val⟩ := e
    cases key with
    | str x t =>
      have ex : x = k := Option.some.inj h1
      have hb : (x == z) = false := beq_eq_false_iff_ne.mpr fun e => hz.1 (by rw [← e, ex])
      refine ⟨?_, ?_⟩
      · rw [List.find?_cons_of_neg (p := fun e : DictEntry => e.key.isStr z) (by show ¬ (x == z) = true; rw [hb]; exact Bool.false_ne_true)]
        exact i1
      · rw [List.any_cons, i2]
        rfl
    | _ => cases h1
theorem ktab_of {K : PySem.W.Frag} {w : World} {p : Addr} {kvs : List (Str × He.Dv)} (D : ∃ es n, KDict K w p es n) (h1 : He.valsB K p kvs = true) (h2 : ksB K p (kvs.map (·.1)) = true) : KTab K w p (kvs.map fun q => (q.1, q.2.v K)) := by
  obtain ⟨es, n, d⟩ := D
  refine ⟨⟨es, n, d.at_, d.lit⟩, d.low, fun z v hm => ?_, fun z hz => ?_⟩
  · obtain ⟨q, hq, e⟩ := List.mem_map.mp hm
    cases e
    exact He.valsB_ok h1 hq
  · unfold ksB at h2
    rw [d.at_] at h2
    have e2 := of_decide_eq_true h2
    rw [List.map_map] at hz
    obtain ⟨i1, i2⟩ := no_key (z := z) e2 (by
      intro hm
      obtain ⟨q, hq, e⟩ := List.mem_map.mp hm
      exact hz (List.mem_map.mpr ⟨q, hq, e⟩))
    unfold PySem.W.nsIn
    rw [d.at_]
    show (match es.toList.find? (·.key.isStr z) with
      | some e => some (some e.val)
      | none => if es.toList.any (·.refKey) then none else some none) = _
    rw [i1, i2]
    rfl
theorem rt_tupc {K : PySem.W.Frag} {x : Str} {dvs : List He.Dv} {ts : List T} (h : He.tupB K x dvs = true) (r : ∀ g, RepL K g ts (dvs.map (He.Dv.v K))) : ∀ g, RepT K g (.tup ts) (.ref (He.ga K x)) := fun g => by
  unfold RepT
  exact ⟨_, _, rfl, He.tupB_ok h g.Z, r g⟩
theorem rl_strs {K : PySem.W.Frag} {g : Gh} : ∀ {zs : List (List Nat)} {xs : List Str}, xs = zs.map sS → RepL K g (zs.map .str) ((xs.map He.Dv.str).map (He.Dv.v K))
  | [], _, h => by subst h; unfold RepL; rfl
  | z :: zs, _, h => by
    subst h
    show RepL K g (.str z :: zs.map .str) _
    unfold RepL
    exact ⟨.str (sS z), _, rfl, rt_str _, rl_strs rfl⟩
theorem tab_rep {K : PySem.W.Frag} : ∀ {zs : List (List Nat × Int)} {xs : List (Str × Int)}, xs = zs.map (fun q => (sS q.1, q.2)) →
    Paired (fun (q : List Nat × T) (r : Str × V) => r.1 = sS q.1 ∧ ∀ g, RepT K g q.2 r.2) (zs.map fun q => (q.1, .int q.2)) ((xs.map fun q => (q.1, He.Dv.int q.2)).map fun q => (q.1, q.2.v K))
  | [], _, h => by subst h; exact .nil
  | z :: zs, _, h => by
    subst h
    exact .cons ⟨rfl, fun g => rt_int _⟩ (tab_rep rfl)
end Sw
namespace Sw
open PySem PySem.Spec PyProof.Rows L2
/-! ### enumerate of a tuple -/
set_option maxHeartbeats 1000000 in
theorem enum_newB {v : Value} {ob : Obj} {K : Heap → Prop} (B : Begins v ob K) :
    Meets (Builtin.«enumerate.__new__» ⟨[.type "enumerate", v], []⟩) (fun _ R s => K s.heap ∧ R (.ok (.ret (.ref (s.heap.push ob).objs.size))) { s with heap := (s.heap.push ob).push { cls := .type "enumerate", data := .fields #[.none, .bool false, .ref s.heap.objs.size, rawInt 0, .none, .none] } }) :=
  .of_wp fun prog w A R s hh => by
    obtain ⟨hp, g, d, tk, os⟩ := s
    obtain ⟨b1, b2⟩ := hh
    have b3 := sub_enumerate
    have b4 : ∀ {A' : Around} {E : Value → Shared → Prop} {Q : Value → Shared → Prop}, Q (.ref hp.objs.size) ⟨hp.push ob, g, d, tk, os⟩ → wpAny (model prog w) A' (pyIter v) Q E ⟨hp, g, d, tk, os⟩ := fun q =>
      B.iter prog w _ _ ⟨hp, g, d, tk, os⟩ _ b1 q
    wp_walk using b4
    refine wpAny_stack_any fun _ => wpAny_pure ?_
    split
    · rename_i c _ _ _ _ _
      cases (c == Value.type "enumerate") <;> (wp_walk using b4; exact ⟨_, rfl, b2⟩)
    · wp_walk using b4
      exact ⟨_, rfl, b2⟩
/-- the tuple at a, each item in a new pair -/
def IteT (K : PySem.W.Frag) (a : Addr) : It :=
  ⟨fun i H => ∃ (xs : List V) (x : V), SqT K H a xs ∧ xs[i]? = some x, fun i H v H' => ∃ T x, v = .ref T ∧ H T = none ∧ H' = upd H T (.tup [.int (i : Nat), x]) ∧ ∀ ys, SqT K H a ys → ys[i]? = some x, fun i H => ∃ zs : List V, SqT K H a zs ∧ zs.length = i⟩
theorem enumT_turn {P : Program} {w : World} {K : PySem.W.Frag} {elts : List Expr} {kk : Nat} {tp : Pos} {a e it : Addr} (d1 : e ≠ it) (d2 : a ≠ it) (d3 : e ≠ a) :
    Turn P w K (.Tuple elts kk tp) (IteT K a) [e, it] e (fun i h => (∃ old, IsEnum h e it ((i : Nat) : Int) old) ∧ h.IsTupleIter it a i) where
  mem := List.mem_cons_self
  obj := fun i h st b hb => by
    obtain ⟨⟨old, e1⟩, ⟨ob, e2, _, e3⟩⟩ := st
    rcases List.mem_cons.mp hb with z | z
    · subst z; exact ⟨_, e1, fun v q => (nomatch q)⟩
    · rw [List.mem_singleton.mp z]; exact ⟨ob, e2, fun v q => by rw [e3] at q; cases q⟩
  keep := fun i h h' st k => ⟨st.1.imp fun old e1 => k e List.mem_cons_self _ e1, st.2.at fun ob q => k it (by simp) ob q⟩
  item := by
    rintro X rfl rfl rfl hc i pins s σ H E I hf ⟨⟨old, e1⟩, e2⟩ ⟨xs, x, hq, hx⟩
    obtain ⟨its, rv, p, _⟩ := I.tuple hq
    obtain ⟨u, hu, ru⟩ := rv.get hx
    have l1 : e < s.heap.objs.size := Heap.lt_size e1
    have l2 : it < s.heap.objs.size := by obtain ⟨_, q, _⟩ := e2; exact Heap.lt_size q
    have D := Draws.tuple (prog := X.prog) (w := X.w) (A := X.A.in1) (I.ok.hd hc) it a d2 its.toArray
    have hi : i < its.toArray.size := by
      have := (List.getElem?_eq_some_iff.mp hu).1
      simpa using this
    refine wpAny_pyNext_enum_itemC (i := i) (c := ((i : Nat) : Int)) D e1 ⟨e2, p⟩ hi d1 (by simp [d1, d3]) fun y h' tk hy ho st' hT hsz hk => ?_
    have ey : y = u := by
      have hy : its.toArray[i]? = some y := hy
      have : its[i]? = some y := by simpa using hy
      rw [hu] at this
      exact (Option.some.inj this).symm
    subst ey
    refine ⟨_, rfl, wpAny_letOwnedTupleGo_enum (s := { s with heap := h', toks := tk + 1 }) ho fun h2 he2 sb => ?_⟩
    have hT2 : h2.get? s.heap.objs.size = some { cls := .type "tuple", data := .seq #[.int i tk, y] } := (sb.2 _ (Nat.ne_of_gt l1)).trans hT
    have I1 : Inv X pins σ (upd H s.heap.objs.size (.tup [.int (i : Nat), x])) { s with heap := h2, toks := tk + 1 } :=
      I.turnedNew (ch := [e, it]) (fun b ob hb q => (sb.2 b fun z => hb (by rw [z]; exact List.mem_cons_self)).trans (hk b ob (fun z => hb (by rw [z]; exact List.mem_cons_self)) (fun z => hb (by rw [z]; simp)) q)) hf (Nat.le_refl _)
        ⟨by show 2 ≤ sizeLine; decide, [.int i tk, y], .cons ⟨_, rfl⟩ (.cons ru .nil), ⟨_, hT2, rfl, _, rfl⟩⟩
    refine ⟨.ref s.heap.objs.size, _, I1, rfl, ⟨_, x, rfl, I.hok.fresh (Nat.le_refl _), rfl, fun ys hy => by rw [I.tuple_inj hy hq]; exact hx⟩, ⟨⟨y, ?_⟩, st'.1.at fun ob q => (sb.2 it (Ne.symm d1)).trans q⟩, fun b hb => ?_⟩
    · rw [show ((i + 1 : Nat) : Int) = (i : Int) + 1 by omega]
      exact he2
    · have hb' : b < s.heap.objs.size := by
        rcases List.mem_cons.mp hb with z | z
        · rw [z]; exact l1
        · rw [List.mem_singleton.mp z]; exact l2
      rw [upd_ne (Nat.ne_of_lt hb')]
      exact (hf b hb).1
  done := by
    rintro X rfl rfl rfl hc i pins s σ H E I hf ⟨⟨old, e1⟩, e2⟩ ⟨zs, hq, hx⟩
    obtain ⟨its, rv, p, _⟩ := I.tuple hq
    obtain ⟨f0, f1, f2, f3, f4, f5⟩ := hf it (by simp)
    have hl := rv.length
    have D := Draws.tuple (prog := X.prog) (w := X.w) (A := X.A.in1) (I.ok.hd hc) it a d2 its.toArray
    have ez : its.toArray.size = i := by
      simp
      omega
    refine wpAny_pyNext_enum_endD D e1 (by rw [ez]; exact ⟨e2, p⟩) fun h' eb => ⟨rfl, I.turned (t' := s.toks) (fun b ob hb q => eb b ob hb q) f0 f1 f3 f4 f5⟩
  self := fun A i s Q E st h => by
    obtain ⟨⟨_, e1⟩, _⟩ := st
    exact wpAny_pyIter_enum e1 h
def iEnT (K : PySem.W.Frag) (ta : TA) : TI := fun σ H R => ta σ H fun vs H1 => ∃ a, vs = [.ref a] ∧ ((∃ xs, SqL K H1 a xs ∧ R (Ite K a) H1) ∨ ∃ xs, SqT K H1 a xs ∧ R (IteT K a) H1)
theorem pi_enT {X : Cx} {e : Expr} {ta : TA} {p pos tpos : Pos} {elts : List Expr} {kk : Nat} (hg : Gl X "enumerate") (hm : X.mg "enumerate" = none) (ha : PA X [e] ta) (hs : starEach [e] X.env = [(false, eval e X.env)] := by rfl) :
    PI X (.Tuple elts kk tpos) (.Call (.Name "enumerate" p) [e] [] pos) (iEnT X.K ta) := by
  refine ⟨fun pins s σ H R I h => Call_ (ld_blt I hg hm boot_enumerate (PyProof.Rows.callWith_type1 (thn (ha.run pos pins s σ H _ I h) fun us s1 ⟨vs, H1, I1, r1, q1⟩ => ?_) hs rfl))⟩
  obtain ⟨a, ex, q⟩ := q1
  subst ex
  cases r1 with
  | cons r rr =>
    cases rr
    cases r
    have fp : ∀ b ∈ [s1.heap.objs.size + 1, s1.heap.objs.size], FpOk X pins H1 b := fun b hb => by
      have hle : s1.heap.objs.size ≤ b := by
        rcases List.mem_cons.mp hb with z | z
        · rw [z]; exact Nat.le_succ _
        · rw [List.mem_singleton.mp z]; exact Nat.le_refl _
      exact I1.fpOk hle (I1.hok.fresh hle)
    rcases q with ⟨xs, hq, q⟩ | ⟨xs, hq, q⟩
    · obtain ⟨its, rv, p', _⟩ := I1.list hq
      exact call_enumerate_list p'.isList fun h' he hit hsz hk => wpAny_pyIter_enum he ⟨_, _, _, _, H1, rfl, I1.kept (t' := s1.toks) hk, turn_enum a (s1.heap.objs.size + 1) s1.heap.objs.size, ⟨⟨.none, he⟩, hit, Nat.succ_ne_self _⟩, fp, q⟩
    · obtain ⟨its, rv, p', _⟩ := I1.tuple hq
      have la : a < s1.heap.objs.size := by obtain ⟨_, q, _⟩ := p'; exact Heap.lt_size q
      refine callType_new F.called_enumerate (by decide) (F.typeCall_enumerate_1 _) (F.newCall_enumerate_1 _) (fun z => F.args_object_init_2 z _) F.entry_enumerate_new (enum_newB (begins_tuple a its.toArray)) ⟨p', ?_⟩
      have hz : (s1.heap.push { cls := .type "tuple_iterator", data := .fields #[.ref a, .int 0 0] }).objs.size = s1.heap.objs.size + 1 := Heap.size_push ..
      show _ ∧ _
      rw [hz]
      have he : IsEnum ((s1.heap.push { cls := .type "tuple_iterator", data := .fields #[.ref a, .int 0 0] }).push { cls := .type "enumerate", data := .fields #[.none, .bool false, .ref s1.heap.objs.size, rawInt 0, .none, .none] }) (s1.heap.objs.size + 1) s1.heap.objs.size 0 .none := by
        have := Heap.get?_push_size (s1.heap.push { cls := .type "tuple_iterator", data := .fields #[.ref a, .int 0 0] }) (o := { cls := .type "enumerate", data := .fields #[.none, .bool false, .ref s1.heap.objs.size, rawInt 0, .none, .none] }) rfl
        rw [hz] at this
        exact this
      refine ⟨⟨_, he, rfl⟩, wpAny_pyIter_enum he ⟨s1.heap.objs.size + 1, [s1.heap.objs.size + 1, s1.heap.objs.size], _, _, H1, rfl, I1.kept (t' := s1.toks) fun b o x => Heap.get?_push_of_some _ (Heap.get?_push_of_some _ x), enumT_turn (Nat.succ_ne_self _) (Nat.ne_of_lt la) (Nat.ne_of_gt (Nat.lt_succ_of_lt la)), ⟨⟨.none, he⟩, ⟨_, Heap.get?_push_of_some _ (Heap.get?_push_size _ rfl), rfl, rfl⟩⟩, fp, q⟩⟩
end Sw
namespace Sw
open PySem PySem.Spec PyProof.Rows L2
open Classical
section
variable {E : Ev} {g g1 : Gh} {H H1 : Hp} {σ : L2.St} {X : Cx} {pos : Pos}
/-- enumerate of a list or of a tuple -/
def iEnumX (m : M (List T)) : M Itr := do
  match ← m with
  | [t] => fun st => match t with
    | .tup ts => some (.ok ⟨enumT ts, fun _ => True⟩, st)
    | t => match lstAt st.S t with
      | some ts => some (.ok ⟨enumT ts, fun st' => lstAt st'.S t = some ts⟩, st)
      | none => none
  | _ => stuck
theorem it_enumX {a : Addr} {xs : List V} {ts : List T} {l : List Nat} (hx : SqT X.K g.Z a xs) (rl : RepL E.K g ts xs) : ItOk E g σ l (IteT X.K a) ⟨enumT ts, fun _ => True⟩ := by
  have hlen : (enumT ts).length = ts.length := by simp [enumT]
  have sq : ∀ {g' st' σ' H'}, Rel E.K g' st' σ' H' → GStp g g' → SqT X.K H' a xs := fun r s => sameT r.zs (sameT s.z hx)
  refine ⟨fun g' st' σ' H' i r s _ _ hi => ?_, fun g' st' σ' H' r s _ _ => ?_, fun g' st' σ' H' i x H2 r s _ _ hi y => ?_⟩
  · obtain ⟨t, et⟩ := lt_get (show i < ts.length by rw [← hlen]; exact hi)
    obtain ⟨x, ex, _⟩ := rl.get et
    exact ⟨xs, x, sq r s, ex⟩
  · exact ⟨xs, sq r s, by rw [rl.len, ← hlen]⟩
  · obtain ⟨t, et⟩ := lt_get (show i < ts.length by rw [← hlen]; exact hi)
    obtain ⟨x', ex, rx⟩ := rl.get et
    obtain ⟨p, z, e1, hp, e2, y⟩ := y
    have e3 := y xs (sq r s)
    rw [ex] at e3
    cases e3
    obtain ⟨r2, s2⟩ := r.frz (o := .tup [.int (i : Nat), x']) hp
    rw [e1, e2]
    exact ⟨_, .tup [.int (i : Nat), t], r2, s2, by simp [enumT, et], rep_tup hp r.zs (.two (rt_int _) (rx.gstep s))⟩
theorem im_enumX {l : List Nat} {e : Expr} {m : M (List T)} {p tpos : Pos} {elts : List Expr} {kk : Nat} (hK : E.K = X.K) (hg : Gl X "enumerate") (hm : X.mg "enumerate" = none) (ha : AM E X [e] m) (hs : starEach [e] X.env = [(false, eval e X.env)] := by rfl) :
    IM E l X (.Tuple elts kk tpos) (.Call (.Name "enumerate" p) [e] [] pos) (iEnumX m) :=
  ⟨PI.mono (pi_enT hg hm ha.pa hs) fun σ H R ⟨g, q⟩ => ⟨g, seq_any (Φ := fun g H => okI E l g H σ R) st_okI q fun ts st1 k g1 H1 r1 s1 vs rl => by
    have h1 := k g1 H1 r1 s1
    match ts, h1 with
    | [t], h1 =>
      obtain ⟨st, r, z⟩ := h1
      unfold run at z
      obtain ⟨v, e, rv⟩ := rl.one_of
      have lst : ∀ us, lstAt st.S t = some us → okI E l g1 H1 σ R ⟨enumT us, fun st' => lstAt st'.S t = some us⟩ st → ∃ a, vs = [.ref a] ∧ ((∃ xs, SqL X.K H1 a xs ∧ R (Ite X.K a) H1) ∨ ∃ xs, SqT X.K H1 a xs ∧ R (IteT X.K a) H1) := fun us el z => by
        obtain ⟨a, ev, ka⟩ := lstAt_rep rv ⟨us, _, el⟩
        obtain ⟨xs, ex, _⟩ := ka g1 st σ H1 us r ⟨Same.refl _, Nat.le_refl _, fun _ _ => rfl⟩ el
        exact ⟨a, by rw [e, ev], .inl ⟨xs, .inl (.inl ex), z g1 H1 r (Stp.refl _ _) _ (it_enumU ka)⟩⟩
      cases t with
      | tup us =>
        simp only at z
        obtain ⟨a, xs, ev, ha, rl2⟩ := rv.tup_of
        refine ⟨a, by rw [e, ev], .inr ⟨xs, by rw [← hK]; exact sameT r1.zs ha, z g1 H1 r (Stp.refl _ _) _ (it_enumX (by rw [← hK]; exact ha) rl2)⟩⟩
      | fz us =>
        simp only at z
        cases el : lstAt st.S (T.fz us) with
        | none => simp only [el] at z
        | some w => simp only [el] at z; exact lst w el z
      | ref n =>
        simp only at z
        cases el : lstAt st.S (T.ref n) with
        | none => simp only [el] at z
        | some w => simp only [el] at z; exact lst w el z
      | non => exact z.elim
      | bl _ => exact z.elim
      | int _ => exact z.elim
      | str _ => exact z.elim
      | ty _ => exact z.elim
      | scr _ => exact z.elim
      | dic _ _ => exact z.elim
    | [], h1 => obtain ⟨_, _, z⟩ := h1; exact z.elim
    | _ :: _ :: _, h1 => obtain ⟨_, _, z⟩ := h1; exact z.elim⟩⟩
end
end Sw
namespace Sw
open PySem PySem.Spec PyProof.Rows L2
open Classical
section
variable {E : Ev} {g g1 : Gh} {H H1 : Hp} {σ : L2.St} {X : Cx} {pos : Pos}
/-! ### [e for a in xs for b in ys] -/
noncomputable def lc2L (chk : Stt → Prop) (own vs1 : List Nat) (tg : Tg) (test : M Bool) (mi1 : M Itr) (tg1 : Tg) (test1 : M Bool) (elt : M T) : List T → Stt → Option (List T × Stt)
  | [], st => if chk st then some ([], st) else none
  | t :: ts, st => if chk st then match asgT tg t st.σ with
      | none => none
      | some σ' => match test { st with σ := σ' } with
        | some (.ok true, st1) => match mi1 st1 with
          | some (.ok it1, st2) => match lcL it1.chk vs1 tg1 test1 elt it1.ts { st2 with σ := wipeS st2.σ vs1 } with
            | some (ys, st3) => match lc2L chk own vs1 tg test mi1 tg1 test1 elt ts { st3 with σ := wipeS st3.σ own } with
              | some (zs, st4) => some (ys ++ zs, st4)
              | none => none
            | none => none
          | _ => none
        | some (.ok false, st1) => lc2L chk own vs1 tg test mi1 tg1 test1 elt ts { st1 with σ := wipeS st1.σ own }
        | _ => none
    else none
noncomputable def fComp2 (mi : M Itr) (own vs1 : List Nat) (tg : Tg) (test : M Bool) (mi1 : M Itr) (tg1 : Tg) (test1 : M Bool) (elt : M T) : M Ob := do
  let it ← mi
  fun st => if own.all (fun v => notOwn st.σ[v]?) = true then
      match lc2L it.chk own vs1 tg test mi1 tg1 test1 elt it.ts { st with σ := wipeS st.σ own } with
      | some (ys, st') => if ys.length ≤ 1000000 then some (.ok (.lst ys), { st' with σ := restS st.σ st'.σ own }) else none
      | none => none
    else none
theorem wipe_wipe {σ : L2.St} {vs own : List Nat} (h : ∀ i ∈ vs, i ∈ own) : L2.wipe (L2.wipe σ vs) own = L2.wipe σ own := by
  refine List.ext_getElem? fun i => ?_
  rw [wipe_get, wipe_get, wipe_get]
  by_cases hi : i ∈ own
  · rw [if_pos hi, if_pos hi]
    by_cases hv : i ∈ vs
    · rw [if_pos hv]
      cases σ[i]? <;> rfl
    · rw [if_neg hv]
  · rw [if_neg hi, if_neg hi, if_neg fun z => hi (h i z)]
/-- what stays true at each step within: D the new list -/
structure In2 (E : Ev) (g1 : Gh) (H1 : Hp) (D : Addr) (σV : L2.St) (g2 : Gh) (st2 : Stt) (acc : List T) (xs : List V) (H2 : Hp) : Prop where
  rel : Rel E.K g2 st2 σV H2
  stp : Stp g1 g2 H1 H2
  own : g2.own D = .out
  at_ : H2 D = some (.lst xs)
  rep : RepL E.K g2 acc xs
theorem In2.go {D : Addr} {σV σW : L2.St} {g2 g3 : Gh} {st2 st3 : Stt} {acc : List T} {xs : List V} {H2 H3 : Hp} (a : In2 E g1 H1 D σV g2 st2 acc xs H2) (r : Rel E.K g3 st3 σW H3) (s : Stp g2 g3 H2 H3) : In2 E g1 H1 D σW g3 st3 acc xs H3 :=
  have o := s.out D _ a.own a.at_
  ⟨r, a.stp.trans s, o.1, o.2, a.rep.gstep s.toG⟩
theorem In2.add {D : Addr} {σV : L2.St} {g2 : Gh} {st2 : Stt} {acc : List T} {xs : List V} {H2 : Hp} {u : T} {v : V} (a : In2 E g1 H1 D σV g2 st2 acc xs H2) (hD : H1 D = none) (rv : RepT E.K g2 u v) : In2 E g1 H1 D σV g2 st2 (acc ++ [u]) (xs ++ [v]) (upd H2 D (.lst (xs ++ [v]))) :=
  ⟨a.rel.outUpd a.own, ⟨a.stp.z, a.stp.n, a.stp.ρ, fun p o h1 h3 => by
    have := a.stp.out p o h1 h3
    refine ⟨this.1, ?_⟩
    rw [upd_ne (ne_of_none h3 hD)]
    exact this.2⟩, a.own, upd_same, a.rep.app (.one rv)⟩
theorem In2.len {D : Addr} {σV : L2.St} {g2 : Gh} {st2 : Stt} {acc : List T} {xs : List V} {H2 : Hp} (a : In2 E g1 H1 D σV g2 st2 acc xs H2) : xs.length = acc.length := a.rep.len
theorem In2.wiped {D : Addr} {σV σW : L2.St} {own : List Nat} {g2 : Gh} {st2 : Stt} {acc : List T} {xs : List V} {H2 : Hp} (a : In2 E g1 H1 D σV g2 st2 acc xs H2) (hw : L2.wipe σV own = σW) : In2 E g1 H1 D σW g2 { st2 with σ := wipeS st2.σ own } acc xs H2 :=
  ⟨by rw [← hw]; exact a.rel.wipe, a.stp, a.own, a.at_, a.rep⟩
theorem GStp.trans {a b c : Gh} (s : GStp a b) (t : GStp b c) : GStp a c := ⟨s.z.trans t.z, Nat.le_trans s.n t.n, fun x h => (t.ρ x (Nat.lt_of_lt_of_le h s.n)).trans (s.ρ x h)⟩
theorem lc2_lift {own vs1 : List Nat} {mi mi1 : M Itr} {tg tg1 : Tg} {test test1 : M Bool} {elt : M T} (ht : ∀ i ∈ tg.ix, i ∈ own) (ht1 : ∀ i ∈ tg1.ix, i ∈ vs1) (hv : ∀ i ∈ vs1, i ∈ own) {Q : VK} (h : tfM E (fComp2 mi own vs1 tg test mi1 tg1 test1 elt) σ H Q) :
    tLc2 (tiM E [] mi) (tgM E.nox tg) (ttM E.nox test) (tiM E.nox [] mi1) (tgM E.nox tg1) (ttM E.nox test1) (teM E.nox elt) own vs1 σ H Q := by
  obtain ⟨g, h⟩ := h
  refine ⟨g, seq_any (Φ := fun g H => okF E g H σ Q) st_okF h fun it st1 k g1 H1 r1 s1 J ok D hD => ?_⟩
  obtain ⟨st, r, z⟩ := k g1 H1 r1 s1
  unfold run at z
  by_cases hc : own.all (fun v => notOwn st.σ[v]?) = true
  · simp only [if_pos hc] at z
    cases ez : lc2L it.chk own vs1 tg test mi1 tg1 test1 elt it.ts { st with σ := wipeS st.σ own } with
    | none => simp only [ez] at z
    | some p =>
      obtain ⟨zs, stE⟩ := p
      simp only [ez] at z
      by_cases hz : zs.length ≤ 1000000
      · simp only [if_pos hz] at z
        have oD : g1.own D = .out := r.fr D hD
        have a0 : In2 E g1 H1 D (L2.wipe σ own) g1 { st with σ := wipeS st.σ own } [] [] (upd H1 D (.lst [])) :=
          ⟨r.wipe.outUpd oD, ⟨Same.refl _, Nat.le_refl _, fun _ _ => rfl, fun p o h1 h2 => ⟨h1, by rw [upd_ne (ne_of_none h2 hD)]; exact h2⟩⟩, oD, upd_same, .nil⟩
        refine ⟨fun i m H2 => ∃ g2 st2 acc xs rest, In2 E g1 H1 D (L2.wipe σ own) g2 st2 acc xs H2 ∧ m = it.ts.length - i ∧ i ≤ it.ts.length ∧ lc2L it.chk own vs1 tg test mi1 tg1 test1 elt (it.ts.drop i) st2 = some (rest, stE) ∧ zs = acc ++ rest,
          ⟨_, g1, _, [], [], zs, a0, rfl, Nat.zero_le _, ez, rfl⟩, ?_⟩
        rintro i m H2 ⟨g2, st2, acc, xs, rest, a2, rfl, hi, e2, ezs⟩
        by_cases hlt : i < it.ts.length
        · rw [List.drop_eq_getElem_cons hlt] at e2
          unfold lc2L at e2
          by_cases hch : it.chk st2
          · rw [if_pos hch] at e2
            refine .inr ⟨ok.go g2 st2 _ H2 i a2.rel a2.stp.toG hch (fun j hj => nomatch hj) hlt, fun H3 => ∃ g3 st3 acc xs rest, In2 E g1 H1 D (L2.wipe σ own) g3 st3 acc xs H3 ∧ lc2L it.chk own vs1 tg test mi1 tg1 test1 elt (it.ts.drop (i + 1)) st3 = some (rest, stE) ∧ zs = acc ++ rest, ?_, ?_⟩
            · rintro H3 ⟨g3, st3, acc, xs, rest, b1, b2, b3⟩
              exact ⟨it.ts.length - (i + 1), by omega, g3, st3, acc, xs, rest, b1, rfl, hlt, b2, b3⟩
            · intro x H3 y
              obtain ⟨g3, t, r3, s3, et, rt⟩ := ok.yld g2 st2 _ H2 i x H3 a2.rel a2.stp.toG hch (fun j hj => nomatch hj) hlt y
              rw [List.getElem?_eq_getElem hlt] at et
              cases et
              cases ea : asgT tg it.ts[i] st2.σ with
              | none => rw [ea] at e2; cases e2
              | some σ' =>
                rw [ea] at e2
                simp only at e2
                refine ⟨g3, st2, it.ts[i], σ', r3, rt, ea, fun σV rV oV => ?_⟩
                have hw : L2.wipe σV own = L2.wipe σ own := oV.wipes ht
                refine ⟨hw, ?_⟩
                have a3 : In2 E g1 H1 D σV g3 { st2 with σ := σ' } acc xs H3 := a2.go rV s3
                refine ⟨g3, { st2 with σ := σ' }, rV, ?_⟩
                unfold run
                cases et : test { st2 with σ := σ' } with
                | none => rw [et] at e2; cases e2
                | some p =>
                  obtain ⟨rr, st4⟩ := p
                  rw [et] at e2
                  cases rr with
                  | exc x => cases e2
                  | ok b =>
                    intro g4 H4 r4 s4
                    have a4 := a3.go r4 s4
                    cases b with
                    | false =>
                      simp only at e2
                      exact iteF ⟨g4, _, acc, xs, rest, a4.wiped hw, e2, ezs⟩
                    | true =>
                      simp only at e2
                      refine iteT ⟨g4, st4, r4, ?_⟩
                      unfold run
                      cases em : mi1 st4 with
                      | none => rw [em] at e2; cases e2
                      | some p =>
                        obtain ⟨rr, st5⟩ := p
                        rw [em] at e2
                        cases rr with
                        | exc x => cases e2
                        | ok it1 =>
                          intro g5 H5 r5 s5 J1 ok1
                          have a5 := a4.go r5 s5
                          simp only at e2
                          cases el : lcL it1.chk vs1 tg1 test1 elt it1.ts { st5 with σ := wipeS st5.σ vs1 } with
                          | none => rw [el] at e2; cases e2
                          | some p =>
                            obtain ⟨ys, st6⟩ := p
                            rw [el] at e2
                            simp only at e2
                            cases er : lc2L it.chk own vs1 tg test mi1 tg1 test1 elt (it.ts.drop (i + 1)) { st6 with σ := wipeS st6.σ own } with
                            | none => rw [er] at e2; cases e2
                            | some p =>
                              obtain ⟨rs, stF⟩ := p
                              rw [er] at e2
                              cases e2
                              have hww : L2.wipe (L2.wipe σV vs1) own = L2.wipe σ own := by rw [wipe_wipe hv]; exact hw
                              refine ⟨fun j k H6 => ∃ g6 st7 acc1 xs1 ys1, In2 E g1 H1 D (L2.wipe σV vs1) g6 st7 acc1 xs1 H6 ∧ GStp g5 g6 ∧ k = it1.ts.length - j ∧ j ≤ it1.ts.length ∧ lcL it1.chk vs1 tg1 test1 elt (it1.ts.drop j) st7 = some (ys1, st6) ∧ zs = acc1 ++ (ys1 ++ rs),
                                ⟨_, g5, _, acc, xs, ys, a5.wiped rfl, ⟨Same.refl _, Nat.le_refl _, fun _ _ => rfl⟩, rfl, Nat.zero_le _, el, by rw [ezs]⟩, ?_⟩
                              rintro j k H6 ⟨g6, st7, acc1, xs1, ys1, a6, gs6, rfl, hj, e6, ez6⟩
                              by_cases hlt1 : j < it1.ts.length
                              · rw [List.drop_eq_getElem_cons hlt1] at e6
                                unfold lcL at e6
                                by_cases hch1 : it1.chk st7
                                · rw [if_pos hch1] at e6
                                  refine .inr ⟨ok1.go g6 st7 _ H6 j a6.rel gs6 hch1 (fun q hq => nomatch hq) hlt1, fun H7 => ∃ g7 st8 acc2 xs2 ys2, In2 E g1 H1 D (L2.wipe σV vs1) g7 st8 acc2 xs2 H7 ∧ GStp g5 g7 ∧ lcL it1.chk vs1 tg1 test1 elt (it1.ts.drop (j + 1)) st8 = some (ys2, st6) ∧ zs = acc2 ++ (ys2 ++ rs), ?_, ?_⟩
                                  · rintro H7 ⟨g7, st8, acc2, xs2, ys2, b1, b2, b3, b4⟩
                                    exact ⟨it1.ts.length - (j + 1), by omega, g7, st8, acc2, xs2, ys2, b1, b2, rfl, hlt1, b3, b4⟩
                                  · intro x1 H7 y1
                                    obtain ⟨g7, t1, r7, s7, et1, rt1⟩ := ok1.yld g6 st7 _ H6 j x1 H7 a6.rel gs6 hch1 (fun q hq => nomatch hq) hlt1 y1
                                    rw [List.getElem?_eq_getElem hlt1] at et1
                                    cases et1
                                    cases ea1 : asgT tg1 it1.ts[j] st7.σ with
                                    | none => rw [ea1] at e6; cases e6
                                    | some σ1' =>
                                      rw [ea1] at e6
                                      simp only at e6
                                      refine ⟨g7, st7, it1.ts[j], σ1', r7, rt1, ea1, fun σW rW oW => ?_⟩
                                      have hw1 : L2.wipe σW vs1 = L2.wipe σV vs1 := oW.wipes ht1
                                      refine ⟨hw1, ?_⟩
                                      have a7 : In2 E g1 H1 D σW g7 { st7 with σ := σ1' } acc1 xs1 H7 := a6.go rW s7
                                      have gs7 : GStp g5 g7 := gs6.trans s7.toG
                                      refine ⟨g7, { st7 with σ := σ1' }, rW, ?_⟩
                                      unfold run
                                      cases et2 : test1 { st7 with σ := σ1' } with
                                      | none => rw [et2] at e6; cases e6
                                      | some p =>
                                        obtain ⟨rr, st8⟩ := p
                                        rw [et2] at e6
                                        cases rr with
                                        | exc x => cases e6
                                        | ok b =>
                                          intro g8 H8 r8 s8
                                          have a8 := a7.go r8 s8
                                          have gs8 := gs7.trans s8.toG
                                          cases b with
                                          | false =>
                                            simp only at e6
                                            exact iteF ⟨g8, _, acc1, xs1, ys1, a8.wiped hw1, gs8, e6, ez6⟩
                                          | true =>
                                            simp only at e6
                                            refine iteT ⟨g8, st8, r8, ?_⟩
                                            unfold run
                                            cases ee : elt st8 with
                                            | none => rw [ee] at e6; cases e6
                                            | some p =>
                                              obtain ⟨rr, st9⟩ := p
                                              rw [ee] at e6
                                              cases rr with
                                              | exc x => cases e6
                                              | ok u =>
                                                intro g9 H9 r9 s9 v rv
                                                have a9 := a8.go r9 s9
                                                simp only at e6
                                                cases e7 : lcL it1.chk vs1 tg1 test1 elt (it1.ts.drop (j + 1)) { st9 with σ := wipeS st9.σ vs1 } with
                                                | none => rw [e7] at e6; cases e6
                                                | some p =>
                                                  obtain ⟨ys2, stG⟩ := p
                                                  rw [e7] at e6
                                                  cases e6
                                                  refine ⟨xs1, a9.at_, ?_, g9, _, acc1 ++ [u], xs1 ++ [v], ys2, (a9.add hD rv).wiped hw1, gs8.trans s9.toG, e7, by rw [ez6]; simp⟩
                                                  have l1 := a9.len
                                                  have l2 : zs.length = acc1.length + (1 + ys2.length + rs.length) := by rw [ez6]; simp; omega
                                                  have hzz : sizeLine = 16777216 := sizeLine_eq
                                                  omega
                                · rw [if_neg hch1] at e6
                                  cases e6
                              · have e : j = it1.ts.length := by omega
                                subst e
                                rw [List.drop_length] at e6
                                unfold lcL at e6
                                by_cases hch1 : it1.chk st7
                                · rw [if_pos hch1] at e6
                                  cases e6
                                  exact .inl ⟨ok1.stop g6 _ _ H6 a6.rel gs6 hch1 (fun q hq => nomatch hq), g6, _, acc1, xs1, rs, a6.wiped hww, er, by rw [ez6]; simp⟩
                                · rw [if_neg hch1] at e6
                                  cases e6
          · rw [if_neg hch] at e2
            cases e2
        · have e : i = it.ts.length := by omega
          subst e
          rw [List.drop_length] at e2
          unfold lc2L at e2
          by_cases hch : it.chk st2
          · rw [if_pos hch] at e2
            cases e2
            refine .inl ⟨ok.stop g2 _ _ H2 a2.rel a2.stp.toG hch (fun j hj => nomatch hj), ?_⟩
            have rf := r.rest hc (a2.rel.forget a2.own) a2.stp.toG
            have sf : Stp g1 g2 H1 (forget H2 D) := ⟨a2.stp.z, a2.stp.n, a2.stp.ρ, fun p o h1 h3 => by
              have := a2.stp.out p o h1 h3
              refine ⟨this.1, ?_⟩
              rw [forget_ne (ne_of_none h3 hD)]
              exact this.2⟩
            rw [List.append_nil] at ezs
            have q := z g2 (forget H2 D) rf sf D (.lst xs) forget_same ⟨xs, rfl, by rw [ezs]; exact a2.rep⟩
            rw [forget_upd a2.at_] at q
            exact q
          · rw [if_neg hch] at e2
            cases e2
      · simp only [if_neg hz] at z
  · simp only [if_neg hc] at z
section
variable {elt ta ia tb ib : Expr} {ifs jfs : List Expr} {scope : Scope} {mi mj : M Itr} {tg th : Tg} {test test2 : M Bool} {me : M T}
abbrev Cb2 : Type := Shared → Hp → Addr → List (Str × Addr) → List Addr → Cx
theorem x_comp2 (G : Gd E X) (own : List (Str × Nat)) (vs : List Nat) (hi : IM E [] X ta ia mi)
    (hg : ∀ (s : Shared) (H : Hp) (C : Addr) (cl : List (Str × Addr)) (fp : List Addr), GM E.nox (X.blk s H scope (compEnvC scope cl C X.env) fp) ta tg) (hq : ∀ (s : Shared) (H : Hp) (C : Addr) (cl : List (Str × Addr)) (fp : List Addr), QM E.nox (X.blk s H scope (compEnvC scope cl C X.env) fp) ifs test)
    (hj : ∀ (s : Shared) (H : Hp) (C : Addr) (cl : List (Str × Addr)) (fp : List Addr), IM E.nox [] (X.blk s H scope (compEnvC scope cl C X.env) fp) tb ib mj) (hh : ∀ (s : Shared) (H : Hp) (C : Addr) (cl : List (Str × Addr)) (fp : List Addr), GM E.nox (X.blk s H scope (compEnvC scope cl C X.env) fp) tb th)
    (hk : ∀ (s : Shared) (H : Hp) (C : Addr) (cl : List (Str × Addr)) (fp : List Addr), QM E.nox (X.blk s H scope (compEnvC scope cl C X.env) fp) jfs test2) (he : ∀ (s : Shared) (H : Hp) (C : Addr) (cl : List (Str × Addr)) (fp : List Addr), ME E.nox (X.blk s H scope (compEnvC scope cl C X.env) fp) elt me)
    (ok : BlkOk X.N X.env.scope scope own) (ht : ∀ i ∈ tg.ix, i ∈ own.map (·.2) := by decide) (ht2 : ∀ i ∈ th.ix, i ∈ vs := by decide) (hv : ∀ i ∈ vs, i ∈ own.map (·.2) := by decide) (hs : ∀ x, foldedSetIterable ia X.env x = pure x := by intro _; rfl) (hs2 : ∀ env x, foldedSetIterable ib env x = pure x := by intro _ _; rfl) :
    FE E X (.ListComp elt [⟨ta, ia, ifs, 0⟩, ⟨tb, ib, jfs, 0⟩] scope pos) (fComp2 mi (own.map (·.2)) vs tg test mj th test2 me) :=
  ⟨PE.mono (pe_lc2 G.calm G.nd hi.pi ok hv (fun s H C cl fp => (hg s H C cl fp).pg) (fun s H C cl fp => (hq s H C cl fp).pts) (fun s H C cl fp => (hj s H C cl fp).pi) (fun s H C cl fp => (hh s H C cl fp).pg) (fun s H C cl fp => (hk s H C cl fp).pts) (fun s H C cl fp => (he s H C cl fp).pe) hs hs2) fun _ _ _ q => lc2_lift ht ht2 hv q⟩
end
end
end Sw
namespace Sw
open PySem PySem.Spec PyProof.Rows L2
open Classical
/-! ### any comprehension's loop, at any of its levels -/
abbrev NoX : Value → Shared → Prop := fun _ _ => False
/-- the tests of a clause, as they are asked -/
abbrev askAll (ifs : List Expr) (env : Env) : Sem Bool :=
  forIn ifs true fun c b => if b = true then (isTrue c env (eval c env) >>= fun ok => pure (ForInStep.yield ok)) else pure (ForInStep.yield b)
/-- a turn whose inner part is `body` (which goes on with the loop itself) -/
abbrev turnOf (p : Pos) (t : Expr) (ifs : List Expr) (body : Sem Fin) (c : Expr) (k : Nat) (it acc : Value) (env : Env) : Sem Fin :=
  standAt p >>= fun _ => pyNext it >>= fun r => match r with
    | none => pure (.done .next)
    | some v => letOwnedTupleGo t it v >>= fun _ => assign t env v >>= fun _ => askAll ifs env >>= fun ok =>
        if ok = true then body else again (.compLoop c k it acc env)
/-- a set comprehension -/
def IsSet (c : Expr) : Prop := ∃ elt gens sc pos, c = .SetComp elt gens sc pos
theorem lvl_loop {prog : Program} {w : World} {A : Around} {R : Result → Shared → Prop} {c t : Expr} {k : Nat} {p : Pos} {ifs : List Expr} {it acc : Value} {env : Env} {body : Sem Fin}
    (hcc : IsSet c) (e : compTurn c k it acc env = turnOf p t ifs body c k it acc env) (I : Nat → Shared → Prop)
    (turn : ∀ n s, I n s → wpAny (model prog w) A (pyNext it) (fun r s1 => (r = none ∧ R (.ok .next) s1) ∨ ∃ v, r = some v ∧
      wpAny (model prog w) A (letOwnedTupleGo t it v) (fun _ s2 => wpAny (model prog w) A (assign t env v) (fun _ s3 => wpAny (model prog w) A (askAll ifs env) (fun ok s4 =>
        (ok = false → ∃ m, m < n ∧ I m s4) ∧ (ok = true → wpAny (model prog w) A body (fun f s5 => f = .again (.compLoop c k it acc env) ∧ ∃ m, m < n ∧ I m s5) NoX s4)) NoX s3) NoX s2) NoX s1) NoX s)
    {n : Nat} {s : Shared} (h : I n s) : codeAny (model prog w) A (.compLoop c k it acc env) R s := by
  obtain ⟨elt, gens, sc, pos, rfl⟩ := hcc
  refine codeAny_loop rfl I (fun n s hI => ?_) n h
  show wpAny _ A ((compTurn (.SetComp elt gens sc pos) k it acc env).onRaise fun x => noteFrame x env >>= fun _ => theTreesLotGoes x) _ _ s
  refine wpAny_noted ?_
  rw [e]
  refine wpAny_bind (wpAny_standAt (wpAny_bind (thnF (turn n s hI) fun r s1 h1 => ?_)))
  rcases h1 with ⟨rfl, h1⟩ | ⟨v, rfl, h1⟩
  · exact wpAny_pure h1
  · refine wpAny_bind (thnF h1 fun _ s2 h2 => wpAny_bind (thnF h2 fun _ s3 h3 => wpAny_bind (thnF h3 fun ok s4 h4 => ?_)))
    cases ok with
    | false => exact wpAny_pure ⟨rfl, h4.1 rfl⟩
    | true =>
      refine thnF (h4.2 rfl) fun f s5 h5 => ?_
      obtain ⟨rfl, h5⟩ := h5
      exact ⟨rfl, h5⟩
/-- σ' knows what σ knows -/
structure Knows (σ σ' : L2.St) : Prop where
  len : σ.length = σ'.length
  get : ∀ (j : Nat) v, σ[j]? = some (some v) → σ'[j]? = some (some v)
theorem Knows.trans {a b c : L2.St} (h : Knows a b) (k : Knows b c) : Knows a c := ⟨h.len.trans k.len, fun j v e => k.get j v (h.get j v e)⟩
theorem Knows.wiped {σ σ' : L2.St} {vs : List Nat} (h : L2.wipe σ' vs = L2.wipe σ vs) : Knows (L2.wipe σ vs) σ' := ⟨by rw [← h, L2.wipe_length], fun j v e => by rw [← h] at e; exact (L2.wipe_some e).1⟩
theorem Knows.inner {σ σ' : L2.St} {vs own : List Nat} (hv : ∀ i ∈ vs, i ∈ own) (h : L2.wipe σ' own = L2.wipe σ own) : Knows (L2.wipe σ own) (L2.wipe σ' vs) :=
  ⟨by rw [← h, L2.wipe_length, L2.wipe_length], fun j v e => by
    rw [← h] at e
    obtain ⟨e1, e2⟩ := L2.wipe_some e
    rw [L2.wipe_out fun z => e2 (hv j z)]
    exact e1⟩
/-- what an inner part B comes to, begun where the tests hold -/
def BodyOk (X : Cx) (body : Sem Fin) (c : Expr) (k : Nat) (it acc : Value) (σb : L2.St) (Kn : L2.St → Prop) (B : L2.St → Hp → (Hp → Prop) → Prop) : Prop :=
  ∀ (pins : List (Addr × Obj)) (s : Shared) (σ : L2.St) (H : Hp) (Nx : Hp → Prop), Inv X pins σ H s → Kn σ → B σ H Nx →
    wpAny (model X.prog X.w) X.A body (fun f s' => f = .again (.compLoop c k it acc X.env) ∧ ∃ σ' H', Inv X pins σ' H' s' ∧ Knows σb σ' ∧ Nx H') NoX s
theorem lvl_walk {X : Cx} {pins : List (Addr × Obj)} {σb : L2.St} {J : It} {fp : List Addr} {it : Addr} {tn : Nat → Heap → Prop} {c t : Expr} {k : Nat} {p : Pos} {ifs : List Expr} {acc : Value} {body : Sem Fin} {R : Result → Shared → Prop} {g : TG} {tt : TT}
    {B : L2.St → Hp → (Hp → Prop) → Prop} {Kn : L2.St → Prop} (hcc : IsSet c) (hk : ∀ {σ'}, Kn σ' → Knows σb σ') (hx : X.xe = NoX) (hc : X.calm = true) (T : Turn X.prog X.w X.K t J fp it tn) (pg : PG X t g) (pt : PTs X ifs tt) (e : compTurn c k (.ref it) acc X.env = turnOf p t ifs body c k (.ref it) acc X.env)
    (fo : ∀ {σ' : L2.St} {H' : Hp} {s' : Shared}, Inv X pins σ' H' s' → (∀ b ∈ fp, H' b = none) → ∀ b ∈ fp, FpOk X pins H' b) (hb : BodyOk X body c k (.ref it) acc σb Kn B) {W : Nat → Nat → Hp → Prop}
    (turn : ∀ i m H, W i m H → (J.stop i H ∧ ∀ s', Inv X pins σb H s' → R (.ok .next) s') ∨ (J.go i H ∧ ∃ Nx : Hp → Prop, (∀ H', Nx H' → ∃ m', m' < m ∧ W (i + 1) m' H') ∧
      ∀ x H', J.yld i H x H' → g x σb H' fun σ2 H2 => Kn σ2 ∧ tt σ2 H2 fun b H3 => if b = true then B σ2 H3 Nx else Nx H3))
    {m : Nat} {H : Hp} {s : Shared} (w0 : W 0 m H) (I : Inv X pins σb H s) (st : tn 0 s.heap) (hn : ∀ b ∈ fp, H b = none) : codeAny (model X.prog X.w) X.A (.compLoop c k (.ref it) acc X.env) R s := by
  refine lvl_loop hcc e (fun n s' => ∃ i H', Inv X pins σb H' s' ∧ tn i s'.heap ∧ (∀ b ∈ fp, H' b = none) ∧ W i n H') ?_ (n := m) ⟨0, H, I, st, hn, w0⟩
  rintro n s1 ⟨i, H1, I1, st1, n1, w1⟩
  rcases turn i n H1 w1 with ⟨stop, fin⟩ | ⟨go, Nx, hNx, step⟩
  · refine thnF (T.done X rfl rfl rfl hc i pins s1 σb H1 NoX I1 (fo I1 n1) st1 stop) fun r s2 ⟨hr, I2⟩ => .inl ⟨hr, fin s2 I2⟩
  · refine thnF (T.item X rfl rfl rfl hc i pins s1 σb H1 NoX I1 (fo I1 n1) st1 go) fun r s2 ⟨u, hr, h2⟩ => .inr ⟨u, hr, thnF h2 fun _ s3 ⟨x, H3, I3, r3, y3, st3, n3⟩ => ?_⟩
    have I3' := I3.pinned (fo I3 n3) (T.obj _ _ st3)
    have back : ∀ {σ' : L2.St} {s' : Shared} {H' : Hp}, Inv X (pins ++ pinsAt fp s3.heap) σ' H' s' → Knows σb σ' → Nx H' → ∃ m, m < n ∧ ∃ i H', Inv X pins σb H' s' ∧ tn i s'.heap ∧ (∀ b ∈ fp, H' b = none) ∧ W i m H' := fun {σ' s' H'} J kn nx => by
      obtain ⟨m', lt, w'⟩ := hNx H' nx
      have stays : ∀ b ∈ fp, ∀ o, s3.heap.get? b = some o → s'.heap.get? b = some o ∧ H' b = none := fun b hb o eo =>
        have z := J.pin (b, o) (List.mem_append_right _ (List.mem_append_right _ (mem_pinsAt hb eo)))
        ⟨z.1, z.2.1⟩
      exact ⟨m', lt, i + 1, H', J.unpinned.weak kn.len kn.get, T.keep _ _ _ st3 fun b hb o eo => (stays b hb o eo).1, fun b hb =>
        have ⟨o, eo, _⟩ := T.obj _ _ st3 b hb
        (stays b hb o eo).2, w'⟩
    have q1 := pg.run _ s3 σb H3 x u _ I3' r3 (step x H3 y3)
    rw [hx] at q1
    refine thnF q1 fun _ s4 ⟨σ4, H4, I4, kn, q4⟩ => ?_
    have q2 := pt.run _ s4 σ4 H4 _ I4 q4
    rw [hx] at q2
    refine thnF q2 fun b s5 ⟨H5, I5, q5⟩ => ⟨fun eb => ?_, fun eb => ?_⟩
    · subst eb
      exact back I5 (hk kn) q5
    · subst eb
      refine thnF (hb _ s5 σ4 H5 Nx I5 kn q5) fun f s6 ⟨ef, σ6, H6, I6, k6, nx⟩ => ⟨ef, back I6 k6 nx⟩
/-- the start of a level's loop -/
theorem lvl_start {prog : Program} {w : World} {A : Around} {R : Result → Shared → Prop} {s : Shared} {c t i : Expr} {ifs : List Expr} {k : Nat} {it acc : Value} {env : Env} (hcc : IsSet c) (hcl : (clausesOf c)[k]? = some ⟨t, i, ifs, 0⟩)
    (h : codeAny (model prog w) A (.compLoop c k it acc env) R s) (h' : wpAny (model prog w) A (pyIter it) (fun u s' => codeAny (model prog w) A (.compLoop c k u acc env) R s') NoX s) :
    codeAny (model prog w) A (.compStart c k it acc env) R s := by
  obtain ⟨elt, gens, sc, pos, rfl⟩ := hcc
  refine codeAny_of_tree ?_
  show wpAny _ _ ((compStart (.SetComp elt gens sc pos) k it acc env).onRaise fun x => noteFrame x env >>= fun _ => standAt theWindowsPlace) _ _ s
  refine wpAny_notedAt ?_
  unfold compStart
  rw [hcl]
  show wpAny _ _ (ask >>= _) _ _ s
  refine wpAny_bind (wpAny_askSetting (wpAny_ite ?_))
  split
  · first
      | exact wpAny_pure ⟨rfl, h⟩
      | exact wpAny_bind (wpAny_pure (wpAny_pure ⟨rfl, h⟩))
  · refine wpAny_bind (wpAny_rule ?_)
    first
      | exact wpAny_bind (wpAny_standAt (wpAny_bind (thnF h' fun u s' q => wpAny_pure ⟨rfl, q⟩)))
      | (show wpAny _ _ (standAt i.pos >>= _) _ _ s
         exact wpAny_bind (wpAny_standAt (wpAny_bind (thnF h' fun u s' q => wpAny_pure ⟨rfl, q⟩))))
/-! ### {e for a in xs for b in ys}, of whole numbers -/
section
variable {elt t0 i0 t1 i1 : Expr} {fs0 fs1 : List Expr} {sc : Scope} {pos : Pos}
abbrev sx (elt t0 i0 t1 i1 : Expr) (fs0 fs1 : List Expr) (sc : Scope) (pos : Pos) : Expr := .SetComp elt [⟨t0, i0, fs0, 0⟩, ⟨t1, i1, fs1, 0⟩] sc pos
abbrev bodyO (i1 : Expr) (c : Expr) (it acc : Value) (env : Env) : Sem Fin :=
  eval i1 env >>= fun x => standAt i1.pos >>= fun _ => foldedSetIterable i1 env x >>= fun x => holding [x] (pyIter x) >>= fun u => runOwn (.compStart c 1 u acc env) env >>= fun _ => again (.compLoop c 0 it acc env)
abbrev bodyI (elt : Expr) (c : Expr) (it acc : Value) (env : Env) : Sem Fin :=
  ((do let v ← eval elt env; standAt elt.pos; let _ ← call (.builtin "set.add") [acc, v]) : Sem Unit) >>= fun _ => again (.compLoop c 1 it acc env)
theorem turnS_o (it acc : Value) (env : Env) : compTurn (sx elt t0 i0 t1 i1 fs0 fs1 sc pos) 0 it acc env = turnOf i0.pos t0 fs0 (bodyO i1 (sx elt t0 i0 t1 i1 fs0 fs1 sc pos) it acc env) (sx elt t0 i0 t1 i1 fs0 fs1 sc pos) 0 it acc env := by rfl
theorem turnS_i (it acc : Value) (env : Env) : compTurn (sx elt t0 i0 t1 i1 fs0 fs1 sc pos) 1 it acc env = turnOf i1.pos t1 fs1 (bodyI elt (sx elt t0 i0 t1 i1 fs0 fs1 sc pos) it acc env) (sx elt t0 i0 t1 i1 fs0 fs1 sc pos) 1 it acc env := by rfl
/-- a number comes into the set at D -/
def sadO (w : World) (D : Addr) (N : Hp → Prop) (y : V) (H : Hp) : Prop :=
  ∃ (k : Int) (S : Int → Bool) (n : Nat), y = .int k ∧ H D = some (SetO w D S n) ∧ n + 1 < scanBound ∧ N (upd H D (SetO w D (fun j => S j || decide (j = k)) (if S k = true then n else n + 1)))
def tS1 (w : World) (D : Addr) (wj : TI) (h : TG) (uu : TT) (te : TE) (vs : List Nat) (σ : L2.St) (H : Hp) (N : Hp → Prop) : Prop :=
  wj σ H fun J H1 => ∃ W : Nat → Nat → Hp → Prop, (∃ m, W 0 m H1) ∧ ∀ j m H, W j m H → (J.stop j H ∧ N H) ∨ (J.go j H ∧ ∃ N1 : Hp → Prop, (∀ H', N1 H' → ∃ m', m' < m ∧ W (j + 1) m' H') ∧
    ∀ x H', J.yld j H x H' → h x (L2.wipe σ vs) H' fun σ3 H5 => L2.wipe σ3 vs = L2.wipe σ vs ∧ uu σ3 H5 fun b H6 => if b = true then te σ3 H6 (sadO w D N1) else N1 H6)
def tS2 (w : World) (wi : TI) (g : TG) (tt : TT) (wj : TI) (h : TG) (uu : TT) (te : TE) (own vs : List Nat) : TE := fun σ H Q =>
  wi σ H fun J H1 => ∀ D, H1 D = none → ∃ W : Nat → Nat → Hp → Prop, (∃ m, W 0 m (upd H1 D (SetO w D (fun _ => false) 0))) ∧ ∀ i m H, W i m H → (J.stop i H ∧ Q (.ref D) H) ∨ (J.go i H ∧ ∃ N : Hp → Prop, (∀ H', N H' → ∃ m', m' < m ∧ W (i + 1) m' H') ∧
    ∀ x H', J.yld i H x H' → g x (L2.wipe σ own) H' fun σ2 H2 => L2.wipe σ2 own = L2.wipe σ own ∧ tt σ2 H2 fun b H3 => if b = true then tS1 w D wj h uu te vs σ2 H3 N else N H3)
variable {X : Cx} {wi wj : TI} {g h : TG} {tt uu : TT} {te : TE} {own : List (Str × Nat)} {vs : List Nat}
/-- the inner loop's part: the number, told and laid in -/
theorem bodyI_ok {D : Addr} {it : Value} {σb : L2.St} {Kn : L2.St → Prop} (hk : ∀ {σ'}, Kn σ' → Knows σb σ') (hx : X.xe = NoX) (he : PE X elt te) : BodyOk X (bodyI elt (sx elt t0 i0 t1 i1 fs0 fs1 sc pos) it (.ref D) X.env) (sx elt t0 i0 t1 i1 fs0 fs1 sc pos) 1 it (.ref D) σb Kn fun σ H N => te σ H (sadO X.w D N) := by
  intro pins s σ H N I kn q
  have q1 := he.run pins s σ H _ I q
  rw [hx] at q1
  refine wpAny_bind (wpAny_bind (thnF q1 fun u s1 ⟨y, H1, I1, ry, k, S, n, ey, hD, room, nx⟩ => wpAny_bind (wpAny_standAt (wpAny_bind ?_))))
  subst ey
  have q2 := mt_sadd pins s1 σ H1 (.ref D) [.int k] (.ref D) [u] (fun _ H' => N H') I1 rfl (.cons ry .nil) ⟨D, k, S, n, rfl, rfl, hD, room, nx⟩
  rw [hx] at q2
  exact thnF q2 fun _ s2 ⟨_, H2, I2, _, nx⟩ => wpAny_pure (wpAny_pure ⟨rfl, σ, H2, I2, hk kn, nx⟩)
/-- the outer loop's part: the inner loop, whole -/
theorem bodyO_ok {D : Addr} {it : Value} {ov : List Nat} {σ0 : L2.St} (hv : ∀ i ∈ vs, i ∈ ov) (hx : X.xe = NoX) (hc : X.calm = true) (hj : PI X t1 i1 wj) (hh : PG X t1 h) (hu : PTs X fs1 uu) (he : PE X elt te)
    (hs : ∀ x, foldedSetIterable i1 X.env x = pure x) : BodyOk X (bodyO i1 (sx elt t0 i0 t1 i1 fs0 fs1 sc pos) it (.ref D) X.env) (sx elt t0 i0 t1 i1 fs0 fs1 sc pos) 0 it (.ref D) (L2.wipe σ0 ov) (fun σ' => L2.wipe σ' ov = L2.wipe σ0 ov)
      fun σ H N => tS1 X.w D wj h uu te vs σ H N := by
  intro pins s σ H N I kn q
  have q1 := hj.run pins s σ H _ I q
  rw [hx] at q1
  refine wpAny_bind (thnF q1 fun x s1 h1 => wpAny_bind (wpAny_standAt (wpAny_bind (wpAny_of_eq (hs x) (wpAny_bind (wpAny_holding (thnF h1 fun u s2 h2 => wpAny_bind (wpAny_runOwn ?_))))))))
  rw [Around.mark_none]
  obtain ⟨it1, fp, tn, J, H2, rfl, I2, T, st2, f2, W, ⟨m0, w0⟩, turn⟩ := h2
  have kw : Knows (L2.wipe σ0 ov) (L2.wipe σ vs) := Knows.inner hv kn
  have loop := lvl_walk (X := X) (pins := pins) (σb := L2.wipe σ vs) (p := i1.pos) (ifs := fs1) (acc := .ref D) (R := fun r s' => match r with
      | .ok _ => ∃ H', Inv X pins (L2.wipe σ vs) H' s' ∧ N H'
      | .error _ => False) (W := W) (Kn := fun σ' => L2.wipe σ' vs = L2.wipe σ vs) ⟨_, _, _, _, rfl⟩ Knows.wiped hx hc T hh hu (turnS_i (elt := elt) (t0 := t0) (i0 := i0) (fs0 := fs0) (sc := sc) (pos := pos) (.ref it1) (.ref D) X.env) (fun {_ H' _} _ hn b hb => ⟨hn b hb, (f2 b hb).2⟩)
    (bodyI_ok Knows.wiped hx he) (fun j m H3 w3 => (turn j m H3 w3).imp (fun ⟨a, b⟩ => ⟨a, fun s' I' => ⟨H3, I', b⟩⟩) fun z => z) w0 (I2.weak (L2.wipe_length _ _) fun j v e => (L2.wipe_some e).1) st2 fun b hb => (f2 b hb).1
  refine codeAny_mono (lvl_start ⟨_, _, _, _, rfl⟩ rfl loop (T.self X.A 0 _ _ _ st2 loop)) fun r s' hr => ?_
  cases r with
  | error _ => exact hr.elim
  | ok f =>
    obtain ⟨H', I', nx⟩ := hr
    exact wpAny_pure ⟨rfl, _, H', I', kw, nx⟩
end
end Sw
namespace Sw
open PySem PySem.Spec PyProof.Rows L2
open Classical
section
variable {elt t0 i0 t1 i1 : Expr} {fs0 fs1 : List Expr} {sc : Scope} {pos : Pos} {X : Cx} {wi wj : TI} {g h : TG} {tt uu : TT} {te : TE} {own : List (Str × Nat)} {vs : List Nat}
/-- the block, begun at s3 -/
theorem s2_blk {pins : List (Addr × Obj)} {σ : L2.St} {H3 : Hp} {s3 : Shared} {Q : VK} {it D : Addr} {fp : List Addr} {tn : Nat → Heap → Prop} {J : It} {W : Nat → Nat → Hp → Prop} {m0 : Nat} (hc : X.calm = true) (hN : X.N.Nodup) (I3 : Inv X pins σ H3 s3) (ok : BlkOk X.N X.env.scope sc own) (hv : ∀ i ∈ vs, i ∈ own.map (·.2))
    (T : Turn X.prog X.w X.K t0 J fp it tn) (st3 : tn 0 s3.heap) (f3 : ∀ b ∈ fp, FpOk X pins H3 b ∧ b < s3.heap.objs.size)
    (hg : ∀ (s : Shared) (H : Hp) (C : Addr) (cl : List (Str × Addr)) (fp : List Addr), PG (X.blk s H sc (compEnvC sc cl C X.env) fp) t0 g) (ht : ∀ (s : Shared) (H : Hp) (C : Addr) (cl : List (Str × Addr)) (fp : List Addr), PTs (X.blk s H sc (compEnvC sc cl C X.env) fp) fs0 tt)
    (hj : ∀ (s : Shared) (H : Hp) (C : Addr) (cl : List (Str × Addr)) (fp : List Addr), PI (X.blk s H sc (compEnvC sc cl C X.env) fp) t1 i1 wj) (hh : ∀ (s : Shared) (H : Hp) (C : Addr) (cl : List (Str × Addr)) (fp : List Addr), PG (X.blk s H sc (compEnvC sc cl C X.env) fp) t1 h)
    (hu : ∀ (s : Shared) (H : Hp) (C : Addr) (cl : List (Str × Addr)) (fp : List Addr), PTs (X.blk s H sc (compEnvC sc cl C X.env) fp) fs1 uu) (he : ∀ (s : Shared) (H : Hp) (C : Addr) (cl : List (Str × Addr)) (fp : List Addr), PE (X.blk s H sc (compEnvC sc cl C X.env) fp) elt te)
    (hs1 : ∀ env x, foldedSetIterable i1 env x = pure x) (w0 : W 0 m0 H3)
    (turn : ∀ i m H, W i m H → (J.stop i H ∧ Q (.ref D) H) ∨ (J.go i H ∧ ∃ N : Hp → Prop, (∀ H', N H' → ∃ m', m' < m ∧ W (i + 1) m' H') ∧
      ∀ x H', J.yld i H x H' → g x (L2.wipe σ (own.map (·.2))) H' fun σ2 H2 => L2.wipe σ2 (own.map (·.2)) = L2.wipe σ (own.map (·.2)) ∧ tt σ2 H2 fun b H3 => if b = true then tS1 X.w D wj h uu te vs σ2 H3 N else N H3)) :
    codeAny (model X.prog X.w) X.A (.compStart (sx elt t0 i0 t1 i1 fs0 fs1 sc pos) 0 (.ref it) (.ref D) (compEnvC sc (cellsFrom (s3.heap.objs.size + 1) sc.names (cloFrom X.env.cells sc.names [])) s3.heap.objs.size X.env))
      (compPost (model X.prog X.w) X.A X.xe none (EP X pins σ Q) (.ref D) s3.heap.objs.size) { s3 with heap := pushCells (s3.heap.push { cls := .type "dict", data := .dict #[] }) sc.names } := by
  have I4 := block_start I3 ok hN f3
  have p1 := hg s3 H3 s3.heap.objs.size (cellsFrom (s3.heap.objs.size + 1) sc.names (cloFrom X.env.cells sc.names [])) fp
  have p2 := ht s3 H3 s3.heap.objs.size (cellsFrom (s3.heap.objs.size + 1) sc.names (cloFrom X.env.cells sc.names [])) fp
  have p3 := hj s3 H3 s3.heap.objs.size (cellsFrom (s3.heap.objs.size + 1) sc.names (cloFrom X.env.cells sc.names [])) fp
  have p4 := hh s3 H3 s3.heap.objs.size (cellsFrom (s3.heap.objs.size + 1) sc.names (cloFrom X.env.cells sc.names [])) fp
  have p5 := hu s3 H3 s3.heap.objs.size (cellsFrom (s3.heap.objs.size + 1) sc.names (cloFrom X.env.cells sc.names [])) fp
  have p6 := he s3 H3 s3.heap.objs.size (cellsFrom (s3.heap.objs.size + 1) sc.names (cloFrom X.env.cells sc.names [])) fp
  have cL : (compEnvC sc (cellsFrom (s3.heap.objs.size + 1) sc.names (cloFrom X.env.cells sc.names [])) s3.heap.objs.size X.env).locals = s3.heap.objs.size := rfl
  generalize compEnvC sc (cellsFrom (s3.heap.objs.size + 1) sc.names (cloFrom X.env.cells sc.names [])) s3.heap.objs.size X.env = ce at I4 p1 p2 p3 p4 p5 p6 cL ⊢
  have st4 : tn 0 (pushCells (s3.heap.push { cls := .type "dict", data := .dict #[] }) sc.names) := T.keep _ _ _ st3 fun b _ o e => pushCells_keeps _ _ _ _ (Heap.get?_push_of_some _ e)
  have loop := lvl_walk (X := X.blk s3 H3 sc ce fp) (pins := []) (σb := L2.wipe σ (own.map (·.2))) (p := i0.pos) (ifs := fs0) (acc := .ref D) (R := compPost (model X.prog X.w) X.A X.xe none (EP X pins σ Q) (.ref D) s3.heap.objs.size) (W := W)
    (Kn := fun σ' => L2.wipe σ' (own.map (·.2)) = L2.wipe σ (own.map (·.2))) ⟨_, _, _, _, rfl⟩ Knows.wiped rfl hc T p1 p2 (turnS_o (elt := elt) (t1 := t1) (fs1 := fs1) (sc := sc) (pos := pos) (.ref it) (.ref D) ce)
    (fun {_ H' _} I' hn b hb => ⟨hn b hb, (I'.ok.exf b hb).1, I'.ok.exfs b hb, .inl hb, fun x c e => (I'.ok.exf b hb).2 x c e, fun p hp => absurd (show p ∈ ([] : List (Addr × Obj)) ++ [] from hp) (by simp)⟩)
    (bodyO_ok (X := X.blk s3 H3 sc ce fp) hv rfl hc p3 p4 p5 p6 (hs1 ce))
    (fun i m H w => (turn i m H w).imp (fun ⟨a, q⟩ => ⟨a, fun s6 I6 => by
      have I7 : Inv X pins σ H s6 := I3.call' (ch := fp) I6.os I6.base I6.hok I6.bare fun b hb =>
        have ⟨⟨_, f1, f2, f3, f4, f5⟩, _⟩ := f3 b hb
        ⟨f3, f1, f4, f5⟩
      have nC : H s3.heap.objs.size = none := by rw [← cL]; exact I6.free
      obtain ⟨n, hn, _⟩ := I6.loc
      have hn : s6.heap.Ns ce.locals n := hn
      rw [cL] at hn
      obtain ⟨e0, e1, e2, e3, e4, e5⟩ := I3.fpOk (Nat.le_refl _) nC
      exact ⟨n, hn, fun h' sb => ⟨.ref D, H, I7.turned (t' := s6.toks) (fun b o hb e => (sb.2 b hb).trans e) e0 e1 e3 e4 e5, rfl, q⟩⟩⟩) fun z => z) w0 I4 st4 fun b hb => (f3 b hb).1.1
  exact lvl_start ⟨_, _, _, _, rfl⟩ rfl loop (T.self X.A 0 _ _ _ st4 loop)
theorem pe_s2 (hc : X.calm = true) (hN : X.N.Nodup) (hi : PI X t0 i0 wi) (ok : BlkOk X.N X.env.scope sc own) (hv : ∀ i ∈ vs, i ∈ own.map (·.2))
    (hg : ∀ (s : Shared) (H : Hp) (C : Addr) (cl : List (Str × Addr)) (fp : List Addr), PG (X.blk s H sc (compEnvC sc cl C X.env) fp) t0 g) (ht : ∀ (s : Shared) (H : Hp) (C : Addr) (cl : List (Str × Addr)) (fp : List Addr), PTs (X.blk s H sc (compEnvC sc cl C X.env) fp) fs0 tt)
    (hj : ∀ (s : Shared) (H : Hp) (C : Addr) (cl : List (Str × Addr)) (fp : List Addr), PI (X.blk s H sc (compEnvC sc cl C X.env) fp) t1 i1 wj) (hh : ∀ (s : Shared) (H : Hp) (C : Addr) (cl : List (Str × Addr)) (fp : List Addr), PG (X.blk s H sc (compEnvC sc cl C X.env) fp) t1 h)
    (hu : ∀ (s : Shared) (H : Hp) (C : Addr) (cl : List (Str × Addr)) (fp : List Addr), PTs (X.blk s H sc (compEnvC sc cl C X.env) fp) fs1 uu) (he : ∀ (s : Shared) (H : Hp) (C : Addr) (cl : List (Str × Addr)) (fp : List Addr), PE (X.blk s H sc (compEnvC sc cl C X.env) fp) elt te)
    (hs : ∀ x, foldedSetIterable i0 X.env x = pure x) (hs1 : ∀ env x, foldedSetIterable i1 env x = pure x) :
    PE X (sx elt t0 i0 t1 i1 fs0 fs1 sc pos) (tS2 X.w wi g tt wj h uu te (own.map (·.2)) vs) := by
  refine ⟨fun pins s σ H Q I q0 => ?_⟩
  rw [PpSet.eval_SetComp]
  have hfree : ∀ y ∈ sc.names, y.2 = .free → ∃ c, X.env.cells.lookup y.1 = some c := fun y hy e =>
    (ok.free y hy e).elim (fun z => I.ok.has _ (.inl z)) fun z => I.ok.has _ (.inr z)
  refine wpAny_comprehension_free rfl hs (closure_ok hfree) ok.kind (fun y hy e => by rw [ok.uniq y hy, e]) (thn (hi.run pins s σ H _ I q0) fun xv s1 h1 => thn h1 fun u s2 h2 => ?_)
  obtain ⟨it, fp, tn, J, H2, rfl, I2, T, st2, f2, q⟩ := h2
  refine PpSet.newSet_ok (newEnv_comp ?_)
  have hDn : H2 s2.heap.objs.size = none := I2.hok.fresh (Nat.le_refl _)
  obtain ⟨W, ⟨m0, w0⟩, turn⟩ := q _ hDn
  have lt : ∀ b ∈ fp, b < s2.heap.objs.size := fun b hb =>
    have ⟨o, e, _⟩ := T.obj _ _ st2 b hb
    Heap.lt_size e
  refine s2_blk (s3 := { s2 with heap := s2.heap.push { cls := .type "set", dict := none, data := .set #[] 0 (.fresh 0 0 (!X.w.params.followText "set-order")) } }) hc hN
    (I2.laid (t' := s2.toks) (fun b o e => Heap.get?_push_of_some _ e) (Nat.le_refl _) (setO_new (setR_fresh X.w))) ok hv T (T.keep _ _ _ st2 fun b _ o e => Heap.get?_push_of_some _ e)
    (fun b hb => ⟨⟨by rw [upd_ne (Nat.ne_of_lt (lt b hb))]; exact (f2 b hb).1, (f2 b hb).2⟩, by
      show b < (s2.heap.push _).objs.size
      rw [Heap.size_push]
      exact Nat.lt_succ_of_lt (lt b hb)⟩) hg ht hj hh hu he hs1 w0 turn
end
end Sw
namespace Sw
open PySem PySem.Spec PyProof.Rows L2
open Classical
/-! ### sorted({..}) of whole numbers -/
def toI : T → Int
  | .int k => k
  | _ => 0
def isI : T → Bool
  | .int _ => true
  | _ => false
theorem isI_of {t : T} (h : isI t = true) : ∃ k, t = .int k := by
  cases t <;> first | exact ⟨_, rfl⟩ | cases h
theorem mem_toI {ts : List T} {k : Int} (h : ts.all isI = true) : k ∈ ts.map toI ↔ T.int k ∈ ts := by
  constructor
  · intro m
    obtain ⟨t, ht, e⟩ := List.mem_map.mp m
    obtain ⟨j, rfl⟩ := isI_of (List.all_eq_true.mp h t ht)
    have e : j = k := e
    rw [← e]
    exact ht
  · exact fun m => List.mem_map.mpr ⟨_, m, rfl⟩
def insK (k : Int) : List Int → List Int
  | [] => [k]
  | x :: xs => if k < x then k :: x :: xs else if k = x then x :: xs else x :: insK k xs
def sortK : List Int → List Int
  | [] => []
  | k :: ks => insK k (sortK ks)
theorem insK_mem {k j : Int} : ∀ {l : List Int}, j ∈ insK k l ↔ j = k ∨ j ∈ l
  | [] => by simp [insK]
  | x :: xs => by
    unfold insK
    split
    · simp
    · split
      · rename_i h
        simp [h]
      · rw [List.mem_cons, insK_mem, List.mem_cons]
        constructor
        · rintro (h | h | h) <;> simp [h]
        · rintro (h | h | h) <;> simp [h]
theorem insK_asc {k : Int} : ∀ {l : List Int}, l.Pairwise (· < ·) → (insK k l).Pairwise (· < ·)
  | [], _ => by simp [insK]
  | x :: xs, h => by
    obtain ⟨h1, h2⟩ := List.pairwise_cons.mp h
    unfold insK
    split
    · rename_i hk
      exact List.pairwise_cons.mpr ⟨fun y hy => (List.mem_cons.mp hy).elim (fun e => by rw [e]; exact hk) fun m => Int.lt_trans hk (h1 y m), h⟩
    · split
      · exact h
      · refine List.pairwise_cons.mpr ⟨fun y hy => (insK_mem.mp hy).elim (fun e => by omega) (h1 y), insK_asc h2⟩
theorem sortK_mem {j : Int} : ∀ {l : List Int}, j ∈ sortK l ↔ j ∈ l
  | [] => Iff.rfl
  | k :: ks => by
    unfold sortK
    rw [insK_mem, sortK_mem, List.mem_cons]
theorem sortK_asc : ∀ l : List Int, (sortK l).Pairwise (· < ·)
  | [] => List.Pairwise.nil
  | k :: ks => insK_asc (sortK_asc ks)
theorem asc_ext : ∀ {a b : List Int}, a.Pairwise (· < ·) → b.Pairwise (· < ·) → (∀ k, k ∈ a ↔ k ∈ b) → a = b
  | [], [], _, _, _ => rfl
  | [], y :: ys, _, _, h => nomatch (h y).mpr List.mem_cons_self
  | x :: xs, [], _, _, h => nomatch (h x).mp List.mem_cons_self
  | x :: xs, y :: ys, ha, hb, h => by
    obtain ⟨a1, a2⟩ := List.pairwise_cons.mp ha
    obtain ⟨b1, b2⟩ := List.pairwise_cons.mp hb
    have e : x = y := by
      rcases List.mem_cons.mp ((h x).mp List.mem_cons_self) with e | e
      · exact e
      · rcases List.mem_cons.mp ((h y).mpr List.mem_cons_self) with e2 | e2
        · exact e2.symm
        · have := a1 y e2
          have := b1 x e
          omega
    subst e
    rw [asc_ext a2 b2 fun k => ⟨fun m => ?_, fun m => ?_⟩]
    · rcases List.mem_cons.mp ((h k).mp (List.mem_cons_of_mem _ m)) with e | e
      · have := a1 k m
        omega
      · exact e
    · rcases List.mem_cons.mp ((h k).mpr (List.mem_cons_of_mem _ m)) with e | e
      · have := b1 k m
        omega
      · exact e
theorem rep_intl {K : PySem.W.Frag} {g : Gh} : ∀ ks : List Int, RepL K g (ks.map T.int) (ks.map V.int)
  | [] => .nil
  | k :: ks => RepL.app (RepL.one (rt_int k)) (rep_intl ks)
noncomputable def fSort2 (mi : M Itr) (own vs1 : List Nat) (tg : Tg) (test : M Bool) (mi1 : M Itr) (tg1 : Tg) (test1 : M Bool) (elt : M T) : M Ob := do
  let it ← mi
  fun st => if own.all (fun v => notOwn st.σ[v]?) = true then
      match lc2L it.chk own vs1 tg test mi1 tg1 test1 elt it.ts { st with σ := wipeS st.σ own } with
      | some (ys, st') => if ys.all isI = true ∧ ys.length ≤ 63 then some (.ok (.lst ((sortK (ys.map toI)).map .int)), { st' with σ := restS st.σ st'.σ own }) else none
      | none => none
    else none
section
variable {E : Ev} {g g1 : Gh} {H H1 : Hp} {σ : L2.St} {X : Cx} {pos : Pos} {w : World}
/-- what stays true at each step within: D the new set -/
structure InS (E : Ev) (w : World) (g1 : Gh) (H1 : Hp) (D : Addr) (σV : L2.St) (g2 : Gh) (st2 : Stt) (acc : List T) (H2 : Hp) : Prop where
  rel : Rel E.K g2 st2 σV H2
  stp : Stp g1 g2 H1 H2
  own : g2.own D = .out
  at_ : ∃ S n, H2 D = some (SetO w D S n) ∧ (∀ k, S k = true ↔ T.int k ∈ acc) ∧ n ≤ acc.length
theorem InS.go {D : Addr} {σV σW : L2.St} {g2 g3 : Gh} {st2 st3 : Stt} {acc : List T} {H2 H3 : Hp} (a : InS E w g1 H1 D σV g2 st2 acc H2) (r : Rel E.K g3 st3 σW H3) (s : Stp g2 g3 H2 H3) : InS E w g1 H1 D σW g3 st3 acc H3 :=
  have ⟨S, n, e, h1, h2⟩ := a.at_
  have o := s.out D _ a.own e
  ⟨r, a.stp.trans s, o.1, S, n, o.2, h1, h2⟩
theorem InS.add {D : Addr} {σV : L2.St} {g2 : Gh} {st2 : Stt} {acc : List T} {H2 : Hp} {k : Int} {S : Int → Bool} {n : Nat} (a : InS E w g1 H1 D σV g2 st2 acc H2) (hD : H1 D = none) (e : H2 D = some (SetO w D S n)) (hS : ∀ k, S k = true ↔ T.int k ∈ acc) (hn : n ≤ acc.length) :
    InS E w g1 H1 D σV g2 st2 (acc ++ [.int k]) (upd H2 D (SetO w D (fun j => S j || decide (j = k)) (if S k = true then n else n + 1))) :=
  ⟨a.rel.outUpd a.own, ⟨a.stp.z, a.stp.n, a.stp.ρ, fun p o h1 h3 => by
    have := a.stp.out p o h1 h3
    refine ⟨this.1, ?_⟩
    rw [upd_ne (ne_of_none h3 hD)]
    exact this.2⟩, a.own, _, _, upd_same, fun j => by
      rw [Bool.or_eq_true, hS, List.mem_append, List.mem_singleton, decide_eq_true_eq]
      exact or_congr Iff.rfl ⟨fun e => by rw [e], fun e => by cases e; rfl⟩, by
      rw [List.length_append, List.length_singleton]
      split <;> omega⟩
theorem InS.wiped {D : Addr} {σV σW : L2.St} {own : List Nat} {g2 : Gh} {st2 : Stt} {acc : List T} {H2 : Hp} (a : InS E w g1 H1 D σV g2 st2 acc H2) (hw : L2.wipe σV own = σW) : InS E w g1 H1 D σW g2 { st2 with σ := wipeS st2.σ own } acc H2 :=
  ⟨by rw [← hw]; exact a.rel.wipe, a.stp, a.own, a.at_⟩
theorem s2_lift {own vs1 : List Nat} {mi mi1 : M Itr} {tg tg1 : Tg} {test test1 : M Bool} {elt : M T} (ht : ∀ i ∈ tg.ix, i ∈ own) (ht1 : ∀ i ∈ tg1.ix, i ∈ vs1) (hv : ∀ i ∈ vs1, i ∈ own) {Q : VK} (h : tfM E (fSort2 mi own vs1 tg test mi1 tg1 test1 elt) σ H Q) :
    tS2 w (tiM E [] mi) (tgM E.nox tg) (ttM E.nox test) (tiM E.nox [] mi1) (tgM E.nox tg1) (ttM E.nox test1) (teM E.nox elt) own vs1 σ H (fun v H1 => rSortedSet w [v] H1 Q) := by
  obtain ⟨g, h⟩ := h
  refine ⟨g, seq_any (Φ := fun g H => okF E g H σ Q) st_okF h fun it st1 k g1 H1 r1 s1 J ok D hD => ?_⟩
  obtain ⟨st, r, z⟩ := k g1 H1 r1 s1
  unfold run at z
  by_cases hc : own.all (fun v => notOwn st.σ[v]?) = true
  · simp only [if_pos hc] at z
    cases ez : lc2L it.chk own vs1 tg test mi1 tg1 test1 elt it.ts { st with σ := wipeS st.σ own } with
    | none => simp only [ez] at z
    | some p =>
      obtain ⟨zs, stE⟩ := p
      simp only [ez] at z
      by_cases hz : zs.all isI = true ∧ zs.length ≤ 63
      · simp only [if_pos hz] at z
        have oD : g1.own D = .out := r.fr D hD
        have a0 : InS E w g1 H1 D (L2.wipe σ own) g1 { st with σ := wipeS st.σ own } [] (upd H1 D (SetO w D (fun _ => false) 0)) :=
          ⟨r.wipe.outUpd oD, ⟨Same.refl _, Nat.le_refl _, fun _ _ => rfl, fun p o h1 h2 => ⟨h1, by rw [upd_ne (ne_of_none h2 hD)]; exact h2⟩⟩, oD, _, _, upd_same, fun k => ⟨(nomatch ·), (nomatch ·)⟩, Nat.le_refl _⟩
        refine ⟨fun i m H2 => ∃ g2 st2 acc rest, InS E w g1 H1 D (L2.wipe σ own) g2 st2 acc H2 ∧ m = it.ts.length - i ∧ i ≤ it.ts.length ∧ lc2L it.chk own vs1 tg test mi1 tg1 test1 elt (it.ts.drop i) st2 = some (rest, stE) ∧ zs = acc ++ rest,
          ⟨_, g1, _, [], zs, a0, rfl, Nat.zero_le _, ez, rfl⟩, ?_⟩
        rintro i m H2 ⟨g2, st2, acc, rest, a2, rfl, hi, e2, ezs⟩
        by_cases hlt : i < it.ts.length
        · rw [List.drop_eq_getElem_cons hlt] at e2
          unfold lc2L at e2
          by_cases hch : it.chk st2
          · rw [if_pos hch] at e2
            refine .inr ⟨ok.go g2 st2 _ H2 i a2.rel a2.stp.toG hch (fun j hj => nomatch hj) hlt, fun H3 => ∃ g3 st3 acc rest, InS E w g1 H1 D (L2.wipe σ own) g3 st3 acc H3 ∧ lc2L it.chk own vs1 tg test mi1 tg1 test1 elt (it.ts.drop (i + 1)) st3 = some (rest, stE) ∧ zs = acc ++ rest, ?_, ?_⟩
            · rintro H3 ⟨g3, st3, acc, rest, b1, b2, b3⟩
              exact ⟨it.ts.length - (i + 1), by omega, g3, st3, acc, rest, b1, rfl, hlt, b2, b3⟩
            · intro x H3 y
              obtain ⟨g3, t, r3, s3, et, rt⟩ := ok.yld g2 st2 _ H2 i x H3 a2.rel a2.stp.toG hch (fun j hj => nomatch hj) hlt y
              rw [List.getElem?_eq_getElem hlt] at et
              cases et
              cases ea : asgT tg it.ts[i] st2.σ with
              | none => rw [ea] at e2; cases e2
              | some σ' =>
                rw [ea] at e2
                simp only at e2
                refine ⟨g3, st2, it.ts[i], σ', r3, rt, ea, fun σV rV oV => ?_⟩
                have hw : L2.wipe σV own = L2.wipe σ own := oV.wipes ht
                refine ⟨hw, ?_⟩
                have a3 : InS E w g1 H1 D σV g3 { st2 with σ := σ' } acc H3 := a2.go rV s3
                refine ⟨g3, { st2 with σ := σ' }, rV, ?_⟩
                unfold run
                cases et : test { st2 with σ := σ' } with
                | none => rw [et] at e2; cases e2
                | some p =>
                  obtain ⟨rr, st4⟩ := p
                  rw [et] at e2
                  cases rr with
                  | exc x => cases e2
                  | ok b =>
                    intro g4 H4 r4 s4
                    have a4 := a3.go r4 s4
                    cases b with
                    | false =>
                      simp only at e2
                      exact iteF ⟨g4, _, acc, rest, a4.wiped hw, e2, ezs⟩
                    | true =>
                      simp only at e2
                      refine iteT ⟨g4, st4, r4, ?_⟩
                      unfold run
                      cases em : mi1 st4 with
                      | none => rw [em] at e2; cases e2
                      | some p =>
                        obtain ⟨rr, st5⟩ := p
                        rw [em] at e2
                        cases rr with
                        | exc x => cases e2
                        | ok it1 =>
                          intro g5 H5 r5 s5 J1 ok1
                          have a5 := a4.go r5 s5
                          simp only at e2
                          cases el : lcL it1.chk vs1 tg1 test1 elt it1.ts { st5 with σ := wipeS st5.σ vs1 } with
                          | none => rw [el] at e2; cases e2
                          | some p =>
                            obtain ⟨ys, st6⟩ := p
                            rw [el] at e2
                            simp only at e2
                            cases er : lc2L it.chk own vs1 tg test mi1 tg1 test1 elt (it.ts.drop (i + 1)) { st6 with σ := wipeS st6.σ own } with
                            | none => rw [er] at e2; cases e2
                            | some p =>
                              obtain ⟨rs, stF⟩ := p
                              rw [er] at e2
                              cases e2
                              have hww : L2.wipe (L2.wipe σV vs1) own = L2.wipe σ own := by rw [wipe_wipe hv]; exact hw
                              refine ⟨fun j k H6 => ∃ g6 st7 acc1 ys1, InS E w g1 H1 D (L2.wipe σV vs1) g6 st7 acc1 H6 ∧ GStp g5 g6 ∧ k = it1.ts.length - j ∧ j ≤ it1.ts.length ∧ lcL it1.chk vs1 tg1 test1 elt (it1.ts.drop j) st7 = some (ys1, st6) ∧ zs = acc1 ++ (ys1 ++ rs),
                                ⟨_, g5, _, acc, ys, a5.wiped rfl, ⟨Same.refl _, Nat.le_refl _, fun _ _ => rfl⟩, rfl, Nat.zero_le _, el, by rw [ezs]⟩, ?_⟩
                              rintro j k H6 ⟨g6, st7, acc1, ys1, a6, gs6, rfl, hj, e6, ez6⟩
                              by_cases hlt1 : j < it1.ts.length
                              · rw [List.drop_eq_getElem_cons hlt1] at e6
                                unfold lcL at e6
                                by_cases hch1 : it1.chk st7
                                · rw [if_pos hch1] at e6
                                  refine .inr ⟨ok1.go g6 st7 _ H6 j a6.rel gs6 hch1 (fun q hq => nomatch hq) hlt1, fun H7 => ∃ g7 st8 acc2 ys2, InS E w g1 H1 D (L2.wipe σV vs1) g7 st8 acc2 H7 ∧ GStp g5 g7 ∧ lcL it1.chk vs1 tg1 test1 elt (it1.ts.drop (j + 1)) st8 = some (ys2, st6) ∧ zs = acc2 ++ (ys2 ++ rs), ?_, ?_⟩
                                  · rintro H7 ⟨g7, st8, acc2, ys2, b1, b2, b3, b4⟩
                                    exact ⟨it1.ts.length - (j + 1), by omega, g7, st8, acc2, ys2, b1, b2, rfl, hlt1, b3, b4⟩
                                  · intro x1 H7 y1
                                    obtain ⟨g7, t1, r7, s7, et1, rt1⟩ := ok1.yld g6 st7 _ H6 j x1 H7 a6.rel gs6 hch1 (fun q hq => nomatch hq) hlt1 y1
                                    rw [List.getElem?_eq_getElem hlt1] at et1
                                    cases et1
                                    cases ea1 : asgT tg1 it1.ts[j] st7.σ with
                                    | none => rw [ea1] at e6; cases e6
                                    | some σ1' =>
                                      rw [ea1] at e6
                                      simp only at e6
                                      refine ⟨g7, st7, it1.ts[j], σ1', r7, rt1, ea1, fun σW rW oW => ?_⟩
                                      have hw1 : L2.wipe σW vs1 = L2.wipe σV vs1 := oW.wipes ht1
                                      refine ⟨hw1, ?_⟩
                                      have a7 : InS E w g1 H1 D σW g7 { st7 with σ := σ1' } acc1 H7 := a6.go rW s7
                                      have gs7 : GStp g5 g7 := gs6.trans s7.toG
                                      refine ⟨g7, { st7 with σ := σ1' }, rW, ?_⟩
                                      unfold run
                                      cases et2 : test1 { st7 with σ := σ1' } with
                                      | none => rw [et2] at e6; cases e6
                                      | some p =>
                                        obtain ⟨rr, st8⟩ := p
                                        rw [et2] at e6
                                        cases rr with
                                        | exc x => cases e6
                                        | ok b =>
                                          intro g8 H8 r8 s8
                                          have a8 := a7.go r8 s8
                                          have gs8 := gs7.trans s8.toG
                                          cases b with
                                          | false =>
                                            simp only at e6
                                            exact iteF ⟨g8, _, acc1, ys1, a8.wiped hw1, gs8, e6, ez6⟩
                                          | true =>
                                            simp only at e6
                                            refine iteT ⟨g8, st8, r8, ?_⟩
                                            unfold run
                                            cases ee : elt st8 with
                                            | none => rw [ee] at e6; cases e6
                                            | some p =>
                                              obtain ⟨rr, st9⟩ := p
                                              rw [ee] at e6
                                              cases rr with
                                              | exc x => cases e6
                                              | ok u =>
                                                intro g9 H9 r9 s9 v rv
                                                have a9 := a8.go r9 s9
                                                simp only at e6
                                                cases e7 : lcL it1.chk vs1 tg1 test1 elt (it1.ts.drop (j + 1)) { st9 with σ := wipeS st9.σ vs1 } with
                                                | none => rw [e7] at e6; cases e6
                                                | some p =>
                                                  obtain ⟨ys2, stG⟩ := p
                                                  rw [e7] at e6
                                                  cases e6
                                                  obtain ⟨k, rfl⟩ : ∃ k, u = .int k := isI_of (List.all_eq_true.mp hz.1 u (by rw [ez6]; simp))
                                                  obtain ⟨S, n, eD, hS, hn⟩ := a9.at_
                                                  have l2 : zs.length = acc1.length + (1 + ys2.length + rs.length) := by rw [ez6]; simp; omega
                                                  refine ⟨k, S, n, by unfold RepT at rv; exact rv, eD, by unfold scanBound; omega, g9, _, acc1 ++ [.int k], ys2, (a9.add hD eD hS hn).wiped hw1, gs8.trans s9.toG, e7, by rw [ez6]; simp⟩
                                · rw [if_neg hch1] at e6
                                  cases e6
                              · have e : j = it1.ts.length := by omega
                                subst e
                                rw [List.drop_length] at e6
                                unfold lcL at e6
                                by_cases hch1 : it1.chk st7
                                · rw [if_pos hch1] at e6
                                  cases e6
                                  exact .inl ⟨ok1.stop g6 _ _ H6 a6.rel gs6 hch1 (fun q hq => nomatch hq), g6, _, acc1, rs, a6.wiped hww, er, by rw [ez6]; simp⟩
                                · rw [if_neg hch1] at e6
                                  cases e6
          · rw [if_neg hch] at e2
            cases e2
        · have e : i = it.ts.length := by omega
          subst e
          rw [List.drop_length] at e2
          unfold lc2L at e2
          by_cases hch : it.chk st2
          · rw [if_pos hch] at e2
            cases e2
            refine .inl ⟨ok.stop g2 _ _ H2 a2.rel a2.stp.toG hch (fun j hj => nomatch hj), ?_⟩
            have rf := r.rest hc a2.rel a2.stp.toG
            rw [List.append_nil] at ezs
            subst ezs
            obtain ⟨S, n, eD, hS, hn⟩ := a2.at_
            refine ⟨D, S, n, rfl, eD, by omega, fun ns p h1 h2 h3 h4 => ?_⟩
            have en : ns = sortK (zs.map toI) := asc_ext h1 (sortK_asc _) fun k => by rw [h2, hS, sortK_mem, mem_toI hz.1]
            exact z g2 H2 rf a2.stp p (.lst (ns.map V.int)) h4 ⟨_, rfl, by rw [en]; exact rep_intl _⟩
          · rw [if_neg hch] at e2
            cases e2
      · simp only [if_neg hz] at z
  · simp only [if_neg hc] at z
section
variable {elt ta ia tb ib : Expr} {ifs jfs : List Expr} {scope : Scope} {mi mj : M Itr} {tg th : Tg} {test test2 : M Bool} {me : M T} {p : Pos}
theorem x_sort2 (G : Gd E X) (own : List (Str × Nat)) (vs : List Nat) (hm : X.mg "sorted" = none) (hi : IM E [] X ta ia mi)
    (hg : ∀ (s : Shared) (H : Hp) (C : Addr) (cl : List (Str × Addr)) (fp : List Addr), GM E.nox (X.blk s H scope (compEnvC scope cl C X.env) fp) ta tg) (hq : ∀ (s : Shared) (H : Hp) (C : Addr) (cl : List (Str × Addr)) (fp : List Addr), QM E.nox (X.blk s H scope (compEnvC scope cl C X.env) fp) ifs test)
    (hj : ∀ (s : Shared) (H : Hp) (C : Addr) (cl : List (Str × Addr)) (fp : List Addr), IM E.nox [] (X.blk s H scope (compEnvC scope cl C X.env) fp) tb ib mj) (hh : ∀ (s : Shared) (H : Hp) (C : Addr) (cl : List (Str × Addr)) (fp : List Addr), GM E.nox (X.blk s H scope (compEnvC scope cl C X.env) fp) tb th)
    (hk : ∀ (s : Shared) (H : Hp) (C : Addr) (cl : List (Str × Addr)) (fp : List Addr), QM E.nox (X.blk s H scope (compEnvC scope cl C X.env) fp) jfs test2) (he : ∀ (s : Shared) (H : Hp) (C : Addr) (cl : List (Str × Addr)) (fp : List Addr), ME E.nox (X.blk s H scope (compEnvC scope cl C X.env) fp) elt me)
    (ok : BlkOk X.N X.env.scope scope own) (ht : ∀ i ∈ tg.ix, i ∈ own.map (·.2) := by decide) (ht2 : ∀ i ∈ th.ix, i ∈ vs := by decide) (hv : ∀ i ∈ vs, i ∈ own.map (·.2) := by decide) (hs : ∀ x, foldedSetIterable ia X.env x = pure x := by intro _; rfl) (hs2 : ∀ env x, foldedSetIterable ib env x = pure x := by intro _ _; rfl) (hgl : Gl X "sorted" := by rfl)
    (hse : starEach [sx elt ta ia tb ib ifs jfs scope pos] X.env = (false, eval (sx elt ta ia tb ib ifs jfs scope pos) X.env) :: starEach [] X.env := by rfl) (hpl : (backTo pos (starEach [] X.env)).any (·.1) = false := by rfl) {cpos : Pos} :
    FE E X (.Call (.Name "sorted" p) [.SetComp elt [⟨ta, ia, ifs, 0⟩, ⟨tb, ib, jfs, 0⟩] scope pos] [] cpos) (fSort2 mi (own.map (·.2)) vs tg test mj th test2 me) :=
  ⟨PE.mono (pe_callB (cr_sortedSet G.calm) hgl hm (by decide +kernel)
      (pa_cons (pe_s2 G.calm G.nd hi.pi ok hv (fun s H C cl fp => (hg s H C cl fp).pg) (fun s H C cl fp => (hq s H C cl fp).pts) (fun s H C cl fp => (hj s H C cl fp).pi) (fun s H C cl fp => (hh s H C cl fp).pg) (fun s H C cl fp => (hk s H C cl fp).pts) (fun s H C cl fp => (he s H C cl fp).pe) hs hs2) pa_nil hse)
      (by decide) (by decide) hse (by rfl)) fun _ _ _ q => s2_lift ht ht2 hv q⟩
end
end
end Sw
set_option maxHeartbeats 4000000
namespace Sw
open PySem PySem.Spec PyProof.Rows L2
open Classical
/-! ### set(xs) of a list of whole numbers -/
section
variable {P : Program} {w : World} {A : Around} {E : Value → Shared → Prop} {s : Shared}
abbrev eSet (w : World) : Obj := { cls := .type "set", dict := none, data := .set #[] 0 (.fresh 0 0 (!w.params.followText "set-order")) }
abbrev putSet1 (w : World) (s : Shared) : Shared := { s with heap := s.heap.push (eSet w) }
/-- what is to stand behind the filling of the set that came at the heap's end -/
abbrev Filled (w : World) (s : Shared) (ns : List Int) (s2 : Shared) : Prop :=
  ∃ h' tk c, s2 = { s with heap := h', toks := tk } ∧ SetR w h' s.heap.objs.size (fun j => decide (j ∈ ns)) c ∧ ∀ b o, s.heap.get? b = some o → h'.get? b = some o
theorem set_of_list {l : Addr} {items : Array Value} {ns : List Int} {Q : Value → Shared → Prop} (hh : A.handled = none) (hl : s.heap.IsList l items) (hit : IntsAre items.toList ns) (hb : ns.length + 1 < scanBound)
    (h : ∀ s2, Filled w s ns s2 → Q (.ref s.heap.objs.size) s2) : wpAny (model P w) A (call (.type "set") [.ref l]) Q E s := by
  have many : items.size = ns.length := by rw [← Array.length_toList]; exact IntsAre.length hit
  obtain ⟨_, _, hmro⟩ := F.called_set.mro
  have m1 := F.called_set.made
  have m2 := F.called_set.sub
  refine wpAny_call (codeAny_of_tree ?_)
  show wpAny _ _ (callAny (.type "set") _) _ _ _
  refine wpAny_pure ⟨Code.quiet_builtin _ (by decide +kernel), codeAny_builtin F.entry_type_call ?_⟩
  rw [Around.under_plain (weight_type_call_type "set" [.ref l] []) rfl]
  have m3 := F.called_set.notType
  have m4 := F.called_set.canCreate
  have m5 := F.typeCall_set_1 (.ref l)
  repeat (any_goals (first | assumption | wp_step))
  refine codeAny_mono (code_set_led1 (.ref l) (E := E) (Q₁ := fun v s1 => v = .ref s.heap.objs.size ∧ s1 = putSet1 w s) ⟨rfl, rfl⟩) fun r s1 hr => ?_
  match r, hr with
  | .error e, hr => exact hr
  | .ok (.ret v), hr =>
    obtain ⟨rfl, rfl⟩ := hr
    have at0 : (putSet1 w s).heap.get? s.heap.objs.size = some (eSet w) := Heap.get?_push_size _ rfl
    have hT : (putSet1 w s).TypeIs (.ref s.heap.objs.size) "set" := ⟨_, at0, rfl⟩
    have m6 := F.called_set.init.lookup
    have m7 := F.called_set.init.bind (.ref s.heap.objs.size)
    repeat (any_goals (first | assumption | wp_step))
    refine codeAny_mono (codeAny_call_builtin (R := wants (fun v s2 => v = .none ∧ Filled w s ns s2) E) F.called_set.init.plain F.entry_set_init (check_set_init_1 hT ?_)) fun r2 s2 hr2 => ?_
    · obtain ⟨⟨ocls, odict, odata, oslots⟩, hol, hcl, nl, hdl⟩ := hl
      simp only at hcl hdl
      subst hcl
      subst hdl
      have atl : (putSet1 w s).heap.get? l = some { cls := .type "list", dict := odict, data := .seq items nl, slots := oslots } := Heap.get?_push_of_some _ hol
      have f1 := F.sub_list_set
      have f2 := F.sub_list_frozenset
      have f3 : (Value.type "list" == Value.type "dict") = false := by decide
      have isl : (putSet1 w s).heap.IsList l items := ⟨_, atl, rfl, nl, rfl⟩
      have lt := Heap.lt_size hol
      have sz : (s.heap.push (eSet w)).objs.size = s.heap.objs.size + 1 := Heap.size_push ..
      unfold Builtin.«set.__init__» noKeywords Builtin.Frozenset.updateFrom
      generalize hit2 : pyIter = walkOf
      wp_walk
      subst hit2
      refine wpAny_pyIter_list isl ?_
      refine wpAny_bind (wpAny_runValue ?_)
      have h3 : A.in1.in1.in1.handled = none := by simp [hh]
      have ne1 : l ≠ (s.heap.push (eSet w)).objs.size := by
        rw [sz]
        exact Nat.ne_of_lt (Nat.lt_succ_of_lt lt)
      have out : s.heap.objs.size ∉ [(s.heap.push (eSet w)).objs.size, l] := by
        simp only [List.mem_cons, List.not_mem_nil, or_false, not_or]
        rw [sz]
        exact ⟨Nat.ne_of_lt (Nat.lt_succ_self _), Nat.ne_of_gt lt⟩
      have val : ∀ (i : Nat) (v : Value), items[i]? = some v → ∃ k t, ns[i]? = some k ∧ v = .int k t := fun i v hv => by
        obtain ⟨t, e⟩ := PyProof.Rows.IntsAre.int_at hit i v (by rw [Array.getElem?_toList]; exact hv)
        have hi := (Array.getElem?_eq_some_iff.mp hv).1
        have hi2 : i < ns.length := by omega
        refine ⟨ns[i], t, List.getElem?_eq_getElem hi2, ?_⟩
        rw [e, List.getD_eq_getElem?_getD, List.getElem?_eq_getElem hi2] <;> rfl
      refine set_update_ints (Walks.list h3 _ l ne1 items).toS s.heap.objs.size out ns many hb val (items.size - 0) 0 _ rfl (Nat.zero_le _) ⟨⟨_, Heap.get?_push_size _ rfl, rfl, rfl⟩, isl.push _⟩
        ⟨0, Nat.le_refl 0, setR_new_at (Heap.get?_push_of_some _ at0)⟩ fun s3 c mv _ R3 => ?_
      obtain ⟨h3, g3, d3, t3, o3⟩ := s3
      obtain rfl : g3 = s.gens := mv.gens
      obtain rfl : d3 = s.drawn := mv.drawn
      obtain rfl : o3 = s.os := mv.os
      show wpAny _ _ _ _ _ _
      refine wpAny_pure ?_
      show wpAny _ _ (ret Value.none) _ _ _
      refine wpAny_pure ⟨rfl, h3, t3, c, rfl, R3, fun b o e => ?_⟩
      have := Heap.lt_size e
      refine mv.heap b o ?_ (Heap.get?_push_of_some _ (Heap.get?_push_of_some _ e))
      simp only [List.mem_cons, List.not_mem_nil, or_false, not_or]
      exact ⟨Nat.ne_of_lt this, Nat.ne_of_lt (Nat.lt_of_lt_of_le (Nat.lt_succ_of_lt this) (Nat.le_of_eq sz.symm))⟩
    · match r2, hr2 with
      | .error e, hr2 => exact hr2
      | .ok (.ret v), hr2 =>
        obtain ⟨rfl, hf⟩ := hr2
        repeat (any_goals (first | assumption | wp_step))
        exact h _ hf
      | .ok .next, hr2 => exact hr2.elim
      | .ok .brk, hr2 => exact hr2.elim
      | .ok .cont, hr2 => exact hr2.elim
  | .ok .next, hr => exact hr.elim
  | .ok .brk, hr => exact hr.elim
  | .ok .cont, hr => exact hr.elim
end
end Sw
namespace Sw
open PySem PySem.Spec PyProof.Rows L2
open Classical
/-! ### sorted(set(xs)), len(set(xs)) -/
theorem setR_many {w : World} {h : Heap} {a : Addr} {ks : List Int} {c : Nat} (R : SetR w h a (fun j => decide (j ∈ ks)) c) : c = (sortK ks).length := by
  obtain ⟨o, es, ep, t, _, _, _, _, nd, hm, _, _, hn, _⟩ := R
  have pm : (es.toList.map L2.keyOf).Perm (sortK ks) := (List.perm_ext_iff_of_nodup nd ((sortK_asc ks).imp fun h => Int.ne_of_lt h)).mpr fun k => by rw [← hm k, sortK_mem, decide_eq_true_eq]
  rw [← pm.length_eq, List.length_map, Array.length_toList, hn]
def rSetL (K : PySem.W.Frag) (w : World) : List V → Hp → VK → Prop := fun vs H Q => ∃ (l : Addr) (ks : List Int), vs = [V.ref l] ∧ SqL K H l (ks.map V.int) ∧ ks.length ≤ 1000 ∧ ∀ D, H D = none → Q (.ref D) (upd H D (SetO w D (fun j => decide (j ∈ ks)) (sortK ks).length))
def rLenS (w : World) : List V → Hp → VK → Prop := fun vs H Q => ∃ (a : Addr) (S : Int → Bool) (n : Nat), vs = [V.ref a] ∧ H a = some (SetO w a S n) ∧ n ≤ 1000 ∧ Q (.int n) H
section
variable {X : Cx}
theorem cr_setL (hc : X.calm = true) : CallR X (.type "set") (rSetL X.K X.w) := by
  intro pins s σ H xs us Q I r h
  obtain ⟨l, ks, rfl, hl, hk, q⟩ := h
  rw [Vals.ref1 r]
  obtain ⟨its, rv, pl, hz⟩ := I.list hl
  refine set_of_list (ns := ks) (I.ok.hd hc) pl.isList (by simpa using RZ.intsAre_vals rv) (by unfold scanBound; omega) fun s2 ⟨h', tk, c, e, R, k⟩ => ?_
  rw [e]
  obtain rfl := setR_many R
  exact ⟨.ref _, upd H s.heap.objs.size (SetO X.w s.heap.objs.size (fun j => decide (j ∈ ks)) (sortK ks).length), I.laid (t' := tk) k (Nat.le_refl _) (setO_new R), rfl, q _ (I.hok.fresh (Nat.le_refl _))⟩
theorem cr_lenS : CallR X (.builtin "len") (rLenS X.w) := by
  intro pins s σ H xs us Q I r h
  obtain ⟨a, S, n, rfl, ha, hn, q⟩ := h
  rw [Vals.ref1 r]
  obtain ⟨o, es, ep, t, ho, hex, hd, _, _, _, _, hf, he, _⟩ := setO_get I ha
  exact call_len_set ho hex hd hf (by rw [he]; omega) ⟨.int n, H, I.tok _, ⟨_, by rw [he]⟩, q⟩
end
def sortSetO : List T → Option (List T)
  | [.fz ts] => if ts.all isI = true ∧ ts.length ≤ 1000 ∧ (sortK (ts.map toI)).length ≤ 63 then some ((sortK (ts.map toI)).map .int) else none
  | _ => none
def lenSetO : List T → Option T
  | [.fz ts] => if ts.all isI = true ∧ ts.length ≤ 1000 then some (.int (sortK (ts.map toI)).length) else none
  | _ => none
theorem insK_len {k : Int} : ∀ {l : List Int}, (insK k l).length ≤ l.length + 1
  | [] => by simp [insK]
  | x :: xs => by
    unfold insK
    split
    · simp
    · split
      · simp
      · have := insK_len (k := k) (l := xs)
        simp only [List.length_cons]
        omega
theorem sortK_len : ∀ {l : List Int}, (sortK l).length ≤ l.length
  | [] => Nat.le_refl _
  | k :: ks => Nat.le_trans insK_len (Nat.succ_le_succ sortK_len)
theorem ints_toI {ts : List T} (h : ts.all isI = true) : ts = (ts.map toI).map .int := by
  induction ts with
  | nil => rfl
  | cons t ts ih =>
    rw [List.all_cons, Bool.and_eq_true] at h
    obtain ⟨k, rfl⟩ := isI_of h.1
    rw [List.map_cons, List.map_cons, ← ih h.2]
    rfl
theorem rep_ints_of {K : PySem.W.Frag} {g : Gh} : ∀ {ks : List Int} {xs : List V}, RepL K g (ks.map .int) xs → xs = ks.map V.int
  | [], xs, h => by
    unfold RepL at h
    exact h
  | k :: ks, xs, h => by
    rw [List.map_cons] at h
    unfold RepL at h
    obtain ⟨x, r, rfl, h1, h2⟩ := h
    unfold RepT at h1
    rw [h1, rep_ints_of h2]
    rfl
section
variable {E : Ev} {g g1 : Gh} {H H1 : Hp} {σ : L2.St} {X : Cx} {pos p p2 q2 : Pos} {w : World} {e : Expr} {m : M (List Rdr)}
theorem set_arg {vs : List V} {ts : List T} (rk : RepKs E g H [.fz ts] vs) (h : ts.all isI = true) : ∃ a, vs = [.ref a] ∧ SqL E.K H a ((ts.map toI).map V.int) := by
  obtain ⟨v, rfl, rv⟩ := rk.one
  obtain ⟨a, xs, rfl, ha, rl⟩ := rv
  rw [ints_toI h] at rl
  rw [← rep_ints_of rl]
  exact ⟨a, rfl, .inl (.inl ha)⟩
theorem put_out {st : Stt} {D : Addr} {o : HO} (r : Rel E.K g st σ H) (hD : H D = none) : Rel E.K g st σ (upd H D o) ∧ Stp g g H (upd H D o) :=
  ⟨r.outUpd (r.fr D hD), ⟨Same.refl _, Nat.le_refl _, fun _ _ => rfl, fun b u h1 h2 => ⟨h1, by rw [upd_ne (ne_of_none h2 hD)]; exact h2⟩⟩⟩
theorem ss_lift {Q : VK} (h : tfM E (fCall sortSetO m) σ H Q) : tCB (rSortedSet w) (tCons (tCB (rSetL E.K w) (tolM E m)) tNil) σ H Q := by
  obtain ⟨g, q⟩ := h
  refine seqRL st_okF q fun rs vs g1 H1 s1 rl h1 => ?_
  obtain ⟨ts, rk, h2⟩ := at_rdM h1 rl
  obtain ⟨ob, st, e, r, z⟩ := at_ofO h2
  match ts, e, rk with
  | [.fz us], e, rk =>
    by_cases hz : us.all isI = true ∧ us.length ≤ 1000 ∧ (sortK (us.map toI)).length ≤ 63
    · have e : Option.map Ob.lst (sortSetO [.fz us]) = some ob := e
      unfold sortSetO at e
      simp only [if_pos hz, Option.map_some] at e
      cases e
      obtain ⟨a, rfl, ha⟩ := set_arg rk hz.1
      refine ⟨a, us.map toI, rfl, ha, by rw [List.length_map]; exact hz.2.1, fun D hD => ?_⟩
      refine ⟨D, _, _, rfl, upd_same, by omega, fun ns p h1 h2 h3 h4 => ?_⟩
      have en : ns = sortK (us.map toI) := asc_ext h1 (sortK_asc _) fun k => by rw [h2, decide_eq_true_eq, sortK_mem]
      obtain ⟨r2, s2⟩ := put_out (o := SetO w D (fun j => decide (j ∈ us.map toI)) (sortK (us.map toI)).length) r hD
      exact z g1 _ r2 s2 p (.lst (ns.map V.int)) h4 ⟨_, rfl, by rw [en]; exact rep_intl _⟩
    · have e : Option.map Ob.lst (sortSetO [.fz us]) = some ob := e
      unfold sortSetO at e
      simp only [if_neg hz] at e
      cases e
theorem ls_lift {Q : VK} (h : teM E (eCall lenSetO m) σ H Q) : tCB (rLenS w) (tCons (tCB (rSetL E.K w) (tolM E m)) tNil) σ H Q := by
  obtain ⟨g, q⟩ := h
  refine seqRL st_okT q fun rs vs g1 H1 s1 rl h1 => ?_
  obtain ⟨ts, rk, h2⟩ := at_rdM h1 rl
  obtain ⟨ob, st, e, r, z⟩ := at_ofO h2
  match ts, e, rk with
  | [.fz us], e, rk =>
    by_cases hz : us.all isI = true ∧ us.length ≤ 1000
    · have e : lenSetO [.fz us] = some ob := e
      unfold lenSetO at e
      simp only [if_pos hz] at e
      cases e
      obtain ⟨a, rfl, ha⟩ := set_arg rk hz.1
      refine ⟨a, us.map toI, rfl, ha, by rw [List.length_map]; exact hz.2, fun D hD => ?_⟩
      obtain ⟨r2, s2⟩ := put_out (o := SetO w D (fun j => decide (j ∈ us.map toI)) (sortK (us.map toI)).length) r hD
      have hl := sortK_len (l := us.map toI)
      rw [List.length_map] at hl
      exact ⟨D, _, _, rfl, upd_same, by omega, z g1 _ r2 s2 _ (rt_int _)⟩
    · have e : lenSetO [.fz us] = some ob := e
      unfold lenSetO at e
      simp only [if_neg hz] at e
      cases e
theorem x_sortset (G : Gd E X) (hm : X.mg "sorted" = none) (hm2 : X.mg "set" = none) (ha : OA E X [e] m) (hg : Gl X "sorted" := by rfl) (hg2 : Gl X "set" := by rfl)
    (he : starEach [e] X.env = (false, eval e X.env) :: starEach [] X.env := by rfl) (hpl : (backTo q2 (starEach [] X.env)).any (·.1) = false := by rfl) (he2 : starEach [.Call (.Name "set" p2) [e] [] q2] X.env = (false, eval (.Call (.Name "set" p2) [e] [] q2) X.env) :: starEach [] X.env := by rfl) (hpl2 : (backTo pos (starEach [] X.env)).any (·.1) = false := by rfl) :
    FE E X (.Call (.Name "sorted" p) [.Call (.Name "set" p2) [e] [] q2] [] pos) (fCall sortSetO m) :=
  ⟨PE.mono (pe_callB (cr_sortedSet G.calm) hg hm (by decide +kernel) (pa_cons (pe_callTy (G.K ▸ cr_setL G.calm) hg2 hm2 (by decide +kernel) ha.pa (by decide) (by decide) he hpl) pa_nil he2) (by decide) (by decide) he2 hpl2) fun _ _ _ q => ss_lift q⟩
theorem x_lenset (G : Gd E X) (hm : X.mg "len" = none) (hm2 : X.mg "set" = none) (ha : OA E X [e] m) (hg : Gl X "len" := by rfl) (hg2 : Gl X "set" := by rfl)
    (he : starEach [e] X.env = (false, eval e X.env) :: starEach [] X.env := by rfl) (hpl : (backTo q2 (starEach [] X.env)).any (·.1) = false := by rfl) (he2 : starEach [.Call (.Name "set" p2) [e] [] q2] X.env = (false, eval (.Call (.Name "set" p2) [e] [] q2) X.env) :: starEach [] X.env := by rfl) (hpl2 : (backTo pos (starEach [] X.env)).any (·.1) = false := by rfl) :
    ME E X (.Call (.Name "len" p) [.Call (.Name "set" p2) [e] [] q2] [] pos) (eCall lenSetO m) :=
  ⟨PE.mono (pe_callB cr_lenS hg hm (by decide +kernel) (pa_cons (pe_callTy (G.K ▸ cr_setL G.calm) hg2 hm2 (by decide +kernel) ha.pa (by decide) (by decide) he hpl) pa_nil he2) (by decide) (by decide) he2 hpl2) fun _ _ _ q => ls_lift q⟩
end
end Sw
namespace Sw
open PySem PySem.Spec PyProof.Rows L2
open Classical

/-! ### computations with no names: over the store alone -/
abbrev Q (α : Type) := List Ob → Option (R α × List Ob)
section
variable {α β γ δ : Type}
def qP (a : α) : Q α := fun S => some (.ok a, S)
def qZ : Q α := fun _ => none
def qB (m : Q α) (f : α → Q β) : Q β := fun S => match m S with
  | some (.ok a, S1) => f a S1
  | some (.exc x, S1) => some (.exc x, S1)
  | none => none
def qO (o : Option α) : Q α := match o with
  | some a => qP a
  | none => qZ
def qK (t : T) : Q T := fun S => match peekT S t with
  | some u => some (.ok u, S)
  | none => none
def qOp2 (f : T → T → Option T) (x y : T) : Q T := qB (qK x) fun a => qB (qK y) fun b => qO (f a b)
def qTr (t : T) : Q Bool := match t with
  | .bl b => qP b
  | _ => qZ
def qI (t : T) : Q Int := match t with
  | .int i => qP i
  | _ => qZ
def qKs : List T → Q (List T)
  | [] => qP []
  | t :: ts => qB (qK t) fun u => qB (qKs ts) fun us => qP (u :: us)
def qCall (f : List T → Option β) (xs : List T) : Q β := qB (qKs xs) fun ts => qO (f ts)
inductive F (γ α : Type) where
  | nxt (a : α) | brk (c : γ) | cnt (c : γ) | ret (t : T)
def qSeq (q : Q (F γ α)) (k : α → Q (F γ β)) : Q (F γ β) := qB q fun f => match f with
  | .nxt a => k a
  | .brk c => qP (.brk c)
  | .cnt c => qP (.cnt c)
  | .ret t => qP (.ret t)
def qFor (body : T → γ → Q (F γ γ)) : List T → γ → Q (F δ γ)
  | [], a => qP (.nxt a)
  | t :: ts, a => qB (body t a) fun f => match f with
    | .nxt a' => qFor body ts a'
    | .cnt a' => qFor body ts a'
    | .brk a' => qP (.nxt a')
    | .ret t => qP (.ret t)
def qWhile (test : γ → Q Bool) (body : γ → Q (F γ γ)) : Nat → γ → Q (F δ γ)
  | 0, _ => qZ
  | n + 1, a => qB (test a) fun b => if b then qB (body a) fun f => (match f with
      | .nxt a' => qWhile test body n a'
      | .cnt a' => qWhile test body n a'
      | .brk a' => qP (.nxt a')
      | .ret t => qP (.ret t)) else qP (.nxt a)
def qCompL (g : T → Q (Option T)) : List T → Q (List T)
  | [] => qP []
  | t :: ts => fun S => match g t S with
    | some (.ok o, S1) => match qCompL g ts S1 with
      | some (.ok ys, S2) => some (.ok (match o with | some y => y :: ys | none => ys), S2)
      | _ => none
    | _ => none
def qComp (g : T → Q (Option T)) (l : List T) : Q (List T) := if l.length ≤ 1000000 then qCompL g l else qZ
def un1 (t : T) (k : T → Q α) : Q α := match t with
  | .tup [x] => k x
  | _ => qZ
def un2 (t : T) (k : T → T → Q α) : Q α := match t with
  | .tup [x, y] => k x y
  | _ => qZ
def un3 (t : T) (k : T → T → T → Q α) : Q α := match t with
  | .tup [x, y, z] => k x y z
  | _ => qZ
def un4 (t : T) (k : T → T → T → T → Q α) : Q α := match t with
  | .tup [x, y, z, u] => k x y z u
  | _ => qZ
def un5 (t : T) (k : T → T → T → T → T → Q α) : Q α := match t with
  | .tup [x, y, z, u, v] => k x y z u v
  | _ => qZ
/-- the items of a thing that stands still -/
def qIt (t : T) : Q (List T) := match t with
  | .tup ts => qP ts
  | .str s => qP (s.map fun c => .str [c])
  | .fz ts => qP ts
  | _ => qZ
def qRange (t : T) : Q (List T) := match t with
  | .int n => if n ≤ 1000000 ∧ -1000000 ≤ n then qP ((List.range n.toNat).map fun k => .int (k : Nat)) else qZ
  | _ => qZ
def qEnum (t : T) : Q (List T) := match t with
  | .fz ts => qP (enumT ts)
  | _ => qZ
def qZip (t u : T) : Q (List T) := match t, u with
  | .tup ts, .tup us => qP (zipT ts us)
  | .fz ts, .fz us => qP (zipT ts us)
  | _, _ => qZ
def slU (t : T) (lo hi : Option Int) : Option T := match t with
  | .str s => if s.length ≤ 1000000 then some (.str (cutL s lo hi)) else none
  | .tup ts => some (.tup (cutL ts lo hi))
  | .fz ts => some (.fz (cutL ts lo hi))
  | .scr ns => some (.fz ((cutL ns lo hi).map .int))
  | _ => none
def slL (t : T) (lo hi : Option Int) : Option (List T) := match t with
  | .fz ts => some (cutL ts lo hi)
  | .scr ns => some ((cutL ns lo hi).map .int)
  | _ => none
def revL (t : T) : Option (List T) := match t with
  | .fz ts => some ts.reverse
  | _ => none
def qSl (f : T → Option Int → Option Int → Option β) (x : T) (lo hi : Option Int) : Q β := qB (qK x) fun t => qO (f t lo hi)
def qTup (ts : List T) : Q T := if ts.length ≤ 1000 then qP (.tup ts) else qZ
def qLst (ts : List T) : Q (List T) := if ts.length ≤ 1000 then qP ts else qZ
def qTy (Ty : String) (x : T) : Q Unit := qB (qK x) fun t => if tyOk Ty t then qP () else qZ
def qMeth (f : T → List T → Option T) (x : T) (as : List T) : Q T := qB (qK x) fun t => qO (f t as)
def setL (us : List T) (k t : T) : Option (List T) := match k with
  | .int i => (ixN us.length i).map fun j => us.set j t
  | _ => none
def putP (d : List T × List T) (q t : T) : List T × List T := if d.1.any (fun k => kEq k q) then (d.1, putV d.1 d.2 q t) else (d.1 ++ [q], d.2 ++ [t])
def qPut (d : List T × List T) (k t : T) : Q (List T × List T) := if isKey k = true ∧ d.1.length ≤ 1000000 then qP (putP d k t) else qZ
/-- a boxed list -/
def boxL (S : List Ob) (x : T) : Option (Nat × List T) := match x with
  | .ref a => match S[a]? with
    | some (.lst us) => some (a, us)
    | _ => none
  | _ => none
def qIsL (x : T) : Q Unit := fun S => match boxL S x with
  | some _ => some (.ok (), S)
  | none => none
def qBx (f : List T → List T → Option (List T × T)) (x : T) (as : List T) : Q T := fun S => match boxL S x with
  | some (a, us) => match f us as with
    | some (us', r) => some (.ok r, S.set a (.lst us'))
    | none => none
  | none => none
def qBxSet (x k t : T) : Q Unit := fun S => match boxL S x with
  | some (a, us) => match setL us k t with
    | some us' => some (.ok (), S.set a (.lst us'))
    | none => none
  | none => none
def qBox (ob : Ob) : Q T := fun S => some (.ok (.ref S.length), S ++ [ob])
def qFn (q : Q (F Unit Unit)) : Q T := qB q fun f => match f with
  | .nxt _ => qP .non
  | .ret t => qP t
  | _ => qZ
end

/-! ### .. and that a computation with names does what one without does -/
structure Sim {α β : Type} (X : List Sl → Prop) (m : M α) (σ : List Sl) (q : Q β) (R : α → β → List Sl → Prop) : Prop where
  run : ∀ S, match q S with
    | none => True
    | some (.ok b, S') => ∃ a σ', m ⟨σ, S⟩ = some (.ok a, ⟨σ', S'⟩) ∧ R a b σ'
    | some (.exc x, S') => ∃ σ', m ⟨σ, S⟩ = some (.exc x, ⟨σ', S'⟩) ∧ X σ'
section
variable {α β γ δ ε : Type} {X : List Sl → Prop} {σ σ1 σ2 : List Sl}
theorem Sim.ok {m : M α} {q : Q β} {R : α → β → List Sl → Prop} (h : Sim X m σ q R) {S S' : List Ob} {b : β} (e : q S = some (.ok b, S')) : ∃ a σ', m ⟨σ, S⟩ = some (.ok a, ⟨σ', S'⟩) ∧ R a b σ' := by
  have := h.run S
  rw [e] at this
  exact this
theorem Sim.ex {m : M α} {q : Q β} {R : α → β → List Sl → Prop} (h : Sim X m σ q R) {S S' : List Ob} {x : Xn} (e : q S = some (.exc x, S')) : ∃ σ', m ⟨σ, S⟩ = some (.exc x, ⟨σ', S'⟩) ∧ X σ' := by
  have := h.run S
  rw [e] at this
  exact this
theorem Sim.zz {m : M α} {R : α → β → List Sl → Prop} : Sim X m σ qZ R := ⟨fun _ => trivial⟩
theorem Sim.pur {a : α} {b : β} {R : α → β → List Sl → Prop} (h : R a b σ) : Sim X (pure a) σ (qP b) R := ⟨fun S => ⟨a, σ, rfl, h⟩⟩
theorem Sim.bnd {ρ : Type} {m : M α} {q : Q β} {f : α → M ε} {g : β → Q ρ} {R : α → β → List Sl → Prop} {R2 : ε → ρ → List Sl → Prop} (h : Sim X m σ q R) (k : ∀ a b σ', R a b σ' → Sim X (f a) σ' (g b) R2) : Sim X (m >>= f) σ (qB q g) R2 := ⟨fun S => by
  unfold qB
  rw [bind_def]
  cases e : q S with
  | none => trivial
  | some p =>
    obtain ⟨r, S1⟩ := p
    cases r with
    | ok b =>
      obtain ⟨a, σ', e1, hr⟩ := h.ok e
      rw [e1]
      exact (k a b σ' hr).run S1
    | exc x =>
      obtain ⟨σ', e1, hx⟩ := h.ex e
      rw [e1]
      exact ⟨σ', rfl, hx⟩⟩
theorem Sim.mono {m : M α} {q : Q β} {R R2 : α → β → List Sl → Prop} (h : Sim X m σ q R) (k : ∀ a b σ', R a b σ' → R2 a b σ') : Sim X m σ q R2 := ⟨fun S => by
  have := h.run S
  cases e : q S with
  | none => trivial
  | some p =>
    obtain ⟨r, S1⟩ := p
    rw [e] at this
    cases r with
    | ok b =>
      obtain ⟨a, σ', e1, hr⟩ := this
      exact ⟨a, σ', e1, k _ _ _ hr⟩
    | exc x => exact this⟩
/-- m's run at each store is m2's -/
theorem Sim.cg {m m2 : M α} {q : Q β} {R : α → β → List Sl → Prop} (h : Sim X m2 σ q R) (e : ∀ S, m ⟨σ, S⟩ = m2 ⟨σ, S⟩) : Sim X m σ q R := ⟨fun S => by
  have := h.run S
  rw [← e S] at this
  exact this⟩
/-- a value that is known -/
structure SP (m : M T) (σ : List Sl) (t : T) : Prop where run : ∀ S, m ⟨σ, S⟩ = some (.ok t, ⟨σ, S⟩)
/-- .. a name's list frozen -/
structure SPf (m : M T) (σ : List Sl) (t : T) (σ1 : List Sl) : Prop where run : ∀ S, m ⟨σ, S⟩ = some (.ok t, ⟨σ1, S⟩)
abbrev eR (σ1 : List Sl) : T → T → List Sl → Prop := fun a b σ' => a = b ∧ σ' = σ1
abbrev xR (v : β → T) (s : β → List Sl) : T → β → List Sl → Prop := fun a b σ' => a = v b ∧ σ' = s b
abbrev SE (X : List Sl → Prop) (m : M T) (σ : List Sl) (q : Q T) (σ1 : List Sl) : Prop := Sim X m σ q (eR σ1)
abbrev bR (σ1 : List Sl) : Bool → Bool → List Sl → Prop := fun a b σ' => a = b ∧ σ' = σ1
abbrev ST (X : List Sl → Prop) (m : M Bool) (σ : List Sl) (q : Q Bool) (σ1 : List Sl) : Prop := Sim X m σ q (bR σ1)
abbrev lR (σ1 : List Sl) : Ob → List T → List Sl → Prop := fun a b σ' => a = .lst b ∧ σ' = σ1
abbrev SL (X : List Sl → Prop) (m : M Ob) (σ : List Sl) (q : Q (List T)) (σ1 : List Sl) : Prop := Sim X m σ q (lR σ1)
abbrev oR (σ1 : List Sl) : Option Int → Option Int → List Sl → Prop := fun a b σ' => a = b ∧ σ' = σ1
/-! binds -/
theorem bV {m : M T} {f : T → M α} {t : T} {q : Q β} {R : α → β → List Sl → Prop} (h : SP m σ t) (k : Sim X (f t) σ q R) : Sim X (m >>= f) σ q R :=
  Sim.cg k fun S => by rw [bind_def, h.run S]
theorem bF {m : M T} {f : T → M α} {t : T} {q : Q β} {R : α → β → List Sl → Prop} (h : SPf m σ t σ1) (k : Sim X (f t) σ1 q R) : Sim X (m >>= f) σ q R := ⟨fun S => by
  have := k.run S
  rw [bind_def, h.run S]
  exact this⟩
theorem bE {m : M T} {f : T → M α} {q1 : Q T} {q2 : T → Q β} {R : α → β → List Sl → Prop} (h : SE X m σ q1 σ1) (k : ∀ t, Sim X (f t) σ1 (q2 t) R) : Sim X (m >>= f) σ (qB q1 q2) R :=
  h.bnd fun _ b _ ⟨e1, e2⟩ => by rw [e1, e2]; exact k b
theorem bX {m : M T} {f : T → M α} {q1 : Q ε} {v : ε → T} {s : ε → List Sl} {q2 : ε → Q β} {R : α → β → List Sl → Prop} (h : Sim X m σ q1 (xR v s)) (k : ∀ b, Sim X (f (v b)) (s b) (q2 b) R) : Sim X (m >>= f) σ (qB q1 q2) R :=
  h.bnd fun _ b _ ⟨e1, e2⟩ => by rw [e1, e2]; exact k b
theorem bT {m : M Bool} {f : Bool → M α} {q1 : Q Bool} {q2 : Bool → Q β} {R : α → β → List Sl → Prop} (h : ST X m σ q1 σ1) (k : ∀ t, Sim X (f t) σ1 (q2 t) R) : Sim X (m >>= f) σ (qB q1 q2) R :=
  h.bnd fun _ b _ ⟨e1, e2⟩ => by rw [e1, e2]; exact k b
theorem bL {m : M Ob} {f : Ob → M α} {q1 : Q (List T)} {q2 : List T → Q β} {R : α → β → List Sl → Prop} (h : SL X m σ q1 σ1) (k : ∀ t, Sim X (f (.lst t)) σ1 (q2 t) R) : Sim X (m >>= f) σ (qB q1 q2) R :=
  h.bnd fun _ b _ ⟨e1, e2⟩ => by rw [e1, e2]; exact k b
/-! values -/
theorem v_var {i : Nat} {t : T} (h : σ[i]? = some (.val t) := by rfl) : SP (eVar i) σ t := ⟨fun S => by unfold eVar; simp only [h]⟩
theorem v_con {t : T} : SP (pure t) σ t := ⟨fun S => rfl⟩
theorem v_frz {i : Nat} {ts : List T} (h : σ[i]? = some (.own (.lst ts)) := by rfl) : SPf (eFrz i) σ (.fz ts) (σ.set i (.val (.fz ts))) := ⟨fun S => by unfold eFrz; simp only [h]⟩
theorem v_fr {i : Nat} {ts : List T} (h : σ[i]? = some (.own (.lst ts)) := by rfl) : SPf (eFr i) σ (.fz ts) (σ.set i (.val (.fz ts))) := ⟨fun S => by unfold eFr; simp only [h]⟩
theorem v_frV {i : Nat} {t : T} (h : σ[i]? = some (.val t) := by rfl) : SP (eFr i) σ t := ⟨fun S => by unfold eFr; simp only [h]⟩
theorem eV {m : M T} {t : T} (h : SP m σ t) : SE X m σ (qP t) σ := ⟨fun S => ⟨t, σ, h.run S, rfl, rfl⟩⟩
theorem eF {m : M T} {t : T} (h : SPf m σ t σ1) : SE X m σ (qP t) σ1 := ⟨fun S => ⟨t, σ1, h.run S, rfl, rfl⟩⟩
/-- as an expression whose list may have been changed -/
theorem eOf {m : M T} {q : Q T} (h : SE X m σ q σ1) : Sim X m σ q (xR id fun _ => σ1) := h
theorem eEnd {t : T} : SE X (pure t) σ (qP t) σ := Sim.pur ⟨rfl, rfl⟩
theorem bEnd {t : Bool} : ST X (pure t) σ (qP t) σ := Sim.pur ⟨rfl, rfl⟩
/-! operands -/
def Rd (r : Rdr) (x : T) (σ : List Sl) : Prop := ∀ S, r ⟨σ, S⟩ = peekT S x
theorem oV {i : Nat} {t : T} {f : Rdr → M α} {q : Q β} {R : α → β → List Sl → Prop} (k : ∀ r, Rd r t σ → Sim X (f r) σ q R) (h : σ[i]? = some (.val t) := by rfl) : Sim X (oVar i >>= f) σ q R :=
  Sim.cg (k (rVar i) fun S => by unfold rVar; simp only [h]; rfl) fun S => by rw [bind_def]; unfold oVar; simp only [h]
theorem oW {i : Nat} {ts : List T} {f : Rdr → M α} {q : Q β} {R : α → β → List Sl → Prop} (k : ∀ r, Rd r (.fz ts) σ → Sim X (f r) σ q R) (h : σ[i]? = some (.own (.lst ts)) := by rfl) : Sim X (oVar i >>= f) σ q R :=
  Sim.cg (k (rVar i) fun S => by unfold rVar; simp only [h]; rfl) fun S => by rw [bind_def]; unfold oVar; simp only [h]
theorem oD {i : Nat} {ks vs : List T} {f : Rdr → M α} {q : Q β} {R : α → β → List Sl → Prop} (k : ∀ r, Rd r (.dic ks vs) σ → Sim X (f r) σ q R) (h : σ[i]? = some (.own (.dct ks vs)) := by rfl) : Sim X (oVar i >>= f) σ q R :=
  Sim.cg (k (rVar i) fun S => by unfold rVar; simp only [h]; rfl) fun S => by rw [bind_def]; unfold oVar; simp only [h]
theorem oC {m : M T} {t : T} {f : Rdr → M α} {q : Q β} {R : α → β → List Sl → Prop} (h : SP m σ t) (k : ∀ r, Rd r t σ → Sim X (f r) σ q R) : Sim X (oE m >>= f) σ q R :=
  Sim.cg (k (fun st => peekT st.S t) fun S => rfl) fun S => by unfold oE; rw [bind_def, bind_def, h.run S]; rfl
theorem oX {m : M T} {q1 : Q ε} {v : ε → T} {s : ε → List Sl} {f : Rdr → M α} {q2 : ε → Q β} {R : α → β → List Sl → Prop} (h : Sim X m σ q1 (xR v s)) (k : ∀ b r, Rd r (v b) (s b) → Sim X (f r) (s b) (q2 b) R) : Sim X (oE m >>= f) σ (qB q1 q2) R :=
  Sim.cg (m2 := m >>= fun t => f fun st => peekT st.S t) (bX h fun b => k b (fun st => peekT st.S (v b)) fun S => rfl) fun S => by
    unfold oE
    simp only [bind_def]
    cases m ⟨σ, S⟩ with
    | none => rfl
    | some p =>
      obtain ⟨r, st⟩ := p
      cases r <;> rfl
theorem oG {m : M T} {q1 : Q T} {f : Rdr → M α} {q2 : T → Q β} {R : α → β → List Sl → Prop} (h : SE X m σ q1 σ1) (k : ∀ t r, Rd r t σ1 → Sim X (f r) σ1 (q2 t) R) : Sim X (oE m >>= f) σ (qB q1 q2) R :=
  oX (v := id) (s := fun _ => σ1) h fun b r hr => k b r hr
theorem rd2 {f : T → T → Option T} {ra rb : Rdr} {x y : T} (ha : Rd ra x σ) (hb : Rd rb y σ) : SE X (fun st => match ra st, rb st with | some a, some b => ofO (f a b) st | _, _ => none) σ (qOp2 f x y) σ := ⟨fun S => by
  unfold qOp2 qB qK
  rw [ha S, hb S]
  cases peekT S x with
  | none => trivial
  | some a =>
    simp only
    cases peekT S y with
    | none => trivial
    | some b =>
      simp only
      cases f a b with
      | none => trivial
      | some t => exact ⟨t, σ, rfl, rfl, rfl⟩⟩
theorem sOp2 {f : T → T → Option T} {ma mb : M Rdr} {q : Q β} {R : T → β → List Sl → Prop} (k : Sim X (ma >>= fun ra => mb >>= fun rb => (fun st => match ra st, rb st with | some a, some b => ofO (f a b) st | _, _ => none : M T)) σ q R) : Sim X (eOp2 f ma mb) σ q R := k
theorem sChain {f f' : T → T → Option T} {ma mb mc : M Rdr} {q : Q β} {R : T → β → List Sl → Prop} (k : Sim X (ma >>= fun ra => mb >>= fun rb => ((fun st => match ra st, rb st with | some a, some b => ofO (f a b) st | _, _ => none : M T) >>= fun z => match z with
  | .bl true => (mc >>= fun rc => (fun st => match rb st, rc st with | some a, some b => ofO (f' a b) st | _, _ => none : M T))
  | .bl false => pure (.bl false)
  | _ => stuck)) σ q R) : Sim X (eChain f f' ma mb mc) σ q R := k
def qCh (z : T) (q : Q T) : Q T := match z with
  | .bl true => q
  | .bl false => qP (.bl false)
  | _ => qZ
theorem chEnd {f : T → T → Option T} {ra rb : Rdr} {x y : T} {k : M T} {q : Q T} (ha : Rd ra x σ) (hb : Rd rb y σ) (h : SE X k σ q σ1) (hs : σ1 = σ := by rfl) : SE X ((fun st => match ra st, rb st with | some a, some b => ofO (f a b) st | _, _ => none : M T) >>= fun z => match z with
  | .bl true => k
  | .bl false => pure (.bl false)
  | _ => stuck) σ (qB (qOp2 f x y) fun z => qCh z q) σ1 :=
  bE (rd2 ha hb) fun z => by
    subst hs
    unfold qCh
    cases z with
    | bl b => cases b with
      | true => exact h
      | false => exact eEnd
    | _ => exact Sim.zz
/-! arguments -/
theorem aN {f : List T → M α} {q : Q β} {R : α → β → List Sl → Prop} (k : Sim X (f []) σ q R) : Sim X (aNil >>= f) σ q R := k
theorem ac_b {m : M T} {k : M (List T)} {f : List T → M α} (S : List Ob) : (aCons m k >>= f) ⟨σ, S⟩ = (m >>= fun t => k >>= fun ts => f (t :: ts)) ⟨σ, S⟩ := by
  unfold aCons
  simp only [bind_def]
  cases m ⟨σ, S⟩ with
  | none => rfl
  | some p =>
    obtain ⟨r, st⟩ := p
    cases r with
    | exc x => rfl
    | ok t =>
      simp only
      cases k st with
      | none => rfl
      | some p =>
        obtain ⟨r, st⟩ := p
        cases r <;> rfl
theorem aV {m : M T} {k : M (List T)} {t : T} {f : List T → M α} {q : Q β} {R : α → β → List Sl → Prop} (h : SP m σ t) (j : Sim X (k >>= fun ts => f (t :: ts)) σ q R) : Sim X (aCons m k >>= f) σ q R := Sim.cg (bV h j) ac_b
theorem aF {m : M T} {k : M (List T)} {t : T} {f : List T → M α} {q : Q β} {R : α → β → List Sl → Prop} (h : SPf m σ t σ1) (j : Sim X (k >>= fun ts => f (t :: ts)) σ1 q R) : Sim X (aCons m k >>= f) σ q R := Sim.cg (bF h j) ac_b
theorem aE {m : M T} {k : M (List T)} {f : List T → M α} {q1 : Q T} {q2 : T → Q β} {R : α → β → List Sl → Prop} (h : SE X m σ q1 σ1) (j : ∀ t, Sim X (k >>= fun ts => f (t :: ts)) σ1 (q2 t) R) : Sim X (aCons m k >>= f) σ (qB q1 q2) R := Sim.cg (bE h j) ac_b
theorem aX {m : M T} {k : M (List T)} {f : List T → M α} {q1 : Q ε} {v : ε → T} {s : ε → List Sl} {q2 : ε → Q β} {R : α → β → List Sl → Prop} (h : Sim X m σ q1 (xR v s)) (j : ∀ b, Sim X (k >>= fun ts => f (v b :: ts)) (s b) (q2 b) R) : Sim X (aCons m k >>= f) σ (qB q1 q2) R := Sim.cg (bX h j) ac_b
/-! readers as arguments -/
def Rds (σ : List Sl) : List Rdr → List T → Prop
  | [], [] => True
  | r :: rs, x :: xs => Rd r x σ ∧ Rds σ rs xs
  | _, _ => False
theorem rN {f : List Rdr → M α} {q : Q β} {R : α → β → List Sl → Prop} (k : Sim X (f []) σ q R) : Sim X (oNil >>= f) σ q R := k
theorem oc_b {m : M Rdr} {k : M (List Rdr)} {f : List Rdr → M α} (S : List Ob) : (oCons m k >>= f) ⟨σ, S⟩ = (m >>= fun t => k >>= fun ts => f (t :: ts)) ⟨σ, S⟩ := by
  unfold oCons
  simp only [bind_def]
  cases m ⟨σ, S⟩ with
  | none => rfl
  | some p =>
    obtain ⟨r, st⟩ := p
    cases r with
    | exc x => rfl
    | ok t =>
      simp only
      cases k st with
      | none => rfl
      | some p =>
        obtain ⟨r, st⟩ := p
        cases r <;> rfl
theorem rC {m : M Rdr} {k : M (List Rdr)} {f : List Rdr → M α} {q : Q β} {R : α → β → List Sl → Prop} (h : Sim X (m >>= fun t => k >>= fun ts => f (t :: ts)) σ q R) : Sim X (oCons m k >>= f) σ q R := Sim.cg h oc_b
theorem rds_run : ∀ {rs : List Rdr} {xs : List T}, Rds σ rs xs → ∀ S, match rdAll rs ⟨σ, S⟩ with | some ts => qKs xs S = some (.ok ts, S) | none => qKs xs S = none
  | [], [], _, S => rfl
  | r :: rs, x :: xs, ⟨h1, h2⟩, S => by
    have ih := rds_run h2 S
    unfold rdAll qKs qB qK
    rw [h1 S]
    cases peekT S x with
    | none => rfl
    | some u =>
      cases e : rdAll rs ⟨σ, S⟩ with
      | none => rw [e] at ih; simp only [ih]
      | some ts => rw [e] at ih; simp only [ih]; rfl
theorem rEnd {rs : List Rdr} {xs : List T} {f : List T → Option T} (h : Rds σ rs xs) : SE X (rdM rs fun ts => ofO (f ts)) σ (qCall f xs) σ := ⟨fun S => by
  have := rds_run h S
  unfold qCall qB rdM
  cases e : rdAll rs ⟨σ, S⟩ with
  | none => rw [e] at this; simp only [this]
  | some ts =>
    rw [e] at this
    simp only [this]
    cases f ts with
    | none => trivial
    | some t => exact ⟨t, σ, rfl, rfl, rfl⟩⟩
theorem rEndL {rs : List Rdr} {xs : List T} {f : List T → Option (List T)} (h : Rds σ rs xs) : SL X (rdM rs fun ts => ofO ((f ts).map .lst)) σ (qCall f xs) σ := ⟨fun S => by
  have := rds_run h S
  unfold qCall qB rdM
  cases e : rdAll rs ⟨σ, S⟩ with
  | none => rw [e] at this; simp only [this]
  | some ts =>
    rw [e] at this
    simp only [this]
    cases f ts with
    | none => trivial
    | some t => exact ⟨.lst t, σ, rfl, rfl, rfl⟩⟩
theorem sCall {f : List T → Option T} {m : M (List Rdr)} {q : Q β} {R : T → β → List Sl → Prop} (k : Sim X (m >>= fun rs => rdM rs fun ts => ofO (f ts)) σ q R) : Sim X (eCall f m) σ q R := k
theorem sCallL {f : List T → Option (List T)} {m : M (List Rdr)} {q : Q β} {R : Ob → β → List Sl → Prop} (k : Sim X (m >>= fun rs => rdM rs fun ts => ofO ((f ts).map .lst)) σ q R) : Sim X (fCall f m) σ q R := k
/-! tuples, lists -/
theorem sTup {m : M (List T)} {q : Q β} {R : T → β → List Sl → Prop} (k : Sim X (m >>= fun ts => if ts.length ≤ 1000 then pure (.tup ts) else stuck) σ q R) : Sim X (eTup m) σ q R := k
theorem tEnd {ts : List T} : SE X (if ts.length ≤ 1000 then pure (.tup ts) else stuck) σ (qTup ts) σ := by
  unfold qTup
  split
  · exact eEnd
  · exact Sim.zz
theorem tEndV {ts : List T} (h : ts.length ≤ 1000 := by simp only [List.length_cons, List.length_nil]; decide) : SE X (if ts.length ≤ 1000 then pure (.tup ts) else stuck) σ (qP (.tup ts)) σ := by
  rw [if_pos h]
  exact eEnd
theorem sLst {m : M (List T)} {q : Q β} {R : Ob → β → List Sl → Prop} (k : Sim X (m >>= fun ts => if ts.length ≤ 1000 then pure (.lst ts) else stuck) σ q R) : Sim X (fLst m) σ q R := k
theorem lEnd {ts : List T} (h : ts.length ≤ 1000 := by simp only [List.length_cons, List.length_nil]; decide) : SL X (if ts.length ≤ 1000 then pure (.lst ts) else stuck) σ (qP ts) σ := by
  rw [if_pos h]
  exact Sim.pur ⟨rfl, rfl⟩
theorem sFz {m : M Ob} {q : Q (List T)} (h : SL X m σ q σ1) : SE X (eFz m) σ (qB q fun ts => qP (.fz ts)) σ1 := bL h fun ts => eEnd
/-! calls -/
theorem sFn {m : FnM} {ma : M (List T)} {q : Q β} {R : T → β → List Sl → Prop} (k : Sim X (ma >>= fun ts => (fun st => match m ts st.S with | some (r, S') => some (r, { st with S := S' }) | none => none : M T)) σ q R) : Sim X (eFn m ma) σ q R := k
theorem fEnd {m : FnM} {ts : List T} (hx : X σ := by first | trivial | exact ⟨_, rfl⟩ | exact ⟨_, _, rfl⟩ | exact ⟨_, _, _, rfl⟩ | exact ⟨_, _, _, _, rfl⟩) : SE X (fun st => match m ts st.S with | some (r, S') => some (r, { st with S := S' }) | none => none : M T) σ (m ts) σ := ⟨fun S => by
  cases e : m ts S with
  | none => trivial
  | some p =>
    obtain ⟨r, S'⟩ := p
    cases r with
    | ok b => exact ⟨b, σ, by simp only [e], rfl, rfl⟩
    | exc x => exact ⟨σ, by simp only [e], hx⟩⟩
/-! truths -/
theorem tB {m : M T} {q : Q T} (h : SE X m σ q σ1) : ST X (asB m) σ (qB q qTr) σ1 := bE h fun t => by
  unfold qTr
  cases t with
  | bl b => exact bEnd
  | _ => exact Sim.zz
theorem tNot {m : M Bool} {q : Q Bool} (h : ST X m σ q σ1) : ST X (bNot m) σ (qB q fun b => qP (!b)) σ1 := bT h fun b => bEnd
theorem tAnd {m k : M Bool} {q r : Q Bool} (h : ST X m σ q σ1) (h2 : ST X k σ1 r σ1) : ST X (bAnd m k) σ (qB q fun b => if b then r else qP false) σ1 := bT h fun b => by
  cases b with
  | true => exact h2
  | false => exact bEnd
theorem tOr {m k : M Bool} {q r : Q Bool} (h : ST X m σ q σ1) (h2 : ST X k σ1 r σ1) : ST X (bOr m k) σ (qB q fun b => if b then qP true else r) σ1 := bT h fun b => by
  cases b with
  | true => exact bEnd
  | false => exact h2
theorem sNot {m : M T} {q : Q T} (h : SE X m σ q σ1) : SE X (eNot m) σ (qB q fun t => qB (qTr t) fun b => qP (.bl (!b))) σ1 :=
  Sim.cg (m2 := m >>= fun t => match t with | .bl b => pure (.bl (!b)) | _ => stuck) (bE h fun t => by
    cases t with
    | bl b => exact eEnd
    | _ => exact Sim.zz) fun S => by
    unfold eNot asB
    simp only [bind_def]
    cases m ⟨σ, S⟩ with
    | none => rfl
    | some p =>
      obtain ⟨r, st⟩ := p
      cases r with
      | exc x => rfl
      | ok t => cases t <;> rfl
theorem sAnd {m k : M T} {q r : Q T} (h : SE X m σ q σ1) (h2 : SE X k σ1 r σ1) : SE X (eAnd m k) σ (qB (qB q qTr) fun b => if b then r else qP (.bl false)) σ1 := bT (tB h) fun b => by
  cases b with
  | true => exact h2
  | false => exact eEnd
theorem sOr {m k : M T} {q r : Q T} (h : SE X m σ q σ1) (h2 : SE X k σ1 r σ1) : SE X (eOr m k) σ (qB (qB q qTr) fun b => if b then qP (.bl true) else r) σ1 := bT (tB h) fun b => by
  cases b with
  | true => exact eEnd
  | false => exact h2
theorem sIf {c : M Bool} {m k : M T} {qc : Q Bool} {q r : Q T} (h : ST X c σ qc σ1) (h1 : SE X m σ1 q σ2) (h2 : SE X k σ1 r σ2) : SE X (eIf c m k) σ (qB qc fun b => if b then q else r) σ2 := bT h fun b => by
  cases b with
  | true => exact h1
  | false => exact h2
theorem sNeg {m : M T} {q : Q T} (h : SE X m σ q σ1) : SE X (eNeg m) σ (qB q fun t => qB (qI t) fun i => qP (.int (-i))) σ1 := bE h fun t => by
  cases t with
  | int i => exact eEnd
  | _ => exact Sim.zz
/-! slices -/
theorem pN {f : Option Int → M α} {q : Q β} {R : α → β → List Sl → Prop} (k : Sim X (f none) σ q R) : Sim X (pNo >>= f) σ q R := k
theorem ps_b {m : M T} {f : Option Int → M α} (S : List Ob) : (pSome m >>= f) ⟨σ, S⟩ = (m >>= fun t => match t with | .int i => f (some i) | _ => stuck) ⟨σ, S⟩ := by
  unfold pSome
  simp only [bind_def]
  cases m ⟨σ, S⟩ with
  | none => rfl
  | some p =>
    obtain ⟨r, st⟩ := p
    cases r with
    | exc x => rfl
    | ok t => cases t <;> rfl
theorem pE {m : M T} {f : Option Int → M α} {q1 : Q T} {q2 : Int → Q β} {R : α → β → List Sl → Prop} (h : SE X m σ q1 σ1) (k : ∀ i, Sim X (f (some i)) σ1 (q2 i) R) : Sim X (pSome m >>= f) σ (qB q1 fun t => qB (qI t) q2) R :=
  Sim.cg (bE h fun t => by
    cases t with
    | int i => exact k i
    | _ => exact Sim.zz) ps_b
theorem pV {m : M T} {f : Option Int → M α} {i : Int} {q : Q β} {R : α → β → List Sl → Prop} (h : SP m σ (.int i)) (k : Sim X (f (some i)) σ q R) : Sim X (pSome m >>= f) σ q R :=
  Sim.cg (bV h k) ps_b
theorem sSlU {m : M Rdr} {ml mh : M (Option Int)} {q : Q β} {R : T → β → List Sl → Prop} (k : Sim X (m >>= fun r => ml >>= fun lo => mh >>= fun hi => (fun st => match r st with
    | some (.str s) => if s.length ≤ 1000000 then some (.ok (.str (cutL s lo hi)), st) else none
    | some (.tup ts) => some (.ok (.tup (cutL ts lo hi)), st)
    | some (.fz ts) => some (.ok (.fz (cutL ts lo hi)), st)
    | some (.scr ns) => some (.ok (.fz ((cutL ns lo hi).map .int)), st)
    | _ => none : M T)) σ q R) : Sim X (eSliceU m ml mh) σ q R := k
theorem slEnd {r : Rdr} {x : T} {lo hi : Option Int} (h : Rd r x σ) : SE X (fun st => match r st with
    | some (.str s) => if s.length ≤ 1000000 then some (.ok (.str (cutL s lo hi)), st) else none
    | some (.tup ts) => some (.ok (.tup (cutL ts lo hi)), st)
    | some (.fz ts) => some (.ok (.fz (cutL ts lo hi)), st)
    | some (.scr ns) => some (.ok (.fz ((cutL ns lo hi).map .int)), st)
    | _ => none : M T) σ (qSl slU x lo hi) σ := ⟨fun S => by
  unfold qSl qB qK
  rw [h S]
  cases peekT S x with
  | none => trivial
  | some t =>
    cases t with
    | str s =>
      simp only [slU]
      by_cases hl : s.length ≤ 1000000
      · rw [if_pos hl, if_pos hl]; exact ⟨_, _, rfl, rfl, rfl⟩
      · rw [if_neg hl]; trivial
    | tup ts => exact ⟨_, _, rfl, rfl, rfl⟩
    | fz ts => exact ⟨_, _, rfl, rfl, rfl⟩
    | scr ns => exact ⟨_, _, rfl, rfl, rfl⟩
    | _ => trivial⟩
theorem sSlL {m : M Rdr} {ml mh : M (Option Int)} {q : Q β} {R : Ob → β → List Sl → Prop} (k : Sim X (m >>= fun r => ml >>= fun lo => mh >>= fun hi => (fun st => match r st with
    | some (.fz ts) => some (.ok (.lst (cutL ts lo hi)), st)
    | some (.scr ns) => some (.ok (.lst ((cutL ns lo hi).map .int)), st)
    | _ => none : M Ob)) σ q R) : Sim X (fSlice m ml mh) σ q R := k
theorem slEndL {r : Rdr} {x : T} {lo hi : Option Int} (h : Rd r x σ) : SL X (fun st => match r st with
    | some (.fz ts) => some (.ok (.lst (cutL ts lo hi)), st)
    | some (.scr ns) => some (.ok (.lst ((cutL ns lo hi).map .int)), st)
    | _ => none : M Ob) σ (qSl slL x lo hi) σ := ⟨fun S => by
  unfold qSl qB qK
  rw [h S]
  cases peekT S x with
  | none => trivial
  | some t =>
    cases t with
    | fz ts => exact ⟨_, _, rfl, rfl, rfl⟩
    | scr ns => exact ⟨_, _, rfl, rfl, rfl⟩
    | _ => trivial⟩
theorem sRev {m : M Rdr} {q : Q β} {R : Ob → β → List Sl → Prop} (k : Sim X (m >>= fun r => (fun st => match r st with
    | some (.fz ts) => some (.ok (.lst ts.reverse), st)
    | _ => none : M Ob)) σ q R) : Sim X (fRev m) σ q R := k
theorem rvEnd {r : Rdr} {x : T} (h : Rd r x σ) : SL X (fun st => match r st with
    | some (.fz ts) => some (.ok (.lst ts.reverse), st)
    | _ => none : M Ob) σ (qB (qK x) fun t => qO (revL t)) σ := ⟨fun S => by
  unfold qB qK
  rw [h S]
  cases peekT S x with
  | none => trivial
  | some t =>
    cases t with
    | fz ts => exact ⟨_, _, rfl, rfl, rfl⟩
    | _ => trivial⟩
/-! methods of what stands -/
theorem sMeth {Ty : String} {f : T → List T → Option T} {m : M Rdr} {ma : M (List T)} {q : Q β} {R : T → β → List Sl → Prop} (k : Sim X (m >>= fun r => isTy Ty r >>= fun _ => ma >>= fun as => (fun st => match r st with
    | some t => ofO (f t as) st
    | none => none : M T)) σ q R) : Sim X (eMeth Ty f m ma) σ q R := k
theorem isTyB {Ty : String} {r : Rdr} {x : T} {f : Unit → M α} {q : Q β} {R : α → β → List Sl → Prop} (h : Rd r x σ) (k : Sim X (f ()) σ q R) : Sim X (isTy Ty r >>= f) σ (qB (qTy Ty x) fun _ => q) R := ⟨fun S => by
  have := k.run S
  unfold qB qTy qB qK
  rw [bind_def]
  unfold isTy
  rw [h S]
  cases peekT S x with
  | none => trivial
  | some t =>
    simp only
    cases e : tyOk Ty t with
    | false => rw [if_neg (by simp)]; trivial
    | true => simp only [if_true]; exact this⟩
theorem mEnd {r : Rdr} {x : T} {f : T → List T → Option T} {as : List T} (h : Rd r x σ) : SE X (fun st => match r st with
    | some t => ofO (f t as) st
    | none => none : M T) σ (qMeth f x as) σ := ⟨fun S => by
  unfold qMeth qB qK
  rw [h S]
  cases peekT S x with
  | none => trivial
  | some t =>
    simp only
    cases f t as with
    | none => trivial
    | some u => exact ⟨_, _, rfl, rfl, rfl⟩⟩
/-! lists that are changed -/
theorem sLstO {f : List T → List T → Option (List T × T)} {i : Nat} {ys : List T} {ma : M (List T)} {q : Q β} {R : T → β → List Sl → Prop} (k : Sim X (ma >>= fun as => opL f (pVar i) as) σ q R) (h : σ[i]? = some (.own (.lst ys)) := by rfl) : Sim X (eLst f (mVar i) ma) σ q R :=
  Sim.cg k fun S => by
    unfold eLst mVar isLst pVar
    simp only [bind_def, h]
theorem sLstO0 {f : List T → List T → Option (List T × T)} {i : Nat} {ys : List T} {q : Q β} {R : T → β → List Sl → Prop} (k : Sim X (opL f (pVar i) []) σ q R) (h : σ[i]? = some (.own (.lst ys)) := by rfl) : Sim X (eLst0 f (mVar i)) σ q R :=
  Sim.cg k fun S => by
    unfold eLst0 mVar pVar
    simp only [bind_def, h]
theorem lstEnd {f : List T → List T → Option (List T × T)} {i : Nat} {ys as : List T} (h : σ[i]? = some (.own (.lst ys)) := by rfl) : Sim X (opL f (pVar i) as) σ (qO (f ys as)) (xR (fun p : List T × T => p.2) fun p => σ.set i (.own (.lst p.1))) := ⟨fun S => by
  unfold opL pVar
  simp only [h]
  cases f ys as with
  | none => trivial
  | some p => exact ⟨_, _, rfl, rfl, rfl⟩⟩
theorem pBox {i : Nat} {x : T} {S : List Ob} {a : Nat} {us : List T} (h : σ[i]? = some (.val x)) (e : boxL S x = some (a, us)) : pVar i ⟨σ, S⟩ = some (.lst us, fun o => ⟨σ, S.set a o⟩) := by
  unfold boxL at e
  unfold pVar
  simp only [h]
  cases x with
  | ref b =>
    simp only at e ⊢
    cases es : S[b]? with
    | none => rw [es] at e; cases e
    | some ob =>
      rw [es] at e
      cases ob with
      | lst vs => cases e; rfl
      | _ => cases e
  | _ => cases e
theorem sLstB {f : List T → List T → Option (List T × T)} {i : Nat} {x : T} {ma : M (List T)} {q : Q β} {R : T → β → List Sl → Prop} (k : Sim X (ma >>= fun as => opL f (pVar i) as) σ q R) (h : σ[i]? = some (.val x) := by rfl) : Sim X (eLst f (mVar i) ma) σ (qB (qIsL x) fun _ => q) R := ⟨fun S => by
  have := k.run S
  unfold qB qIsL
  cases e : boxL S x with
  | none => trivial
  | some p =>
    obtain ⟨a, us⟩ := p
    have e1 : eLst f (mVar i) ma ⟨σ, S⟩ = (ma >>= fun as => opL f (pVar i) as) ⟨σ, S⟩ := by
      unfold eLst mVar isLst
      simp only [bind_def, pBox h e]
    rw [e1]
    exact this⟩
theorem sLstB0 {f : List T → List T → Option (List T × T)} {i : Nat} {x : T} {q : Q β} {R : T → β → List Sl → Prop} (k : Sim X (opL f (pVar i) []) σ q R) (h : σ[i]? = some (.val x) := by rfl) : Sim X (eLst0 f (mVar i)) σ (qB (qIsL x) fun _ => q) R := ⟨fun S => by
  have := k.run S
  unfold qB qIsL
  cases e : boxL S x with
  | none => trivial
  | some p =>
    obtain ⟨a, us⟩ := p
    have e1 : eLst0 f (mVar i) ⟨σ, S⟩ = opL f (pVar i) [] ⟨σ, S⟩ := by
      unfold eLst0 mVar
      simp only [bind_def, pBox h e]
    rw [e1]
    exact this⟩
theorem lstEndB {f : List T → List T → Option (List T × T)} {i : Nat} {x : T} {as : List T} (h : σ[i]? = some (.val x) := by rfl) : SE X (opL f (pVar i) as) σ (qBx f x as) σ := ⟨fun S => by
  unfold opL pVar qBx boxL
  simp only [h]
  cases x with
  | ref a =>
    simp only
    cases es : S[a]? with
    | none => trivial
    | some ob =>
      cases ob with
      | lst us =>
        simp only
        cases f us as with
        | none => trivial
        | some p => exact ⟨_, _, rfl, rfl, rfl⟩
      | _ => trivial
  | _ => trivial⟩
theorem sBox {m : M Ob} {q : Q (List T)} (h : SL X m σ q σ1) : SE X (eBox m) σ (qB q fun ts => qBox (.lst ts)) σ1 := bL h fun ts => ⟨fun S => ⟨_, _, rfl, rfl, rfl⟩⟩
end
end Sw
namespace Sw
open PySem PySem.Spec PyProof.Rows L2
open Classical
section
variable {α β γ δ ε : Type} {X : List Sl → Prop} {σ σ1 σ2 : List Sl}
/-! ### commands -/
abbrev cR (A : α → List Sl → Prop) (C : γ → List Sl → Prop) : Fl → F γ α → List Sl → Prop := fun f g σ' => match f, g with
  | .nxt, .nxt a => A a σ'
  | .brk, .brk c => C c σ'
  | .cnt, .cnt c => C c σ'
  | .ret t, .ret u => t = u
  | _, _ => False
abbrev SC (X : List Sl → Prop) (c : Cmd) (σ : List Sl) (q : Q (F γ α)) (A : α → List Sl → Prop) (C : γ → List Sl → Prop) : Prop := Sim X c σ q (cR A C)
abbrev nev : α → List Sl → Prop := fun _ _ => False
theorem c_nxt {A : α → List Sl → Prop} {C : γ → List Sl → Prop} {a : α} (h : A a σ) : SC X (pure .nxt) σ (qP (.nxt a)) A C := Sim.pur h
theorem c_brk {A : α → List Sl → Prop} {C : γ → List Sl → Prop} {a : γ} (h : C a σ) : SC X (pure .brk) σ (qP (.brk a)) A C := Sim.pur h
theorem c_cnt {A : α → List Sl → Prop} {C : γ → List Sl → Prop} {a : γ} (h : C a σ) : SC X (pure .cnt) σ (qP (.cnt a)) A C := Sim.pur h
theorem c_retN {A : α → List Sl → Prop} {C : γ → List Sl → Prop} : SC X (pure (.ret .non)) σ (qP (.ret .non)) A C := Sim.pur rfl
theorem c_retV {m : M T} {t : T} {A : α → List Sl → Prop} {C : γ → List Sl → Prop} (h : SP m σ t) : SC X (cRet m) σ (qP (.ret t)) A C := bV h (Sim.pur rfl)
theorem c_retF {m : M T} {t : T} {A : α → List Sl → Prop} {C : γ → List Sl → Prop} (h : SPf m σ t σ1) : SC X (cRet m) σ (qP (.ret t)) A C := bF h (Sim.pur rfl)
theorem c_ret {m : M T} {q : Q T} {A : α → List Sl → Prop} {C : γ → List Sl → Prop} (h : SE X m σ q σ1) : SC X (cRet m) σ (qB q fun t => qP (.ret t)) A C := bE h fun t => Sim.pur rfl
theorem c_retX {m : M T} {q : Q ε} {v : ε → T} {s : ε → List Sl} {A : α → List Sl → Prop} {C : γ → List Sl → Prop} (h : Sim X m σ q (xR v s)) : SC X (cRet m) σ (qB q fun p => qP (.ret (v p))) A C := bX h fun t => Sim.pur rfl
theorem c_end {c : Cmd} {q : Q (F γ α)} {A : α → List Sl → Prop} {C : γ → List Sl → Prop} (h : SC X (cSeq c (pure .nxt)) σ q A C) : SC X c σ q A C := Sim.cg h fun S => by
  unfold cSeq
  rw [bind_def]
  cases c ⟨σ, S⟩ with
  | none => rfl
  | some p =>
    obtain ⟨r, st⟩ := p
    cases r with
    | exc x => rfl
    | ok f => cases f <;> rfl
theorem c_assoc {a b r : Cmd} {q : Q (F γ α)} {A : α → List Sl → Prop} {C : γ → List Sl → Prop} (h : SC X (cSeq a (cSeq b r)) σ q A C) : SC X (cSeq (cSeq a b) r) σ q A C := Sim.cg h fun S => by
  unfold cSeq
  simp only [bind_def]
  cases a ⟨σ, S⟩ with
  | none => rfl
  | some p =>
    obtain ⟨r, st⟩ := p
    cases r with
    | exc x => rfl
    | ok f =>
      cases f with
      | nxt =>
        simp only [bind_def]
      | _ => first | rfl | simp only [pure_def]
theorem c_skip {r : Cmd} {q : Q (F γ α)} {A : α → List Sl → Prop} {C : γ → List Sl → Prop} (h : SC X r σ q A C) : SC X (cSeq (pure .nxt) r) σ q A C := h
theorem c_seq {a b : Cmd} {q : Q (F γ α)} {k : α → Q (F γ β)} {A : α → List Sl → Prop} {B : β → List Sl → Prop} {C : γ → List Sl → Prop} (h : SC X a σ q A C) (j : ∀ x σ1, A x σ1 → SC X b σ1 (k x) B C) : SC X (cSeq a b) σ (qSeq q k) B C :=
  Sim.bnd h fun f g σ' hr => by
    cases f <;> cases g <;> first | exact hr.elim | exact j _ _ hr | exact Sim.pur hr
/-- a command that never goes on -/
theorem c_exit {a b : Cmd} {q : Q (F γ β)} {B : β → List Sl → Prop} {C : γ → List Sl → Prop} (h : SC X a σ q nev C) : SC X (cSeq a b) σ q B C := ⟨fun S => by
  have := h.run S
  cases e : q S with
  | none => trivial
  | some p =>
    obtain ⟨r, S'⟩ := p
    rw [e] at this
    unfold cSeq
    rw [bind_def]
    cases r with
    | exc x => obtain ⟨σ', e1, hx⟩ := this; rw [e1]; exact ⟨σ', rfl, hx⟩
    | ok g =>
      obtain ⟨f, σ', e1, hr⟩ := this
      rw [e1]
      cases f <;> cases g <;> first | exact hr.elim | exact ⟨_, _, rfl, hr⟩⟩
theorem c_any {a : Cmd} {q : Q (F γ β)} {B : β → List Sl → Prop} {C : γ → List Sl → Prop} (h : SC X a σ q nev C) : SC X a σ q B C := h.mono fun f g σ' hr => by
  cases f <;> cases g <;> first | exact hr.elim | exact hr
theorem c_if {c : M Bool} {a b : Cmd} {qc : Q Bool} {q r : Q (F γ α)} {A : α → List Sl → Prop} {C : γ → List Sl → Prop} (h : ST X c σ qc σ1) (h1 : SC X a σ1 q A C) (h2 : SC X b σ1 r A C) : SC X (cIf c a b) σ (qB qc fun b => if b then q else r) A C := bT h fun b => by
  cases b with
  | true => exact h1
  | false => exact h2
/-- the rest in each way -/
theorem c_ifr {c : M Bool} {a b r : Cmd} {qc : Q Bool} {q1 q2 : Q (F γ α)} {A : α → List Sl → Prop} {C : γ → List Sl → Prop} (h : ST X c σ qc σ1) (h1 : SC X (cSeq a r) σ1 q1 A C) (h2 : SC X (cSeq b r) σ1 q2 A C) : SC X (cSeq (cIf c a b) r) σ (qB qc fun b => if b then q1 else q2) A C :=
  Sim.cg (m2 := cIf c (cSeq a r) (cSeq b r)) (c_if h h1 h2) fun S => by
    unfold cSeq cIf
    simp only [bind_def]
    cases c ⟨σ, S⟩ with
    | none => rfl
    | some p =>
      obtain ⟨r, st⟩ := p
      cases r with
      | exc x => rfl
      | ok b => cases b <;> rfl
theorem set_b {i : Nat} {m : M T} {r : Cmd} (S : List Ob) : cSeq (cSet i m) r ⟨σ, S⟩ = (m >>= fun t => (fun st => r { st with σ := st.σ.set i (.val t) } : Cmd)) ⟨σ, S⟩ := by
  unfold cSeq cSet
  simp only [bind_def]
  cases m ⟨σ, S⟩ with
  | none => rfl
  | some p =>
    obtain ⟨r, st⟩ := p
    cases r <;> rfl
theorem Sim.sh {m : M α} {g : List Sl → List Sl} {q : Q β} {R : α → β → List Sl → Prop} (h : Sim X m (g σ) q R) : Sim X (fun st => m { st with σ := g st.σ }) σ q R := ⟨fun S => h.run S⟩
theorem c_letV {i : Nat} {m : M T} {t : T} {r : Cmd} {q : Q (F γ α)} {A : α → List Sl → Prop} {C : γ → List Sl → Prop} (h : SP m σ t) (k : SC X r (σ.set i (.val t)) q A C) : SC X (cSeq (cSet i m) r) σ q A C :=
  Sim.cg (bV h (Sim.sh (g := fun s => s.set i (.val t)) k)) set_b
theorem c_letF {i : Nat} {m : M T} {t : T} {r : Cmd} {q : Q (F γ α)} {A : α → List Sl → Prop} {C : γ → List Sl → Prop} (h : SPf m σ t σ1) (k : SC X r (σ1.set i (.val t)) q A C) : SC X (cSeq (cSet i m) r) σ q A C :=
  Sim.cg (bF h (Sim.sh (g := fun s => s.set i (.val t)) k)) set_b
theorem c_let {i : Nat} {m : M T} {r : Cmd} {q1 : Q T} {q2 : T → Q (F γ α)} {A : α → List Sl → Prop} {C : γ → List Sl → Prop} (h : SE X m σ q1 σ1) (k : ∀ t, SC X r (σ1.set i (.val t)) (q2 t) A C) : SC X (cSeq (cSet i m) r) σ (qB q1 q2) A C :=
  Sim.cg (bE h fun t => Sim.sh (g := fun s => s.set i (.val t)) (k t)) set_b
theorem c_letX {i : Nat} {m : M T} {r : Cmd} {q1 : Q ε} {v : ε → T} {s : ε → List Sl} {q2 : ε → Q (F γ α)} {A : α → List Sl → Prop} {C : γ → List Sl → Prop} (h : Sim X m σ q1 (xR v s)) (k : ∀ p, SC X r ((s p).set i (.val (v p))) (q2 p) A C) : SC X (cSeq (cSet i m) r) σ (qB q1 q2) A C :=
  Sim.cg (bX h fun t => Sim.sh (g := fun s => s.set i (.val (v t))) (k t)) set_b
theorem own_b {i : Nat} {m : M Ob} {r : Cmd} (S : List Ob) : cSeq (cOwn i m) r ⟨σ, S⟩ = (m >>= fun t => (fun st => r { st with σ := st.σ.set i (.own t) } : Cmd)) ⟨σ, S⟩ := by
  unfold cSeq cOwn
  simp only [bind_def]
  cases m ⟨σ, S⟩ with
  | none => rfl
  | some p =>
    obtain ⟨r, st⟩ := p
    cases r <;> rfl
theorem c_own {i : Nat} {m : M Ob} {r : Cmd} {q1 : Q (List T)} {q2 : List T → Q (F γ α)} {A : α → List Sl → Prop} {C : γ → List Sl → Prop} (h : SL X m σ q1 σ1) (k : ∀ t, SC X r (σ1.set i (.own (.lst t))) (q2 t) A C) : SC X (cSeq (cOwn i m) r) σ (qB q1 q2) A C :=
  Sim.cg (bL h fun t => Sim.sh (g := fun s => s.set i (.own (.lst t))) (k t)) own_b
theorem c_ownD {i : Nat} {r : Cmd} {q : Q (F γ α)} {A : α → List Sl → Prop} {C : γ → List Sl → Prop} (k : SC X r (σ.set i (.own (.dct [] []))) q A C) : SC X (cSeq (cOwn i fDic) r) σ q A C :=
  Sim.cg (Sim.sh (g := fun s => s.set i (.own (.dct [] []))) k) own_b
theorem expr_b {m : M T} {r : Cmd} (S : List Ob) : cSeq (cExpr m) r ⟨σ, S⟩ = (m >>= fun _ => r) ⟨σ, S⟩ := by
  unfold cSeq cExpr
  simp only [bind_def]
  cases m ⟨σ, S⟩ with
  | none => rfl
  | some p =>
    obtain ⟨r, st⟩ := p
    cases r <;> rfl
theorem c_ex {m : M T} {r : Cmd} {q1 : Q ε} {v : ε → T} {s : ε → List Sl} {q2 : ε → Q (F γ α)} {A : α → List Sl → Prop} {C : γ → List Sl → Prop} (h : Sim X m σ q1 (xR v s)) (k : ∀ p, SC X r (s p) (q2 p) A C) : SC X (cSeq (cExpr m) r) σ (qB q1 q2) A C :=
  Sim.cg (bX h fun t => k t) expr_b
theorem c_exE {m : M T} {r : Cmd} {q1 : Q T} {q2 : T → Q (F γ α)} {A : α → List Sl → Prop} {C : γ → List Sl → Prop} (h : SE X m σ q1 σ1) (k : ∀ p, SC X r σ1 (q2 p) A C) : SC X (cSeq (cExpr m) r) σ (qB q1 q2) A C :=
  Sim.cg (bE h fun t => k t) expr_b
/-! ### targets -/
def SAs (X : List Sl → Prop) (gs : List Tg) (ts : List T) (σ : List Sl) (m : M α) (q : Q β) (R : α → β → List Sl → Prop) : Prop := (∃ σ0, asgTs gs ts σ = some σ0 ∧ Sim X m σ0 q R) ∨ q = qZ
theorem sa_nil {m : M α} {q : Q β} {R : α → β → List Sl → Prop} (h : Sim X m σ q R) : SAs X [] [] σ m q R := .inl ⟨σ, rfl, h⟩
theorem sa_nm {i : Nat} {t : T} {gs : List Tg} {ts : List T} {m : M α} {q : Q β} {R : α → β → List Sl → Prop} (h : SAs X gs ts (σ.set i (.val t)) m q R) : SAs X (.nm i :: gs) (t :: ts) σ m q R := h
theorem asgTs_app : ∀ {gs1 gs2 : List Tg} {ts1 ts2 : List T} {σ : List Sl}, gs1.length = ts1.length → asgTs (gs1 ++ gs2) (ts1 ++ ts2) σ = (asgTs gs1 ts1 σ).bind (asgTs gs2 ts2)
  | [], _, [], _, σ, _ => rfl
  | [], _, _ :: _, _, _, h => by cases h
  | _ :: _, _, [], _, _, h => by cases h
  | g :: gs1, gs2, t :: ts1, ts2, σ, h => by
    show (asgT g t σ).bind (asgTs (gs1 ++ gs2) (ts1 ++ ts2)) = ((asgT g t σ).bind (asgTs gs1 ts1)).bind (asgTs gs2 ts2)
    cases asgT g t σ with
    | none => rfl
    | some σ1 => exact asgTs_app (by simpa using h)
theorem sa_in {hs gs : List Tg} {us ts : List T} {m : M α} {q : Q β} {R : α → β → List Sl → Prop} (hl : hs.length = us.length) (h : SAs X (hs ++ gs) (us ++ ts) σ m q R) : SAs X (.tu hs :: gs) (.tup us :: ts) σ m q R := by
  rcases h with ⟨σ0, e, h⟩ | h
  · refine .inl ⟨σ0, ?_, h⟩
    rw [asgTs_app hl] at e
    exact e
  · exact .inr h
theorem sa_1 {g1 : Tg} {gs : List Tg} {t : T} {ts : List T} {m : M α} {k : T → Q β} {R : α → β → List Sl → Prop} (h : ∀ x, SAs X (g1 :: gs) (x :: ts) σ m (k x) R) : SAs X (.tu [g1] :: gs) (t :: ts) σ m (un1 t k) R := by
  unfold un1
  split
  · exact sa_in rfl (h _)
  · exact .inr rfl
theorem sa_2 {g1 g2 : Tg} {gs : List Tg} {t : T} {ts : List T} {m : M α} {k : T → T → Q β} {R : α → β → List Sl → Prop} (h : ∀ x y, SAs X (g1 :: g2 :: gs) (x :: y :: ts) σ m (k x y) R) : SAs X (.tu [g1, g2] :: gs) (t :: ts) σ m (un2 t k) R := by
  unfold un2
  split
  · exact sa_in rfl (h _ _)
  · exact .inr rfl
theorem sa_3 {g1 g2 g3 : Tg} {gs : List Tg} {t : T} {ts : List T} {m : M α} {k : T → T → T → Q β} {R : α → β → List Sl → Prop} (h : ∀ x y z, SAs X (g1 :: g2 :: g3 :: gs) (x :: y :: z :: ts) σ m (k x y z) R) : SAs X (.tu [g1, g2, g3] :: gs) (t :: ts) σ m (un3 t k) R := by
  unfold un3
  split
  · exact sa_in rfl (h _ _ _)
  · exact .inr rfl
theorem sa_4 {g1 g2 g3 g4 : Tg} {gs : List Tg} {t : T} {ts : List T} {m : M α} {k : T → T → T → T → Q β} {R : α → β → List Sl → Prop} (h : ∀ x y z u, SAs X (g1 :: g2 :: g3 :: g4 :: gs) (x :: y :: z :: u :: ts) σ m (k x y z u) R) : SAs X (.tu [g1, g2, g3, g4] :: gs) (t :: ts) σ m (un4 t k) R := by
  unfold un4
  split
  · exact sa_in rfl (h _ _ _ _)
  · exact .inr rfl
theorem sa_5 {g1 g2 g3 g4 g5 : Tg} {gs : List Tg} {t : T} {ts : List T} {m : M α} {k : T → T → T → T → T → Q β} {R : α → β → List Sl → Prop} (h : ∀ x y z u v, SAs X (g1 :: g2 :: g3 :: g4 :: g5 :: gs) (x :: y :: z :: u :: v :: ts) σ m (k x y z u v) R) : SAs X (.tu [g1, g2, g3, g4, g5] :: gs) (t :: ts) σ m (un5 t k) R := by
  unfold un5
  split
  · exact sa_in rfl (h _ _ _ _ _)
  · exact .inr rfl
theorem asgTs_one {g : Tg} {t : T} : asgTs [g] [t] σ = asgT g t σ := by
  show (asgT g t σ).bind (asgTs [] []) = _
  cases asgT g t σ <;> rfl
theorem c_unp {tg : Tg} {m : M T} {r : Cmd} {q1 : Q T} {q2 : T → Q (F γ α)} {A : α → List Sl → Prop} {C : γ → List Sl → Prop} (h : SE X m σ q1 σ1) (k : ∀ t, SAs X [tg] [t] σ1 r (q2 t) (cR A C)) : SC X (cSeq (cUnp tg m) r) σ (qB q1 q2) A C :=
  Sim.cg (m2 := m >>= fun t => (fun st => match asgT tg t st.σ with | some σ' => r { st with σ := σ' } | none => none : Cmd)) (bE h fun t => by
    rcases k t with ⟨σ0, e, hk⟩ | hk
    · rw [asgTs_one] at e
      refine Sim.cg (m2 := fun st => r { st with σ := σ0 }) (Sim.sh (g := fun _ => σ0) hk) fun S => ?_
      simp only [e]
    · rw [hk]; exact Sim.zz) fun S => by
    unfold cSeq cUnp
    simp only [bind_def]
    cases m ⟨σ, S⟩ with
    | none => rfl
    | some p =>
      obtain ⟨r, st⟩ := p
      cases r with
      | exc x => rfl
      | ok t =>
        simp only
        cases asgT tg t st.σ <;> rfl
theorem c_unpV {tg : Tg} {m : M T} {t : T} {r : Cmd} {q : Q (F γ α)} {A : α → List Sl → Prop} {C : γ → List Sl → Prop} (h : SP m σ t) (k : SAs X [tg] [t] σ r q (cR A C)) : SC X (cSeq (cUnp tg m) r) σ q A C := by
  have := c_unp (X := X) (q1 := qP t) (q2 := fun _ => q) (A := A) (C := C) (r := r) (tg := tg) (m := m) (σ := σ) (σ1 := σ)
  refine ⟨fun S => ?_⟩
  rcases k with ⟨σ0, e, hk⟩ | hk
  · rw [asgTs_one] at e
    have h1 := hk.run S
    have e2 : cSeq (cUnp tg m) r ⟨σ, S⟩ = r ⟨σ0, S⟩ := by
      unfold cSeq cUnp
      simp only [bind_def, h.run S, e]
    rw [e2]
    exact h1
  · rw [hk]; trivial
/-! ### iterables -/
abbrev iR (σ1 : List Sl) (C : List T → List Sl → Prop) : Itr → List T → List Sl → Prop := fun it l σ' => it.ts = l ∧ σ' = σ1 ∧ ∀ s S, C l s → it.chk ⟨s, S⟩
abbrev SI (X : List Sl → Prop) (m : M Itr) (σ : List Sl) (q : Q (List T)) (σ1 : List Sl) (C : List T → List Sl → Prop) : Prop := Sim X m σ q (iR σ1 C)
abbrev yes : List T → List Sl → Prop := fun _ _ => True
theorem itEnd {t : T} : SI X (fun st => match t with
    | .tup ts => some (.ok ⟨ts, fun _ => True⟩, st)
    | .str s => some (.ok ⟨s.map fun c => .str [c], fun _ => True⟩, st)
    | t => match lstAt st.S t with
      | some ts => some (.ok ⟨ts, fun st' => lstAt st'.S t = some ts⟩, st)
      | none => none : M Itr) σ (qIt t) σ yes := ⟨fun S => by
  unfold qIt
  cases t with
  | tup ts => exact ⟨_, _, rfl, rfl, rfl, fun _ _ _ => trivial⟩
  | str s => exact ⟨_, _, rfl, rfl, rfl, fun _ _ _ => trivial⟩
  | fz ts => exact ⟨_, _, rfl, rfl, rfl, fun _ _ _ => rfl⟩
  | _ => trivial⟩
theorem iUV {m : M T} {t : T} (h : SP m σ t) : SI X (iU m) σ (qIt t) σ yes := bV h itEnd
theorem iUF {m : M T} {t : T} (h : SPf m σ t σ1) : SI X (iU m) σ (qIt t) σ1 yes := bF h itEnd
theorem iUE {m : M T} {q : Q T} (h : SE X m σ q σ1) : SI X (iU m) σ (qB q qIt) σ1 yes := bE h fun t => itEnd
theorem iOwn {i : Nat} {ts : List T} (h : σ[i]? = some (.own (.lst ts)) := by rfl) : SI X (iVar i) σ (qP ts) σ (fun _ s => s[i]? = some (.own (.lst ts))) := ⟨fun S => by
  have e : ∀ (s : List Sl) (S : List Ob) (l : List T), s[i]? = some (.own (.lst l)) → rVar i ⟨s, S⟩ = some (.fz l) := fun s S l z => by unfold rVar; simp only [z]; rfl
  refine ⟨⟨ts, fun st' => rVar i st' = some (.fz ts)⟩, σ, ?_, rfl, rfl, fun s S z => e s S ts z⟩
  unfold iVar
  rw [e σ S ts h]⟩
theorem iEnOwn {i : Nat} {ts : List T} (h : σ[i]? = some (.own (.lst ts)) := by rfl) : SI X (iEnumV i) σ (qP (enumT ts)) σ (fun l s => s[i]? = some (.own (.lst ts))) := ⟨fun S => by
  have e : ∀ (s : List Sl) (S : List Ob) (l : List T), s[i]? = some (.own (.lst l)) → rVar i ⟨s, S⟩ = some (.fz l) := fun s S l z => by unfold rVar; simp only [z]; rfl
  refine ⟨⟨enumT ts, fun st' => rVar i st' = some (.fz ts)⟩, σ, ?_, rfl, rfl, fun s S z => e s S ts z⟩
  unfold iEnumV
  rw [e σ S ts h]⟩
theorem sRange {m : M (List T)} {q : Q β} {R : Itr → β → List Sl → Prop} (k : Sim X (m >>= fun ts => match ts with
    | [.int n] => if n ≤ 1000000 ∧ -1000000 ≤ n then pure ⟨(List.range n.toNat).map fun k => .int (k : Nat), fun _ => True⟩ else stuck
    | _ => stuck) σ q R) : Sim X (iRange m) σ q R := k
theorem rgEnd {t : T} : SI X (match [t] with
    | [.int n] => if n ≤ 1000000 ∧ -1000000 ≤ n then pure ⟨(List.range n.toNat).map fun k => .int (k : Nat), fun _ => True⟩ else stuck
    | _ => stuck) σ (qRange t) σ yes := by
  unfold qRange
  cases t with
  | int n =>
    simp only
    by_cases h : n ≤ 1000000 ∧ -1000000 ≤ n
    · rw [if_pos h, if_pos h]
      exact Sim.pur ⟨rfl, rfl, fun _ _ _ => trivial⟩
    · rw [if_neg h, if_neg h]; exact Sim.zz
  | _ => exact Sim.zz
theorem sEnum {m : M (List T)} {q : Q β} {R : Itr → β → List Sl → Prop} (k : Sim X (m >>= fun ts => match ts with
    | [t] => (fun st => match lstAt st.S t with
      | some ts => some (.ok ⟨enumT ts, fun st' => lstAt st'.S t = some ts⟩, st)
      | none => none : M Itr)
    | _ => stuck) σ q R) : Sim X (iEnumU m) σ q R := k
theorem enEnd {t : T} : SI X (match [t] with
    | [t] => (fun st => match lstAt st.S t with
      | some ts => some (.ok ⟨enumT ts, fun st' => lstAt st'.S t = some ts⟩, st)
      | none => none : M Itr)
    | _ => stuck) σ (qEnum t) σ yes := ⟨fun S => by
  unfold qEnum
  cases t with
  | fz ts => exact ⟨_, _, rfl, rfl, rfl, fun _ _ _ => rfl⟩
  | _ => trivial⟩
theorem sZip {m : M (List T)} {q : Q β} {R : Itr → β → List Sl → Prop} (k : Sim X (m >>= fun ts => match ts with
    | [t, u] => (fun st => match t, u with
      | .tup ts, .tup us => some (.ok ⟨zipT ts us, fun _ => True⟩, st)
      | t, u => match lstAt st.S t, lstAt st.S u with
        | some ts, some us => some (.ok ⟨zipT ts us, fun st' => lstAt st'.S t = some ts ∧ lstAt st'.S u = some us⟩, st)
        | _, _ => none : M Itr)
    | _ => stuck) σ q R) : Sim X (iZipU m) σ q R := k
theorem zpEnd {t u : T} : SI X (match [t, u] with
    | [t, u] => (fun st => match t, u with
      | .tup ts, .tup us => some (.ok ⟨zipT ts us, fun _ => True⟩, st)
      | t, u => match lstAt st.S t, lstAt st.S u with
        | some ts, some us => some (.ok ⟨zipT ts us, fun st' => lstAt st'.S t = some ts ∧ lstAt st'.S u = some us⟩, st)
        | _, _ => none : M Itr)
    | _ => stuck) σ (qZip t u) σ yes := ⟨fun S => by
  unfold qZip
  cases t with
  | tup ts => cases u with
    | tup us => exact ⟨_, _, rfl, rfl, rfl, fun _ _ _ => trivial⟩
    | _ => trivial
  | fz ts => cases u with
    | fz us => exact ⟨_, _, rfl, rfl, rfl, fun _ _ _ => ⟨rfl, rfl⟩⟩
    | _ => trivial
  | _ => trivial⟩
/-! ### loops -/
theorem forL_sim {chk : Stt → Prop} {tg : Tg} {body : Cmd} {qb : T → γ → Q (F γ γ)} {L : γ → List Sl → Prop} {C : δ → List Sl → Prop} (hc : ∀ a s S, L a s → chk ⟨s, S⟩)
    (hb : ∀ t a s, L a s → SAs X [tg] [t] s body (qb t a) (cR L L)) : ∀ (l : List T) (a : γ) (σ : List Sl), L a σ → SC X (forL chk tg body l) σ (qFor (δ := δ) qb l a) L C
  | [], a, σ, h => Sim.cg (c_nxt h) fun S => by
    unfold forL
    rw [if_pos (hc a σ S h)]
    rfl
  | t :: ts, a, σ, h => by
    rcases hb t a σ h with ⟨σ0, e, hk⟩ | hk
    · rw [asgTs_one] at e
      refine Sim.cg (m2 := (fun st => body { st with σ := σ0 } : Cmd) >>= fun f => match f with
        | .nxt => forL chk tg body ts
        | .cnt => forL chk tg body ts
        | .brk => pure .nxt
        | .ret v => pure (.ret v)) (Sim.bnd (Sim.sh (g := fun _ => σ0) hk) fun f g s hr => ?_) fun S => ?_
      · cases f <;> cases g <;> first | exact hr.elim | exact forL_sim hc hb ts _ _ hr | exact Sim.pur hr
      · rw [forL]
        dsimp only
        rw [if_pos (hc a σ S h)]
        simp only [e, bind_def]
        cases body ⟨σ0, S⟩ with
        | none => rfl
        | some p =>
          obtain ⟨r, st⟩ := p
          cases r with
          | exc x => rfl
          | ok f => cases f <;> rfl
    · unfold qFor
      rw [hk]
      exact Sim.zz
theorem c_for {mi : M Itr} {tg : Tg} {body : Cmd} {q : Q (List T)} {qb : T → γ → Q (F γ γ)} {a : γ} {L : γ → List Sl → Prop} {C : δ → List Sl → Prop} {K : List T → List Sl → Prop} (hi : SI X mi σ q σ1 K) (h0 : L a σ1) (hc : ∀ l x s, L x s → K l s)
    (hb : ∀ t x s, L x s → SAs X [tg] [t] s body (qb t x) (cR L L)) : SC X (cFor mi tg body) σ (qB q fun l => qFor (δ := δ) qb l a) L C :=
  Sim.bnd hi fun it l s ⟨e1, e2, e3⟩ => by
    subst e2
    rw [e1]
    exact forL_sim (fun x s S h => e3 s S (hc l x s h)) hb l a _ h0
/-- .. over a list of one's own -/
theorem c_forO {mi : M Itr} {tg : Tg} {body : Cmd} {l : List T} {qb : T → γ → Q (F γ γ)} {a : γ} {L : γ → List Sl → Prop} {C : δ → List Sl → Prop} {K : List T → List Sl → Prop} (hi : SI X mi σ (qP l) σ1 K) (h0 : L a σ1) (hc : ∀ x s, L x s → K l s)
    (hb : ∀ t x s, L x s → SAs X [tg] [t] s body (qb t x) (cR L L)) : SC X (cFor mi tg body) σ (qFor (δ := δ) qb l a) L C := by
  have := Sim.bnd (q := qP l) (g := fun m => (if m = l then qFor (δ := δ) qb l a else qZ : Q (F δ γ))) hi (R2 := cR L C) (f := fun it => forL it.chk tg body it.ts) fun it m s ⟨e1, e2, e3⟩ => by
    subst e2
    by_cases hm : m = l
    · subst hm
      rw [if_pos rfl, e1]
      exact forL_sim (fun x s S h => e3 s S (hc x s h)) hb _ a _ h0
    · rw [if_neg hm]; exact Sim.zz
  have e : (qB (qP l) fun m => (if m = l then qFor (δ := δ) qb l a else qZ : Q (F δ γ))) = qFor (δ := δ) qb l a := by
    show (if l = l then qFor (δ := δ) qb l a else qZ : Q (F δ γ)) = _
    rw [if_pos rfl]
  rw [e] at this
  exact this
theorem c_while {b : M Bool} {body : Cmd} {qt : γ → Q Bool} {qb : γ → Q (F γ γ)} {L : γ → List Sl → Prop} {C : δ → List Sl → Prop}
    (ht : ∀ x s, L x s → ST X b s (qt x) s) (hb : ∀ x s, L x s → SC X body s (qb x) L L) : ∀ (n : Nat) (a : γ) (σ : List Sl), L a σ → SC X (whileL b body n) σ (qWhile (δ := δ) qt qb n a) L C
  | 0, _, _, _ => Sim.zz
  | n + 1, a, σ, h => by
    unfold whileL qWhile
    refine bT (ht a σ h) fun d => ?_
    cases d with
    | false => exact Sim.pur h
    | true =>
      refine Sim.bnd (hb a σ h) fun f g s hr => ?_
      cases f <;> cases g <;> first | exact hr.elim | exact c_while ht hb n _ _ hr | exact Sim.pur hr
theorem c_wh {b : M Bool} {body : Cmd} {qt : γ → Q Bool} {qb : γ → Q (F γ γ)} {n : Nat} {a : γ} {L : γ → List Sl → Prop} {C : δ → List Sl → Prop} (h0 : L a σ)
    (ht : ∀ x s, L x s → ST X b s (qt x) s) (hb : ∀ x s, L x s → SC X body s (qb x) L L) : SC X (whileL b body n) σ (qWhile (δ := δ) qt qb n a) L C := c_while ht hb n a σ h0
/-! ### comprehensions -/
abbrev bodyT (test : M Bool) (elt : M T) : M (Option T) := test >>= fun b => match b with
  | true => elt >>= fun y => pure (some y)
  | false => pure none
abbrev wR (own : List Nat) (σ : List Sl) : Option T → Option T → List Sl → Prop := fun a b s => a = b ∧ wipeS s own = σ
theorem g_all {elt : M T} {q : Q T} {own : List Nat} {s1 : List Sl} (h : SE X elt σ q s1) (hw : wipeS s1 own = σ2) : Sim X (bodyT bYes elt) σ (qB q fun y => qP (some y)) (wR own σ2) := 
  bE h fun y => Sim.pur ⟨rfl, hw⟩
theorem g_allV {elt : M T} {t : T} {own : List Nat} (h : SP elt σ t) (hw : wipeS σ own = σ2) : Sim X (bodyT bYes elt) σ (qP (some t)) (wR own σ2) := 
  bV h (Sim.pur ⟨rfl, hw⟩)
theorem g_if {test : M Bool} {elt : M T} {qt : Q Bool} {q : Q T} {own : List Nat} {s1 s2 : List Sl} (ht : ST X test σ qt s1) (h : SE X elt s1 q s2) (hw1 : wipeS s1 own = σ2) (hw2 : wipeS s2 own = σ2) : Sim X (bodyT test elt) σ (qB qt fun b => if b then qB q (fun y => qP (some y)) else qP none) (wR own σ2) := 
  bT ht fun b => by
    cases b with
    | true => exact bE h fun y => Sim.pur ⟨rfl, hw2⟩
    | false => exact Sim.pur ⟨rfl, hw1⟩
theorem g_ifV {test : M Bool} {elt : M T} {qt : Q Bool} {t : T} {own : List Nat} {s1 : List Sl} (ht : ST X test σ qt s1) (h : SP elt s1 t) (hw1 : wipeS s1 own = σ2) : Sim X (bodyT test elt) σ (qB qt fun b => if b then qP (some t) else qP none) (wR own σ2) := 
  bT ht fun b => by
    cases b with
    | true => exact bV h (Sim.pur ⟨rfl, hw1⟩)
    | false => exact Sim.pur ⟨rfl, hw1⟩
theorem lcL_sim {chk : Stt → Prop} {own : List Nat} {tg : Tg} {test : M Bool} {elt : M T} {g : T → Q (Option T)} (hc : ∀ S, chk ⟨σ, S⟩) (hb : ∀ t, SAs X [tg] [t] σ (bodyT test elt) (g t) (wR own σ)) :
    ∀ (l : List T) (S : List Ob), match qCompL g l S with | some (.ok ys, S') => lcL chk own tg test elt l ⟨σ, S⟩ = some (ys, ⟨σ, S'⟩) | none => True | some (.exc _, _) => False
  | [], S => by
    show lcL chk own tg test elt [] ⟨σ, S⟩ = some ([], ⟨σ, S⟩)
    unfold lcL
    rw [if_pos (hc S)]
  | t :: ts, S => by
    have ih := lcL_sim hc hb ts
    unfold qCompL
    rcases hb t with ⟨σ0, e, hk⟩ | hk
    · rw [asgTs_one] at e
      have hr := hk.run S
      cases eg : g t S with
      | none => trivial
      | some p =>
        obtain ⟨r, S1⟩ := p
        rw [eg] at hr
        cases r with
        | exc x => trivial
        | ok o =>
          simp only
          obtain ⟨a, s1, e1, rfl, hw⟩ := hr
          have ih1 := ih S1
          cases el : qCompL g ts S1 with
          | none => trivial
          | some p =>
            obtain ⟨r, S2⟩ := p
            rw [el] at ih1
            cases r with
            | exc x => trivial
            | ok ys =>
              simp only at ih1 ⊢
              unfold lcL
              rw [if_pos (hc S)]
              simp only [e]
              unfold bodyT at e1
              rw [bind_def] at e1
              cases et : test ⟨σ0, S⟩ with
              | none => rw [et] at e1; cases e1
              | some p =>
                obtain ⟨r, st1⟩ := p
                rw [et] at e1
                cases r with
                | exc x => cases e1
                | ok b =>
                  cases b with
                  | true =>
                    simp only [bind_def] at e1 ⊢
                    cases ee : elt st1 with
                    | none => rw [ee] at e1; cases e1
                    | some p =>
                      obtain ⟨r, st2⟩ := p
                      rw [ee] at e1
                      cases r with
                      | exc x => cases e1
                      | ok y =>
                        cases e1
                        simp only [hw, ih1]
                  | false =>
                    cases e1
                    simp only [hw, ih1]
    · rw [hk]; trivial
theorem g_comp {mi : M Itr} {own : List Nat} {tg : Tg} {test : M Bool} {elt : M T} {q : Q (List T)} {g : T → Q (Option T)} {K : List T → List Sl → Prop} (hi : SI X mi σ q σ1 K) (hK : ∀ l, K l (wipeS σ1 own)) (hn : own.all (fun v => notOwn σ1[v]?) = true) (hr : restS σ1 (wipeS σ1 own) own = σ1)
    (hb : ∀ t, SAs X [tg] [t] (wipeS σ1 own) (bodyT test elt) (g t) (wR own (wipeS σ1 own))) : SL X (fComp mi own tg test elt) σ (qB q (qComp g)) σ1 :=
  Sim.bnd hi fun it l s ⟨e1, e2, e3⟩ => by
    subst e2
    refine ⟨fun S => ?_⟩
    unfold qComp
    by_cases hl : l.length ≤ 1000000
    · rw [if_pos hl, e1]
      have := lcL_sim (chk := it.chk) (σ := wipeS s own) (fun S => e3 _ S (hK l)) hb l S
      simp only [hl, hn, and_self, if_true]
      cases el : qCompL g l S with
      | none => trivial
      | some p =>
        obtain ⟨r, S2⟩ := p
        rw [el] at this
        cases r with
        | exc x => exact this.elim
        | ok ys =>
          simp only at this ⊢
          rw [this]
          exact ⟨_, _, rfl, rfl, by rw [hr]⟩
    · rw [if_neg hl]; trivial
/-! ### places -/
theorem setix_b {mp : M Plc} {mi m : M T} {r : Cmd} (S : List Ob) : cSeq (cSetIx mp mi m) r ⟨σ, S⟩ = (m >>= fun t => mp >>= fun pl => mi >>= fun k => (fun st => match pl st with
    | some (ob, set) => match setF ob k t with
      | some ob' => r (set ob')
      | none => none
    | none => none : Cmd)) ⟨σ, S⟩ := by
  unfold cSeq cSetIx
  simp only [bind_def]
  cases m ⟨σ, S⟩ with
  | none => rfl
  | some p =>
    obtain ⟨r1, st⟩ := p
    cases r1 with
    | exc x => rfl
    | ok t =>
      simp only
      cases mp st with
      | none => rfl
      | some p =>
        obtain ⟨r1, st⟩ := p
        cases r1 with
        | exc x => rfl
        | ok pl =>
          simp only
          cases mi st with
          | none => rfl
          | some p =>
            obtain ⟨r1, st⟩ := p
            cases r1 with
            | exc x => rfl
            | ok k =>
              simp only
              cases pl st with
              | none => rfl
              | some p =>
                obtain ⟨ob, set⟩ := p
                simp only
                cases setF ob k t <;> rfl
theorem c_setO {i : Nat} {ys : List T} {mi m : M T} {r : Cmd} {q1 q2 : Q T} {q3 : List T → Q (F γ α)} {A : α → List Sl → Prop} {C : γ → List Sl → Prop} (h : SE X m σ q1 σ) (h2 : SE X mi σ q2 σ)
    (k : ∀ l, SC X r (σ.set i (.own (.lst l))) (q3 l) A C) (h0 : σ[i]? = some (.own (.lst ys)) := by rfl) : SC X (cSeq (cSetIx (mVar i) mi m) r) σ (qB q1 fun t => qB q2 fun k => qB (qO (setL ys k t)) q3) A C :=
  Sim.cg (bE h fun t => Sim.cg (m2 := mi >>= fun k => (fun st => match pVar i st with
    | some (ob, set) => match setF ob k t with
      | some ob' => r (set ob')
      | none => none
    | none => none : Cmd)) (bE h2 fun k1 => ⟨fun S => by
      unfold pVar
      simp only [h0]
      unfold setF setL
      cases k1 with
      | int j =>
        simp only
        cases e : ixN ys.length j with
        | none => trivial
        | some n => exact (k _).run S
      | _ => trivial⟩) fun S => by unfold mVar pVar; simp only [bind_def, h0]) setix_b
theorem c_setB {i : Nat} {x : T} {mi m : M T} {r : Cmd} {q1 q2 : Q T} {q3 : Q (F γ α)} {A : α → List Sl → Prop} {C : γ → List Sl → Prop} (h : SE X m σ q1 σ) (h2 : SE X mi σ q2 σ)
    (k : SC X r σ q3 A C) (h0 : σ[i]? = some (.val x) := by rfl) : SC X (cSeq (cSetIx (mVar i) mi m) r) σ (qB q1 fun t => qB (qIsL x) fun _ => qB q2 fun k => qB (qBxSet x k t) fun _ => q3) A C :=
  Sim.cg (bE h fun t => ⟨fun S => by
    have hb := (bE h2 fun k1 => (⟨fun S => by
      unfold qB qBxSet
      cases e : boxL S x with
      | none => trivial
      | some p =>
        obtain ⟨a, us⟩ := p
        simp only
        rw [pBox h0 e]
        simp only [setF, setL]
        cases k1 with
        | int j =>
          simp only
          cases ixN us.length j with
          | none => trivial
          | some n => exact k.run _
        | _ => trivial⟩ : SC X (fun st => match pVar i st with
    | some (ob, set) => match setF ob k1 t with
      | some ob' => r (set ob')
      | none => none
    | none => none : Cmd) σ (qB (qBxSet x k1 t) fun _ => q3) A C)).run S
    unfold qB qIsL
    cases e : boxL S x with
    | none => trivial
    | some p =>
      obtain ⟨a, us⟩ := p
      unfold mVar
      rw [bind_def]
      simp only [pBox h0 e]
      exact hb⟩) setix_b
theorem put_b {mp : M Plc} {mk mv : M T} {r : Cmd} (S : List Ob) : cSeq (cPut mp mk mv) r ⟨σ, S⟩ = (mv >>= fun t => mp >>= fun pl => mk >>= fun k => (fun st => match pl st with
    | some (.dct ks vs, set) => if isKey k = true ∧ ks.length ≤ 1000000 then r (set (putD ks vs k t)) else none
    | _ => none : Cmd)) ⟨σ, S⟩ := by
  unfold cSeq cPut
  simp only [bind_def]
  cases mv ⟨σ, S⟩ with
  | none => rfl
  | some p =>
    obtain ⟨r1, st⟩ := p
    cases r1 with
    | exc x => rfl
    | ok t =>
      simp only
      cases mp st with
      | none => rfl
      | some p =>
        obtain ⟨r1, st⟩ := p
        cases r1 with
        | exc x => rfl
        | ok pl =>
          simp only
          cases mk st with
          | none => rfl
          | some p =>
            obtain ⟨r1, st⟩ := p
            cases r1 with
            | exc x => rfl
            | ok k =>
              simp only
              cases pl st with
              | none => rfl
              | some p =>
                obtain ⟨ob, set⟩ := p
                cases ob with
                | dct ks vs =>
                  simp only
                  by_cases h : isKey k = true ∧ ks.length ≤ 1000000
                  · simp only [if_pos h]
                  · simp only [if_neg h]
                | _ => rfl
theorem putD_P {d : List T × List T} {k t : T} : putD d.1 d.2 k t = .dct (putP d k t).1 (putP d k t).2 := by
  unfold putD putP
  split <;> rfl
theorem c_putO {i : Nat} {d : List T × List T} {mk mv : M T} {r : Cmd} {q1 q2 : Q T} {q3 : List T × List T → Q (F γ α)} {A : α → List Sl → Prop} {C : γ → List Sl → Prop} (h : SE X mv σ q1 σ) (h2 : SE X mk σ q2 σ)
    (k : ∀ e : List T × List T, SC X r (σ.set i (.own (.dct e.1 e.2))) (q3 e) A C) (h0 : σ[i]? = some (.own (.dct d.1 d.2)) := by rfl) : SC X (cSeq (cPut (mVar i) mk mv) r) σ (qB q1 fun t => qB q2 fun k => qB (qPut d k t) q3) A C :=
  Sim.cg (bE h fun t => Sim.cg (m2 := mk >>= fun k => (fun st => match pVar i st with
    | some (.dct ks vs, set) => if isKey k = true ∧ ks.length ≤ 1000000 then r (set (putD ks vs k t)) else none
    | _ => none : Cmd)) (bE h2 fun k1 => ⟨fun S => by
      unfold pVar qB qPut
      simp only [h0]
      by_cases hc : isKey k1 = true ∧ d.1.length ≤ 1000000
      · simp only [if_pos hc]
        rw [putD_P]
        exact (k _).run S
      · simp only [if_neg hc]; trivial⟩) fun S => by unfold mVar pVar; simp only [bind_def, h0]) put_b
/-! ### small forms -/
theorem rdn : Rds σ [] [] := trivial
theorem rdc {r : Rdr} {x : T} {rs : List Rdr} {xs : List T} (h : Rd r x σ) (k : Rds σ rs xs) : Rds σ (r :: rs) (x :: xs) := ⟨h, k⟩
structure SPs (m : M (List T)) (σ : List Sl) (ts : List T) : Prop where run : ∀ S, m ⟨σ, S⟩ = some (.ok ts, ⟨σ, S⟩)
theorem v_aN : SPs aNil σ [] := ⟨fun S => rfl⟩
theorem v_aC {m : M T} {k : M (List T)} {t : T} {ts : List T} (h : SP m σ t) (j : SPs k σ ts) : SPs (aCons m k) σ (t :: ts) := ⟨fun S => by
  unfold aCons
  simp only [bind_def, h.run S, j.run S]
  rfl⟩
theorem v_tup {m : M (List T)} {ts : List T} (h : SPs m σ ts) (hl : ts.length ≤ 1000 := by simp only [List.length_cons, List.length_nil]; decide) : SP (eTup m) σ (.tup ts) := ⟨fun S => by
  unfold eTup
  simp only [bind_def, h.run S, if_pos hl]
  rfl⟩
theorem v_lst {m : M (List T)} {ts : List T} (h : SPs m σ ts) (hl : ts.length ≤ 1000 := by simp only [List.length_cons, List.length_nil]; decide) : SP (eFz (fLst m)) σ (.fz ts) := ⟨fun S => by
  unfold eFz fLst
  simp only [bind_def, h.run S, if_pos hl]
  rfl⟩
theorem v_neg {m : M T} {i : Int} (h : SP m σ (.int i)) : SP (eNeg m) σ (.int (-i)) := ⟨fun S => by
  unfold eNeg
  simp only [bind_def, h.run S]
  rfl⟩
theorem pT {m : M T} {t : T} {f : Option Int → M α} {q2 : Int → Q β} {R : α → β → List Sl → Prop} (h : SP m σ t) (k : ∀ i, Sim X (f (some i)) σ (q2 i) R) : Sim X (pSome m >>= f) σ (qB (qI t) q2) R :=
  Sim.cg (bV h (by
    unfold qI
    cases t with
    | int i => exact k i
    | _ => exact Sim.zz)) ps_b
/-- a slot that nobody asks for: a name's value, or none -/
def jS : Option T → Sl
  | none => .emp
  | some t => .val t
theorem nO_v {t : T} : notOwn (some (.val t)) = true := rfl
theorem nO_e : notOwn (some .emp) = true := rfl
theorem nO_j {j : Option T} : notOwn (some (jS j)) = true := by cases j <;> rfl
/-! ### a def -/
theorem fn_sim {n : Nat} {c : Cmd} {ts : List T} {q : Q (F Unit Unit)} {S S' : List Ob} {r : R T} (h : SC (fun _ => True) c (ts.map .val ++ List.replicate (n - ts.length) .emp) q (fun _ _ => True) (fun _ _ => False)) (e : qFn q S = some (r, S')) : fnM n c ts S = some (r, S') := by
  have := h.run S
  unfold qFn qB at e
  unfold fnM
  cases eq : q S with
  | none => rw [eq] at e; cases e
  | some p =>
    obtain ⟨r1, S1⟩ := p
    rw [eq] at e this
    cases r1 with
    | exc x =>
      obtain ⟨s, e1, _⟩ := this
      rw [e1]
      exact e
    | ok g =>
      obtain ⟨f, s, e1, hr⟩ := this
      rw [e1]
      cases f <;> cases g <;> first | exact hr.elim | skip
      · exact e
      · cases hr; exact e
end
end Sw
namespace Sw
open PySem PySem.Spec PyProof.Rows L2
open Classical
section
variable {α β γ δ ε : Type}
/-! ### equations -/
theorem qB_P {a : α} {f : α → Q β} : qB (qP a) f = f a := Eq.trans rfl rfl
theorem qB_Z {f : α → Q β} : qB qZ f = qZ := Eq.trans rfl rfl
theorem qB_B {m : Q α} {f : α → Q β} {g : β → Q γ} : qB (qB m f) g = qB m fun a => qB (f a) g := by
  funext S
  unfold qB
  cases m S with
  | none => rfl
  | some p =>
    obtain ⟨r, S1⟩ := p
    cases r <;> rfl
theorem qB_Pr {m : Q α} : (qB m fun a => qP a) = m := by
  funext S
  unfold qB
  cases m S with
  | none => rfl
  | some p =>
    obtain ⟨r, S1⟩ := p
    cases r <;> rfl
theorem qB_if {c : Prop} [Decidable c] {a b : Q α} {f : α → Q β} : qB (if c then a else b) f = if c then qB a f else qB b f := by split <;> rfl
theorem qSeq_if {c : Prop} [Decidable c] {a b : Q (F γ α)} {f : α → Q (F γ β)} : qSeq (if c then a else b) f = if c then qSeq a f else qSeq b f := by split <;> rfl
theorem qO_some {a : α} : qO (some a) = qP a := Eq.trans rfl rfl
theorem qO_none : qO (none : Option α) = qZ := Eq.trans rfl rfl
theorem qO_ite {c : Prop} [Decidable c] {a b : Option α} : qO (if c then a else b) = if c then qO a else qO b := by split <;> rfl
theorem qSeq_B {q : Q β} {f : β → Q (F γ α)} {k : α → Q (F γ δ)} : qSeq (qB q f) k = qB q fun x => qSeq (f x) k := qB_B
theorem qSeq_nxt {a : α} {k : α → Q (F γ δ)} : qSeq (qP (.nxt a)) k = k a := Eq.trans rfl rfl
theorem qSeq_ret {t : T} {k : α → Q (F γ δ)} : qSeq (qP (.ret t)) k = qP (.ret t) := Eq.trans rfl rfl
theorem qSeq_brk {c : γ} {k : α → Q (F γ δ)} : qSeq (qP (.brk c)) k = qP (.brk c) := Eq.trans rfl rfl
theorem qSeq_cnt {c : γ} {k : α → Q (F γ δ)} : qSeq (qP (.cnt c)) k = qP (.cnt c) := Eq.trans rfl rfl
theorem qSeq_nx {q : Q α} {k : α → Q (F γ δ)} : qSeq (qB q fun a => qP (.nxt a)) k = qB q k := by rw [qSeq_B]; rfl
theorem qTr_b {b : Bool} : qTr (.bl b) = qP b := Eq.trans rfl rfl
theorem qI_i {i : Int} : qI (.int i) = qP i := Eq.trans rfl rfl
/-- what is no boxed thing -/
def nr : T → Bool
  | .ref _ => false
  | _ => true
theorem qK_n {t : T} (h : nr t = true) : qK t = qP t := by
  cases t <;> first | rfl | cases h
theorem nr_fz {l : List T} : nr (.fz l) = true := by simp only [nr]
theorem nr_tup {l : List T} : nr (.tup l) = true := by simp only [nr]
theorem nr_str {l : List Nat} : nr (.str l) = true := by simp only [nr]
theorem nr_int {i : Int} : nr (.int i) = true := by simp only [nr]
theorem nr_bl {i : Bool} : nr (.bl i) = true := by simp only [nr]
theorem nr_non : nr .non = true := by simp only [nr]
theorem nr_ty {i : String} : nr (.ty i) = true := by simp only [nr]
theorem nr_dic {i j : List T} : nr (.dic i j) = true := by simp only [nr]
theorem nr_scr {i : List Int} : nr (.scr i) = true := by simp only [nr]
theorem qOp2_n {f : T → T → Option T} {x y : T} (hx : nr x = true) (hy : nr y = true) : qOp2 f x y = qO (f x y) := by
  unfold qOp2
  rw [qK_n hx, qK_n hy]
  rfl
theorem qKs_nil : qKs [] = qP [] := Eq.trans rfl rfl
theorem qKs_n {x : T} {xs : List T} (h : nr x = true) : qKs (x :: xs) = qB (qKs xs) fun us => qP (x :: us) := by
  show qB (qK x) _ = _
  rw [qK_n h]
  rfl
theorem qCall_1 {f : List T → Option β} {x : T} (h : nr x = true) : qCall f [x] = qO (f [x]) := by
  unfold qCall
  rw [qKs_n h, qKs_nil]
  rfl
theorem qCall_2 {f : List T → Option β} {x y : T} (h : nr x = true) (h2 : nr y = true) : qCall f [x, y] = qO (f [x, y]) := by
  unfold qCall
  rw [qKs_n h, qKs_n h2, qKs_nil]
  rfl
theorem qSl_n {f : T → Option Int → Option Int → Option β} {x : T} {lo hi : Option Int} (h : nr x = true) : qSl f x lo hi = qO (f x lo hi) := by
  unfold qSl
  rw [qK_n h]
  rfl
theorem qTy_n {n : String} {x : T} (h : nr x = true) : qTy n x = if tyOk n x then qP () else qZ := by
  unfold qTy
  rw [qK_n h]
  rfl
theorem qMeth_n {f : T → List T → Option T} {x : T} {as : List T} (h : nr x = true) : qMeth f x as = qO (f x as) := by
  unfold qMeth
  rw [qK_n h]
  rfl
theorem tyOk_f {l : List T} : tyOk "list" (.fz l) = true := by first | rfl | decide +kernel | simp [tyOk]
theorem tyOk_s {l : List Nat} : tyOk "str" (.str l) = true := by first | rfl | decide +kernel | simp [tyOk]
theorem qIt_f {l : List T} : qIt (.fz l) = qP l := Eq.trans rfl rfl
theorem qIt_t {l : List T} : qIt (.tup l) = qP l := Eq.trans rfl rfl
theorem qIt_s {l : List Nat} : qIt (.str l) = qP (l.map fun c => .str [c]) := Eq.trans rfl rfl
theorem qEnum_f {l : List T} : qEnum (.fz l) = qP (enumT l) := Eq.trans rfl rfl
theorem qZip_t {l m : List T} : qZip (.tup l) (.tup m) = qP (zipT l m) := Eq.trans rfl rfl
theorem qZip_f {l m : List T} : qZip (.fz l) (.fz m) = qP (zipT l m) := Eq.trans rfl rfl
theorem qRange_n {n : Nat} (h : n ≤ 1000000) : qRange (.int n) = qP ((List.range n).map fun k => .int (k : Nat)) := by
  unfold qRange
  simp only
  rw [if_pos (by omega)]
  simp
theorem qRange_i {n : Int} (h : n ≤ 1000000) (h2 : -1000000 ≤ n) : qRange (.int n) = qP ((List.range n.toNat).map fun k => .int (k : Nat)) := by
  unfold qRange
  simp only
  rw [if_pos ⟨h, h2⟩]
theorem un2_t {x y : T} {k : T → T → Q α} : un2 (.tup [x, y]) k = k x y := Eq.trans rfl rfl
theorem un3_t {x y z : T} {k : T → T → T → Q α} : un3 (.tup [x, y, z]) k = k x y z := Eq.trans rfl rfl
theorem un4_t {x y z u : T} {k : T → T → T → T → Q α} : un4 (.tup [x, y, z, u]) k = k x y z u := Eq.trans rfl rfl
theorem slU_f {l : List T} {a b : Option Int} : slU (.fz l) a b = some (.fz (cutL l a b)) := Eq.trans rfl rfl
theorem slU_t {l : List T} {a b : Option Int} : slU (.tup l) a b = some (.tup (cutL l a b)) := Eq.trans rfl rfl
theorem slL_f {l : List T} {a b : Option Int} : slL (.fz l) a b = some (cutL l a b) := Eq.trans rfl rfl
theorem revL_f {l : List T} : revL (.fz l) = some l.reverse := Eq.trans rfl rfl
theorem qFor_nil {body : T → γ → Q (F γ γ)} {a : γ} : qFor (δ := δ) body [] a = qP (.nxt a) := Eq.trans rfl rfl
theorem qFor_cons {body : T → γ → Q (F γ γ)} {a : γ} {t : T} {ts : List T} : qFor (δ := δ) body (t :: ts) a = qB (body t a) fun f => match f with
    | .nxt a' => qFor body ts a'
    | .cnt a' => qFor body ts a'
    | .brk a' => qP (.nxt a')
    | .ret t => qP (.ret t) := rfl
theorem qFor_nx {body : T → γ → Q (F γ γ)} {f : T → γ → γ} : ∀ {l : List T} {a : γ}, (∀ t ∈ l, ∀ a, body t a = qP (.nxt (f t a))) → qFor (δ := δ) body l a = qP (.nxt (l.foldl (fun a t => f t a) a))
  | [], _, _ => rfl
  | t :: ts, a, h => by
    rw [qFor_cons, h t List.mem_cons_self, qB_P]
    simp only
    rw [qFor_nx fun u hu => h u (List.mem_cons_of_mem _ hu)]
    rfl
/-- a loop that goes on, by what holds all along; what is carried as told -/
theorem qFor_fold {ζ : Type} {body : T → γ → Q (F γ γ)} {en : ε → T} {ea : ζ → γ} {f : ε → ζ → ζ} (P : Nat → ζ → Prop) : ∀ {l : List ε} {k : Nat} {a : ζ}, P k a → (∀ i t a, l[i]? = some t → P (k + i) a → body (en t) (ea a) = qP (.nxt (ea (f t a))) ∧ P (k + i + 1) (f t a)) →
    qFor (δ := δ) body (l.map en) (ea a) = qP (.nxt (ea (l.foldl (fun a t => f t a) a))) ∧ P (k + l.length) (l.foldl (fun a t => f t a) a)
  | [], k, a, h0, _ => ⟨rfl, h0⟩
  | t :: ts, k, a, h0, h => by
    obtain ⟨e, h1⟩ := h 0 t a rfl h0
    have ih := qFor_fold (body := body) (en := en) (ea := ea) (f := f) P (l := ts) (k := k + 1) h1 fun i u b hu hb => by
      have := h (i + 1) u b (by rw [List.getElem?_cons_succ]; exact hu) (by rw [show k + (i + 1) = k + 1 + i by omega]; exact hb)
      rw [show k + (i + 1) = k + 1 + i by omega] at this
      exact this
    rw [List.map_cons, qFor_cons, e, qB_P, List.length_cons, show k + (ts.length + 1) = k + 1 + ts.length by omega]
    exact ih
theorem enumT_map {en : ε → T} {l : List ε} : enumT (l.map en) = (l.mapIdx fun i x => (i, x)).map fun p => .tup [.int (p.1 : Nat), en p.2] := by
  unfold enumT
  refine List.ext_getElem? fun i => ?_
  rw [List.getElem?_mapIdx, List.getElem?_map, List.getElem?_map, List.getElem?_mapIdx]
  cases l[i]? <;> rfl
theorem foldl_app {ζ : Type} {f : ε → List ζ} : ∀ {l : List ε} {a : List ζ}, l.foldl (fun a t => a ++ f t) a = a ++ l.flatMap f
  | [], a => by simp
  | t :: ts, a => by
    rw [List.foldl_cons, foldl_app, List.flatMap_cons, List.append_assoc]
theorem qFor_findM {body : T → Unit → Q (F Unit Unit)} {en : ε → T} {p : ε → Bool} {r : ε → T} : ∀ {l : List ε}, (∀ t ∈ l, body (en t) () = if p t then qP (.ret (r t)) else qP (.nxt ())) → qFor (δ := δ) body (l.map en) () = qP (match l.find? p with | some t => .ret (r t) | none => .nxt ())
  | [], _ => rfl
  | t :: ts, h => by
    rw [List.map_cons, qFor_cons, h t List.mem_cons_self]
    cases e : p t with
    | true => rw [if_pos rfl, List.find?_cons_of_pos (by rw [e]), qB_P]
    | false =>
      rw [if_neg (by simp), List.find?_cons_of_neg (by rw [e]; simp), qB_P]
      exact qFor_findM fun u hu => h u (List.mem_cons_of_mem _ hu)
/-- .. and never stops -/
theorem qFor_skip {body : T → Unit → Q (F Unit Unit)} : ∀ {l : List T}, (∀ t ∈ l, body t () = qP (.nxt ())) → qFor (δ := δ) body l () = qP (.nxt ())
  | [], _ => rfl
  | t :: ts, h => by
    rw [qFor_cons, h t List.mem_cons_self, qB_P]
    exact qFor_skip fun u hu => h u (List.mem_cons_of_mem _ hu)
/-- a loop that goes on while p fails, and gives r where it holds -/
theorem qFor_find {body : T → Unit → Q (F Unit Unit)} {p : T → Bool} {r : T → T} : ∀ {l : List T}, (∀ t ∈ l, body t () = if p t then qP (.ret (r t)) else qP (.nxt ())) → qFor (δ := δ) body l () = qP (match l.find? p with | some t => .ret (r t) | none => .nxt ())
  | [], _ => rfl
  | t :: ts, h => by
    rw [qFor_cons, h t List.mem_cons_self]
    cases e : p t with
    | true => rw [if_pos rfl, List.find?_cons_of_pos (by rw [e]), qB_P]
    | false =>
      rw [if_neg (by simp), List.find?_cons_of_neg (by rw [e]; simp), qB_P]
      exact qFor_find fun u hu => h u (List.mem_cons_of_mem _ hu)
theorem qCompL_pure {g : T → Q (Option T)} {f : T → Option T} : ∀ {l : List T}, (∀ t ∈ l, g t = qP (f t)) → qCompL g l = qP (l.filterMap f)
  | [], _ => rfl
  | t :: ts, h => by
    funext S
    unfold qCompL
    rw [h t List.mem_cons_self, qCompL_pure fun u hu => h u (List.mem_cons_of_mem _ hu)]
    unfold qP
    simp only
    rw [List.filterMap_cons]
    cases f t <;> rfl
theorem qComp_p {g : T → Q (Option T)} {f : T → Option T} {l : List T} (hl : l.length ≤ 1000000) (h : ∀ t ∈ l, g t = qP (f t)) : qComp g l = qP (l.filterMap f) := by
  unfold qComp
  rw [if_pos hl, qCompL_pure h]
/-- .. over told things -/
theorem qComp_m {g : T → Q (Option T)} {en : ε → T} {f : ε → Option T} {l : List ε} (hl : l.length ≤ 1000000) (h : ∀ t ∈ l, g (en t) = qP (f t)) : qComp g (l.map en) = qP (l.filterMap f) := by
  unfold qComp
  rw [if_pos (by simpa using hl)]
  have : ∀ {l : List ε}, (∀ t ∈ l, g (en t) = qP (f t)) → qCompL g (l.map en) = qP (l.filterMap f) := by
    intro l
    induction l with
    | nil => intro _; rfl
    | cons t ts ih =>
      intro h
      funext S
      rw [List.map_cons]
      unfold qCompL
      rw [h t List.mem_cons_self, ih fun u hu => h u (List.mem_cons_of_mem _ hu)]
      unfold qP
      simp only
      rw [List.filterMap_cons]
      cases f t <;> rfl
  exact this h
/-- each one's own -/
theorem qComp_a {g : T → Q (Option T)} {en : ε → T} {f : ε → T} {l : List ε} (hl : l.length ≤ 1000000) (h : ∀ t ∈ l, g (en t) = qP (some (f t))) : qComp g (l.map en) = qP (l.map f) := by
  rw [qComp_m (f := fun t => some (f t)) hl h]
  congr 1
  induction l with
  | nil => rfl
  | cons t ts ih => rw [List.filterMap_cons_some (by rfl), ih (by simp at hl; omega) fun u hu => h u (List.mem_cons_of_mem _ hu)]; rfl
/-- some of them -/
theorem qComp_f {g : T → Q (Option T)} {en f : ε → T} {p : ε → Bool} {l : List ε} (hl : l.length ≤ 1000000) (h : ∀ t ∈ l, g (en t) = qP (if p t then some (f t) else none)) : qComp g (l.map en) = qP ((l.filter p).map f) := by
  rw [qComp_m (f := fun t => if p t then some (f t) else none) hl h]
  congr 1
  clear h hl
  induction l with
  | nil => rfl
  | cons t ts ih =>
    cases e : p t with
    | true => rw [List.filterMap_cons_some (by rw [e]; rfl), List.filter_cons_of_pos e, ih]; rfl
    | false => rw [List.filterMap_cons_none (by rw [e]; rfl), List.filter_cons_of_neg (by rw [e]; simp), ih]
theorem qIf_P {c : Bool} {a b : α} : (if c = true then qP a else qP b) = qP (if c then a else b) := by cases c <;> rfl
theorem qFn_ret {t : T} : qFn (qP (.ret t)) = qP t := Eq.trans rfl rfl
theorem qFn_nxt {t : Unit} : qFn (qP (.nxt t)) = qP .non := Eq.trans rfl rfl
theorem qFn_B {q : Q α} {f : α → Q (F Unit Unit)} : qFn (qB q f) = qB q fun x => qFn (f x) := qB_B
theorem qFn_if {c : Prop} [Decidable c] {a b : Q (F Unit Unit)} : qFn (if c then a else b) = if c then qFn a else qFn b := by split <;> rfl
/-- a def that changes nothing -/
theorem fn_pure {m : FnM} {ts : List T} {q : Q T} {v : T} (hs : ∀ {S S' : List Ob} {r : R T}, q S = some (r, S') → m ts S = some (r, S')) (h : q = qP v) : m ts = qP v := by
  funext S
  exact hs (by rw [h]; rfl)
theorem fw_pure {m : FnM} {ts : List T} {v : T} (h : ∀ S, Fw m ts S fun t S' => t = v ∧ S' = S) : m ts = qP v := by
  funext S
  obtain ⟨t, S', e, rfl, rfl⟩ := (h S).ex
  exact e
/-! ### what one comes to -/
@[irreducible] def Qw (q : Q α) (S : List Ob) (Φ : α → List Ob → Prop) : Prop := match q S with
  | some (.ok a, S') => Φ a S'
  | _ => False
section
variable {S : List Ob}
theorem Qw.ex {q : Q α} {Φ : α → List Ob → Prop} (h : Qw q S Φ) : ∃ t S', q S = some (.ok t, S') ∧ Φ t S' := by
  unfold Qw at h
  cases e : q S with
  | none => rw [e] at h; exact h.elim
  | some p =>
    obtain ⟨r, S'⟩ := p
    rw [e] at h
    cases r with
    | ok t => exact ⟨t, S', rfl, h⟩
    | exc x => exact h.elim
theorem Qw.of {q : Q α} {Φ : α → List Ob → Prop} {t : α} {S' : List Ob} (e : q S = some (.ok t, S')) (h : Φ t S') : Qw q S Φ := by
  unfold Qw
  rw [e]
  exact h
theorem Qw.mono {q : Q α} {Φ Ψ : α → List Ob → Prop} (h : Qw q S Φ) (k : ∀ t S', Φ t S' → Ψ t S') : Qw q S Ψ := by
  obtain ⟨t, S', e, q⟩ := h.ex
  exact .of e (k t S' q)
theorem Qw_P {a : α} {Φ : α → List Ob → Prop} : Qw (qP a) S Φ = Φ a S := by unfold Qw qP; rfl
theorem Qw_Z {Φ : α → List Ob → Prop} : Qw qZ S Φ = False := by unfold Qw qZ; rfl
theorem Qw_B {m : Q α} {f : α → Q β} {Φ : β → List Ob → Prop} : Qw (qB m f) S Φ = Qw m S fun a S1 => Qw (f a) S1 Φ := by
  unfold Qw qB
  cases m S with
  | none => rfl
  | some p =>
    obtain ⟨r, S1⟩ := p
    cases r <;> rfl
theorem Qw_O {o : Option α} {Φ : α → List Ob → Prop} : Qw (qO o) S Φ = Op o fun a => Φ a S := by
  cases o with
  | none => exact Qw_Z
  | some a => exact Qw_P
theorem Qw_if {c : Prop} [Decidable c] {a b : Q α} {Φ : α → List Ob → Prop} : Qw (if c then a else b) S Φ = if c then Qw a S Φ else Qw b S Φ := by split <;> rfl
theorem Qw_fn {m : FnM} {ts : List T} {Φ : T → List Ob → Prop} : Qw (m ts) S Φ = Fw m ts S Φ := by
  unfold Qw Fw
  cases m ts S with
  | none => rfl
  | some p =>
    obtain ⟨r, S1⟩ := p
    cases r <;> rfl
theorem Qw_seq {q : Q (F γ α)} {k : α → Q (F γ β)} {Φ : F γ β → List Ob → Prop} : Qw (qSeq q k) S Φ = Qw q S fun f S1 => match f with
    | .nxt a => Qw (k a) S1 Φ
    | .brk c => Φ (.brk c) S1
    | .cnt c => Φ (.cnt c) S1
    | .ret t => Φ (.ret t) S1 := by
  unfold qSeq
  rw [Qw_B]
  congr 1
  funext f S1
  cases f <;> first | rfl | exact Qw_P
theorem Qw_qFn {q : Q (F Unit Unit)} {Φ : T → List Ob → Prop} : Qw (qFn q) S Φ = Qw q S fun f S1 => match f with
    | .nxt _ => Φ .non S1
    | .ret t => Φ t S1
    | _ => False := by
  unfold qFn
  rw [Qw_B]
  congr 1
  funext f S1
  cases f <;> first | exact Qw_P | exact Qw_Z
theorem Qw_seqE {q : Q (F γ α)} {k : α → Q (F γ β)} {a : α} {Φ : F γ β → List Ob → Prop} (h : q = qP (.nxt a)) (h2 : Qw (k a) S Φ) : Qw (qSeq q k) S Φ := by
  rw [h]
  exact h2
theorem Qw_BE {q : Q α} {f : α → Q β} {a : α} {Φ : β → List Ob → Prop} (h : q = qP a) (h2 : Qw (f a) S Φ) : Qw (qB q f) S Φ := by
  rw [h]
  exact h2
theorem fw_of {m : FnM} {ts : List T} {q : Q T} {Φ : T → List Ob → Prop} (hs : ∀ {S S' : List Ob} {r : R T}, q S = some (r, S') → m ts S = some (r, S')) (h : Qw q S Φ) : Fw m ts S Φ := by
  obtain ⟨t, S', e, q⟩ := h.ex
  exact .of (hs e) q
/-- a loop by an invariant -/
theorem Qw_for {body : T → γ → Q (F γ γ)} {Φ : F δ γ → List Ob → Prop} (I : Nat → γ → List Ob → Prop) : ∀ (l : List T) (k : Nat) (a : γ) (S : List Ob), I k a S →
    (∀ i t a S, l[i]? = some t → I (k + i) a S → Qw (body t a) S fun f S1 => match f with
      | .nxt a' => I (k + i + 1) a' S1
      | .cnt a' => I (k + i + 1) a' S1
      | .brk a' => Φ (.nxt a') S1
      | .ret t => Φ (.ret t) S1) → (∀ a S, I (k + l.length) a S → Φ (.nxt a) S) → Qw (qFor body l a) S Φ
  | [], k, a, S, h0, _, he => by rw [qFor_nil, Qw_P]; exact he a S h0
  | t :: ts, k, a, S, h0, hs, he => by
    rw [qFor_cons, Qw_B]
    refine (hs 0 t a S rfl h0).mono fun f S1 q => ?_
    have rest : ∀ a1, I (k + 0 + 1) a1 S1 → Qw (qFor body ts a1) S1 Φ := fun a1 h =>
      Qw_for I ts (k + 1) a1 S1 h (fun i u b S e hi => by
        have := hs (i + 1) u b S (by rw [List.getElem?_cons_succ]; exact e) (by rw [show k + (i + 1) = k + 1 + i by omega]; exact hi)
        rw [show k + (i + 1) = k + 1 + i by omega] at this
        exact this) (fun b S hi => he b S (by rw [List.length_cons, show k + (ts.length + 1) = k + 1 + ts.length by omega]; exact hi))
    cases f with
    | nxt a1 => exact rest a1 q
    | cnt a1 => exact rest a1 q
    | brk a1 => show Qw (qP _) S1 Φ; rw [Qw_P]; exact q
    | ret u => show Qw (qP _) S1 Φ; rw [Qw_P]; exact q
/-- .. whose turns are no matter of their number -/
theorem Qw_forI {body : T → γ → Q (F γ γ)} {Φ : F δ γ → List Ob → Prop} (I : γ → List Ob → Prop) {l : List T} {a : γ} {S : List Ob} (h0 : I a S)
    (hs : ∀ t a S, t ∈ l → I a S → Qw (body t a) S fun f S1 => match f with
      | .nxt a' => I a' S1
      | .cnt a' => I a' S1
      | .brk a' => Φ (.nxt a') S1
      | .ret t => Φ (.ret t) S1) (he : ∀ a S, I a S → Φ (.nxt a) S) : Qw (qFor body l a) S Φ :=
  Qw_for (fun _ => I) l 0 a S h0 (fun i t a S e hi => hs t a S (List.mem_of_getElem? e) hi) fun a S h => he a S h
theorem Qw_while {test : γ → Q Bool} {body : γ → Q (F γ γ)} {Φ : F δ γ → List Ob → Prop} (I : Nat → γ → List Ob → Prop) (hs : ∀ n a S, I n a S → Qw (test a) S fun b S1 => if b = true then Qw (body a) S1 (fun f S2 => match f with
      | .nxt a' => ∃ m, m < n ∧ I m a' S2
      | .cnt a' => ∃ m, m < n ∧ I m a' S2
      | .brk a' => Φ (.nxt a') S2
      | .ret t => Φ (.ret t) S2) else Φ (.nxt a) S1) : ∀ (fuel n : Nat) (a : γ) (S : List Ob), n < fuel → I n a S → Qw (qWhile test body fuel a) S Φ
  | 0, n, a, S, h, _ => absurd h (Nat.not_lt_zero _)
  | fuel + 1, n, a, S, h, hi => by
    unfold qWhile
    rw [Qw_B]
    refine (hs n a S hi).mono fun c S1 q => ?_
    cases c with
    | false =>
      rw [if_neg (by simp)] at q ⊢
      rw [Qw_P]
      exact q
    | true =>
      rw [if_pos rfl] at q ⊢
      rw [Qw_B]
      refine q.mono fun f S2 q => ?_
      cases f with
      | nxt a1 =>
        obtain ⟨m, hm, hi2⟩ := q
        exact Qw_while I hs fuel m a1 S2 (by omega) hi2
      | cnt a1 =>
        obtain ⟨m, hm, hi2⟩ := q
        exact Qw_while I hs fuel m a1 S2 (by omega) hi2
      | brk a1 => show Qw (qP _) S2 Φ; rw [Qw_P]; exact q
      | ret u => show Qw (qP _) S2 Φ; rw [Qw_P]; exact q
/-- a comprehension by an invariant -/
theorem Qw_compL {g : T → Q (Option T)} {Φ : List T → List Ob → Prop} (I : Nat → List T → List Ob → Prop) : ∀ (l : List T) (k : Nat) (done : List T) (S : List Ob), I k done S →
    (∀ i t done S, l[i]? = some t → I (k + i) done S → Qw (g t) S fun o S1 => I (k + i + 1) (match o with | some y => done ++ [y] | none => done) S1) → (∀ ys S, I (k + l.length) (done ++ ys) S → Φ ys S) → Qw (qCompL g l) S Φ
  | [], k, done, S, h0, _, he => by
    show Qw (qP []) S Φ
    rw [Qw_P]
    exact he [] S (by rw [List.append_nil]; exact h0)
  | t :: ts, k, done, S, h0, hs, he => by
    obtain ⟨o, S1, e1, h1⟩ := (hs 0 t done S rfl h0).ex
    cases o with
    | none =>
      have ih := Qw_compL (g := g) (Φ := Φ) I ts (k + 1) done S1 h1 (fun i u dn S e hi => by
        have := hs (i + 1) u dn S (by rw [List.getElem?_cons_succ]; exact e) (by rw [show k + (i + 1) = k + 1 + i by omega]; exact hi)
        rw [show k + (i + 1) = k + 1 + i by omega] at this
        exact this) (fun ys S2 hi => he _ S2 (by
          rw [List.length_cons, show k + (ts.length + 1) = k + 1 + ts.length by omega]
          exact hi))
      obtain ⟨ys, S2, e2, h2⟩ := ih.ex
      refine .of (t := ys) (S' := S2) ?_ h2
      unfold qCompL
      rw [e1]
      simp only
      rw [e2]
    | some y =>
      have ih := Qw_compL (g := g) (Φ := fun ys S2 => Φ (y :: ys) S2) I ts (k + 1) (done ++ [y]) S1 h1 (fun i u dn S e hi => by
        have := hs (i + 1) u dn S (by rw [List.getElem?_cons_succ]; exact e) (by rw [show k + (i + 1) = k + 1 + i by omega]; exact hi)
        rw [show k + (i + 1) = k + 1 + i by omega] at this
        exact this) (fun ys S2 hi => he _ S2 (by
          rw [List.length_cons, show k + (ts.length + 1) = k + 1 + ts.length by omega]
          rw [List.append_assoc] at hi
          exact hi))
      obtain ⟨ys, S2, e2, h2⟩ := ih.ex
      refine .of (t := y :: ys) (S' := S2) ?_ h2
      unfold qCompL
      rw [e1]
      simp only
      rw [e2]
theorem Qw_comp {g : T → Q (Option T)} {Φ : List T → List Ob → Prop} (I : Nat → List T → List Ob → Prop) {l : List T} {S : List Ob} (hl : l.length ≤ 1000000) (h0 : I 0 [] S)
    (hs : ∀ i t done S, l[i]? = some t → I i done S → Qw (g t) S fun o S1 => I (i + 1) (match o with | some y => done ++ [y] | none => done) S1) (he : ∀ ys S, I l.length ys S → Φ ys S) : Qw (qComp g l) S Φ := by
  unfold qComp
  rw [if_pos hl]
  exact Qw_compL I l 0 [] S h0 (fun i t done S e h => by rw [Nat.zero_add] at h ⊢; exact hs i t done S e h) fun ys S h => he ys S (by rw [Nat.zero_add, List.nil_append] at h; exact h)
end
end
end Sw
namespace Sw
open PySem PySem.Spec PyProof.Rows L2
open Classical
section
variable {α β γ δ ε : Type} {X : List Sl → Prop} {σ σ1 σ2 σ3 : List Sl}
/-! ### isinstance with two types -/
def isTO (cs : List String) (t : T) : Option T := (t.tyOf.bind fun n => kitsB n cs).map .bl
def qIsT (cs : List String) (x : T) : Q T := qB (qK x) fun t => qO (isTO cs t)
theorem sIsT {cs : List String} {m : M Rdr} {q : Q β} {R : T → β → List Sl → Prop} (k : Sim X (m >>= fun r => (fun st => match r st with
    | some t => (match t.tyOf with
      | some n => (match kitsB n cs with
        | some b => some (.ok (.bl b), st)
        | none => none)
      | none => none)
    | none => none : M T)) σ q R) : Sim X (eIsT cs m) σ q R := k
theorem isTEnd {cs : List String} {r : Rdr} {x : T} (h : Rd r x σ) : SE X (fun st => match r st with
    | some t => (match t.tyOf with
      | some n => (match kitsB n cs with
        | some b => some (.ok (.bl b), st)
        | none => none)
      | none => none)
    | none => none : M T) σ (qIsT cs x) σ := ⟨fun S => by
  unfold qIsT qB qK
  rw [h S]
  cases peekT S x with
  | none => trivial
  | some t =>
    simp only
    unfold isTO
    cases e : t.tyOf with
    | none => trivial
    | some n =>
      simp only [Option.bind_some]
      cases e2 : kitsB n cs with
      | none => trivial
      | some b => exact ⟨_, _, rfl, rfl, rfl⟩⟩
/-! ### d.get -/
theorem sKGet {kvs : List (List Nat × T)} {mk md : M T} {q1 q2 : Q T} (h1 : SE X mk σ q1 σ1) (h2 : SE X md σ1 q2 σ2) : SE X (eKGet kvs mk md) σ (qB q1 fun k => qB q2 fun d => qO (tabO kvs k d)) σ2 :=
  bE h1 fun k => bE h2 fun d => ⟨fun S => by
    cases tabO kvs k d with
    | none => trivial
    | some t => exact ⟨t, σ2, rfl, rfl, rfl⟩⟩
def qIsD (x : T) : Q Unit := qB (qK x) fun t => match t with
  | .dic _ _ => qP ()
  | _ => qZ
theorem sDGet {m : M Rdr} {mk md : M T} {q : Q β} {R : T → β → List Sl → Prop} (k : Sim X (m >>= fun r => isDc r >>= fun _ => mk >>= fun k => md >>= fun d => (fun st => match r st with
    | some t => ofO (getO t k d) st
    | none => none : M T)) σ q R) : Sim X (eDGet m mk md) σ q R := k
theorem dgEnd {r : Rdr} {x : T} {mk md : M T} {q1 q2 : Q T} (h : Rd r x σ) (h1 : SE X mk σ q1 σ) (h2 : SE X md σ q2 σ) : SE X (isDc r >>= fun _ => mk >>= fun k => md >>= fun d => (fun st => match r st with
    | some t => ofO (getO t k d) st
    | none => none : M T)) σ (qB (qIsD x) fun _ => qB q1 fun k => qB q2 fun d => qB (qK x) fun t => qO (getO t k d)) σ := by
  refine Sim.bnd (R := fun _ _ σ' => σ' = σ) ⟨fun S => ?_⟩ fun _ _ σ' e => ?_
  · unfold qIsD isDc qB qK
    rw [h S]
    cases peekT S x with
    | none => trivial
    | some t => cases t <;> first | trivial | exact ⟨_, _, rfl, rfl⟩
  · subst e
    refine bE h1 fun k => bE h2 fun d => ⟨fun S => ?_⟩
    unfold qB qK
    rw [h S]
    cases peekT S x with
    | none => trivial
    | some t =>
      simp only
      cases getO t k d with
      | none => trivial
      | some t => exact ⟨t, σ', rfl, rfl, rfl⟩
/-! ### a dict display -/
abbrev SA (X : List Sl → Prop) (m : M (List T)) (σ : List Sl) (q : Q (List T)) (σ1 : List Sl) : Prop := Sim X m σ q (fun a b σ' => a = b ∧ σ' = σ1)
theorem dN : SA X aNil σ (qP []) σ := Sim.pur ⟨rfl, rfl⟩
theorem dC {mk mv : M T} {m : M (List T)} {q1 q2 : Q T} {q3 : Q (List T)} (h1 : SE X mk σ q1 σ1) (h2 : SE X mv σ1 q2 σ2) (h3 : SA X m σ2 q3 σ3) : SA X (dCons mk mv m) σ (qB q1 fun k => qB q2 fun v => qB q3 fun ts => qP (k :: v :: ts)) σ3 :=
  bE h1 fun k => bE h2 fun v => Sim.bnd h3 fun _ _ _ ⟨e1, e2⟩ => by
    rw [e1, e2]
    exact Sim.pur ⟨rfl, rfl⟩
def dctP : List T → List T × List T → Option (List T × List T)
  | [], d => some d
  | k :: v :: r, d => if isKey k then dctP r (putP d k v) else none
  | [_], _ => none
theorem dctOf_P : ∀ (n : Nat) (ts : List T) (d : List T × List T), ts.length = n → dctOf ts d.1 d.2 = (dctP ts d).map fun d => .dct d.1 d.2 := by
  intro n
  induction n using Nat.strongRecOn with
  | ind n ih =>
    intro ts d hn
    match ts with
    | [] => rfl
    | [_] => rfl
    | k :: v :: r =>
      unfold dctOf dctP
      split
      · rw [putD_P]
        exact ih r.length (by simp at hn; omega) r _ rfl
      · rfl
def qDisp (ts : List T) : Q (List T × List T) := if ts.length ≤ 30 then qO (dctP ts ([], [])) else qZ
theorem c_ownDp {i : Nat} {m : M (List T)} {r : Cmd} {q : Q (List T)} {q2 : List T × List T → Q (F γ α)} {A : α → List Sl → Prop} {C : γ → List Sl → Prop} (h : SA X m σ q σ1) (k : ∀ d : List T × List T, SC X r (σ1.set i (.own (.dct d.1 d.2))) (q2 d) A C) :
    SC X (cSeq (cOwn i (fDisp m)) r) σ (qB q fun ts => qB (qDisp ts) q2) A C := by
  refine Sim.cg (m2 := m >>= fun ts => (fun st => if ts.length ≤ 30 then (match dctOf ts [] [] with
      | some ob => r { st with σ := st.σ.set i (.own ob) }
      | none => none) else none : Cmd)) (Sim.bnd h fun ts b σ' ⟨e1, e2⟩ => ?_) fun S => ?_
  · subst e1
    subst e2
    refine ⟨fun S => ?_⟩
    have e : dctOf ts [] [] = (dctP ts ([], [])).map fun d => .dct d.1 d.2 := dctOf_P _ ts ([], []) rfl
    unfold qDisp
    by_cases hz : ts.length ≤ 30
    · simp only [if_pos hz]
      rw [e]
      cases dctP ts ([], []) with
      | none => trivial
      | some d => exact (k d).run S
    · simp only [if_neg hz]
      trivial
  · rw [own_b]
    unfold fDisp
    simp only [bind_def]
    cases m ⟨σ, S⟩ with
    | none => rfl
    | some p =>
      obtain ⟨rr, st⟩ := p
      cases rr with
      | exc x => rfl
      | ok ts =>
        simp only
        by_cases hz : ts.length ≤ 30
        · simp only [if_pos hz]
          cases dctOf ts [] [] <;> rfl
        · simp only [if_neg hz]
/-! ### star targets -/
def unS (t : T) (k : T → List T → Q α) : Q α := match consT t with
  | some (x, xs) => k x xs
  | none => qZ
theorem c_starO {i j : Nat} {m : M T} {r : Cmd} {q : Q T} {q2 : T → List T → Q (F γ α)} {A : α → List Sl → Prop} {C : γ → List Sl → Prop} (h : SE X m σ q σ1) (k : ∀ x xs, SC X r ((σ1.set i (.val x)).set j (.own (.lst xs))) (q2 x xs) A C) :
    SC X (cSeq (cStO i j m) r) σ (qB q fun t => unS t q2) A C := by
  refine Sim.cg (m2 := m >>= fun t => (fun st => match consT t with
    | some (x, xs) => r { st with σ := (st.σ.set i (.val x)).set j (.own (.lst xs)) }
    | none => none : Cmd)) (bE h fun t => ⟨fun S => ?_⟩) fun S => ?_
  · unfold unS
    cases consT t with
    | none => trivial
    | some p => exact (k p.1 p.2).run S
  · unfold cSeq cStO
    simp only [bind_def]
    cases m ⟨σ, S⟩ with
    | none => rfl
    | some p =>
      obtain ⟨rr, st⟩ := p
      cases rr with
      | exc x => rfl
      | ok t =>
        simp only
        cases consT t <;> rfl
theorem c_starF {i j : Nat} {m : M T} {r : Cmd} {q : Q T} {q2 : T → List T → Q (F γ α)} {A : α → List Sl → Prop} {C : γ → List Sl → Prop} (h : SE X m σ q σ1) (k : ∀ x xs, SC X r ((σ1.set i (.val x)).set j (.val (.fz xs))) (q2 x xs) A C) :
    SC X (cSeq (cStF i j m) r) σ (qB q fun t => unS t q2) A C := by
  refine Sim.cg (m2 := m >>= fun t => (fun st => match consT t with
    | some (x, xs) => r { st with σ := (st.σ.set i (.val x)).set j (.val (.fz xs)) }
    | none => none : Cmd)) (bE h fun t => ⟨fun S => ?_⟩) fun S => ?_
  · unfold unS
    cases consT t with
    | none => trivial
    | some p => exact (k p.1 p.2).run S
  · unfold cSeq cStF
    simp only [bind_def]
    cases m ⟨σ, S⟩ with
    | none => rfl
    | some p =>
      obtain ⟨rr, st⟩ := p
      cases rr with
      | exc x => rfl
      | ok t =>
        simp only
        cases consT t <;> rfl
/-! ### enumerate -/
def qEnumX (t : T) : Q (List T) := match t with
  | .fz ts => qP (enumT ts)
  | .tup ts => qP (enumT ts)
  | _ => qZ
theorem qEnumX_f {l : List T} : qEnumX (.fz l) = qP (enumT l) := Eq.trans rfl rfl
theorem qEnumX_t {l : List T} : qEnumX (.tup l) = qP (enumT l) := Eq.trans rfl rfl
theorem sEnumX {m : M (List T)} {q : Q β} {R : Itr → β → List Sl → Prop} (k : Sim X (m >>= fun ts => match ts with
    | [t] => (fun st => match t with
      | .tup ts => some (.ok ⟨enumT ts, fun _ => True⟩, st)
      | t => match lstAt st.S t with
        | some ts => some (.ok ⟨enumT ts, fun st' => lstAt st'.S t = some ts⟩, st)
        | none => none : M Itr)
    | _ => stuck) σ q R) : Sim X (iEnumX m) σ q R := k
theorem enEndX {t : T} : SI X (match [t] with
    | [t] => (fun st => match t with
      | .tup ts => some (.ok ⟨enumT ts, fun _ => True⟩, st)
      | t => match lstAt st.S t with
        | some ts => some (.ok ⟨enumT ts, fun st' => lstAt st'.S t = some ts⟩, st)
        | none => none : M Itr)
    | _ => stuck) σ (qEnumX t) σ yes := ⟨fun S => by
  unfold qEnumX
  cases t with
  | fz ts => exact ⟨_, _, rfl, rfl, rfl, fun _ _ _ => rfl⟩
  | tup ts => exact ⟨_, _, rfl, rfl, rfl, fun _ _ _ => trivial⟩
  | _ => trivial⟩
end
end Sw
namespace Sw
open PySem PySem.Spec PyProof.Rows L2
open Classical
section
variable {α β γ δ ε : Type} {X : List Sl → Prop} {σ σ1 σ2 σ3 : List Sl}
/-! ### two fors, without names -/
def qComp2L (g : T → Q (Option (List T))) : List T → Q (List T)
  | [] => qP []
  | t :: ts => fun S => match g t S with
    | some (.ok o, S1) => (match qComp2L g ts S1 with
      | some (.ok zs, S2) => some (.ok (match o with | some ys => ys ++ zs | none => zs), S2)
      | _ => none)
    | _ => none
def qComp2 (g : T → Q (Option (List T))) (l : List T) : Q (List T) := qB (qComp2L g l) fun ys => if ys.length ≤ 1000000 then qP ys else qZ
def qSort2 (g : T → Q (Option (List T))) (l : List T) : Q (List T) := qB (qComp2L g l) fun ys => if ys.all isI = true ∧ ys.length ≤ 63 then qP ((sortK (ys.map toI)).map .int) else qZ
def qIn (g : T → Q (Option T)) (l : List T) : Q (Option (List T)) := qB (qCompL g l) fun ys => qP (some ys)
noncomputable abbrev innerL (mi1 : M Itr) (vs1 : List Nat) (tg1 : Tg) (test1 : M Bool) (elt : M T) : M (Option (List T)) := mi1 >>= fun it1 => (fun st => match lcL it1.chk vs1 tg1 test1 elt it1.ts { st with σ := wipeS st.σ vs1 } with
  | some (ys, st3) => some (.ok (some ys), st3)
  | none => none)
noncomputable abbrev bodyL (test : M Bool) (mi1 : M Itr) (vs1 : List Nat) (tg1 : Tg) (test1 : M Bool) (elt : M T) : M (Option (List T)) := test >>= fun b => match b with
  | true => innerL mi1 vs1 tg1 test1 elt
  | false => pure none
abbrev wRL (own : List Nat) (σ : List Sl) : Option (List T) → Option (List T) → List Sl → Prop := fun a b s => a = b ∧ wipeS s own = σ
theorem g2_in {mi1 : M Itr} {vs1 own : List Nat} {tg1 : Tg} {test1 : M Bool} {elt : M T} {q : Q (List T)} {g : T → Q (Option T)} {K : List T → List Sl → Prop} (hi : SI X mi1 σ q σ1 K) (hK : ∀ l, K l (wipeS σ1 vs1))
    (hw : wipeS (wipeS σ1 vs1) own = σ2) (hb : ∀ t, SAs X [tg1] [t] (wipeS σ1 vs1) (bodyT test1 elt) (g t) (wR vs1 (wipeS σ1 vs1))) : Sim X (innerL mi1 vs1 tg1 test1 elt) σ (qB q (qIn g)) (wRL own σ2) :=
  Sim.bnd hi fun it l s ⟨e1, e2, e3⟩ => by
    subst e2
    refine ⟨fun S => ?_⟩
    have := lcL_sim (chk := it.chk) (σ := wipeS s vs1) (fun S => e3 _ S (hK l)) hb l S
    unfold qIn qB
    cases el : qCompL g l S with
    | none => trivial
    | some p =>
      obtain ⟨r, S2⟩ := p
      rw [el] at this
      cases r with
      | exc x => exact this.elim
      | ok ys =>
        simp only at this ⊢
        rw [e1, this]
        exact ⟨_, _, rfl, rfl, hw⟩
theorem g2_all {mi1 : M Itr} {vs1 own : List Nat} {tg1 : Tg} {test1 : M Bool} {elt : M T} {q : Q (Option (List T))} (h : Sim X (innerL mi1 vs1 tg1 test1 elt) σ q (wRL own σ2)) : Sim X (bodyL bYes mi1 vs1 tg1 test1 elt) σ q (wRL own σ2) := h
theorem g2_if {test : M Bool} {mi1 : M Itr} {vs1 own : List Nat} {tg1 : Tg} {test1 : M Bool} {elt : M T} {qt : Q Bool} {q : Q (Option (List T))} {s1 : List Sl} (ht : ST X test σ qt s1) (hw1 : wipeS s1 own = σ2) (h : Sim X (innerL mi1 vs1 tg1 test1 elt) s1 q (wRL own σ2)) :
    Sim X (bodyL test mi1 vs1 tg1 test1 elt) σ (qB qt fun b => if b then q else qP none) (wRL own σ2) :=
  bT ht fun b => by
    cases b with
    | true => exact h
    | false => exact Sim.pur ⟨rfl, hw1⟩
theorem lc2L_sim {chk : Stt → Prop} {own vs1 : List Nat} {tg tg1 : Tg} {test test1 : M Bool} {mi1 : M Itr} {elt : M T} {g : T → Q (Option (List T))} (hc : ∀ S, chk ⟨σ, S⟩) (hb : ∀ t, SAs X [tg] [t] σ (bodyL test mi1 vs1 tg1 test1 elt) (g t) (wRL own σ)) :
    ∀ (l : List T) (S : List Ob), match qComp2L g l S with | some (.ok ys, S') => lc2L chk own vs1 tg test mi1 tg1 test1 elt l ⟨σ, S⟩ = some (ys, ⟨σ, S'⟩) | none => True | some (.exc _, _) => False
  | [], S => by
    show lc2L chk own vs1 tg test mi1 tg1 test1 elt [] ⟨σ, S⟩ = some ([], ⟨σ, S⟩)
    unfold lc2L
    rw [if_pos (hc S)]
  | t :: ts, S => by
    have ih := lc2L_sim hc hb ts
    unfold qComp2L
    rcases hb t with ⟨σ0, e, hk⟩ | hk
    · rw [asgTs_one] at e
      have hr := hk.run S
      cases eg : g t S with
      | none => trivial
      | some p =>
        obtain ⟨r, S1⟩ := p
        rw [eg] at hr
        cases r with
        | exc x => trivial
        | ok o =>
          simp only
          obtain ⟨a, s1, e1, rfl, hw⟩ := hr
          have ih1 := ih S1
          cases el : qComp2L g ts S1 with
          | none => trivial
          | some p =>
            obtain ⟨r, S2⟩ := p
            rw [el] at ih1
            cases r with
            | exc x => trivial
            | ok zs =>
              simp only at ih1 ⊢
              show lc2L chk own vs1 tg test mi1 tg1 test1 elt (t :: ts) ⟨σ, S⟩ = some (_, ⟨σ, S2⟩)
              unfold lc2L
              rw [if_pos (hc S)]
              simp only [e]
              unfold bodyL at e1
              rw [bind_def] at e1
              cases et : test ⟨σ0, S⟩ with
              | none => rw [et] at e1; cases e1
              | some p =>
                obtain ⟨r, st1⟩ := p
                rw [et] at e1
                cases r with
                | exc x => cases e1
                | ok b =>
                  cases b with
                  | true =>
                    simp only at e1 ⊢
                    unfold innerL at e1
                    rw [bind_def] at e1
                    cases em : mi1 st1 with
                    | none => rw [em] at e1; cases e1
                    | some p =>
                      obtain ⟨r, st2⟩ := p
                      rw [em] at e1
                      cases r with
                      | exc x => cases e1
                      | ok it1 =>
                        simp only at e1 ⊢
                        cases ei : lcL it1.chk vs1 tg1 test1 elt it1.ts { st2 with σ := wipeS st2.σ vs1 } with
                        | none => rw [ei] at e1; cases e1
                        | some p =>
                          obtain ⟨ys, st3⟩ := p
                          rw [ei] at e1
                          cases e1
                          simp only [hw, ih1]
                  | false =>
                    cases e1
                    simp only [hw, ih1]
    · rw [hk]; trivial
theorem g_comp2 {mi : M Itr} {own vs1 : List Nat} {tg tg1 : Tg} {test test1 : M Bool} {mi1 : M Itr} {elt : M T} {q : Q (List T)} {g : T → Q (Option (List T))} {K : List T → List Sl → Prop} (hi : SI X mi σ q σ1 K) (hK : ∀ l, K l (wipeS σ1 own)) (hn : own.all (fun v => notOwn σ1[v]?) = true) (hr : restS σ1 (wipeS σ1 own) own = σ1)
    (hb : ∀ t, SAs X [tg] [t] (wipeS σ1 own) (bodyL test mi1 vs1 tg1 test1 elt) (g t) (wRL own (wipeS σ1 own))) : SL X (fComp2 mi own vs1 tg test mi1 tg1 test1 elt) σ (qB q (qComp2 g)) σ1 :=
  Sim.bnd hi fun it l s ⟨e1, e2, e3⟩ => by
    subst e2
    refine ⟨fun S => ?_⟩
    have := lc2L_sim (chk := it.chk) (σ := wipeS s own) (fun S => e3 _ S (hK l)) hb l S
    unfold qComp2 qB
    cases el : qComp2L g l S with
    | none => trivial
    | some p =>
      obtain ⟨r, S2⟩ := p
      rw [el] at this
      cases r with
      | exc x => exact this.elim
      | ok ys =>
        simp only [hn, if_true] at this ⊢
        rw [e1, this]
        by_cases hl : ys.length ≤ 1000000
        · simp only [if_pos hl]
          exact ⟨_, _, rfl, rfl, by rw [hr]⟩
        · simp only [if_neg hl]
          trivial
theorem g_sort2 {mi : M Itr} {own vs1 : List Nat} {tg tg1 : Tg} {test test1 : M Bool} {mi1 : M Itr} {elt : M T} {q : Q (List T)} {g : T → Q (Option (List T))} {K : List T → List Sl → Prop} (hi : SI X mi σ q σ1 K) (hK : ∀ l, K l (wipeS σ1 own)) (hn : own.all (fun v => notOwn σ1[v]?) = true) (hr : restS σ1 (wipeS σ1 own) own = σ1)
    (hb : ∀ t, SAs X [tg] [t] (wipeS σ1 own) (bodyL test mi1 vs1 tg1 test1 elt) (g t) (wRL own (wipeS σ1 own))) : SL X (fSort2 mi own vs1 tg test mi1 tg1 test1 elt) σ (qB q (qSort2 g)) σ1 :=
  Sim.bnd hi fun it l s ⟨e1, e2, e3⟩ => by
    subst e2
    refine ⟨fun S => ?_⟩
    have := lc2L_sim (chk := it.chk) (σ := wipeS s own) (fun S => e3 _ S (hK l)) hb l S
    unfold qSort2 qB
    cases el : qComp2L g l S with
    | none => trivial
    | some p =>
      obtain ⟨r, S2⟩ := p
      rw [el] at this
      cases r with
      | exc x => exact this.elim
      | ok ys =>
        simp only [hn, if_true] at this ⊢
        rw [e1, this]
        by_cases hl : ys.all isI = true ∧ ys.length ≤ 63
        · simp only [if_pos hl]
          exact ⟨_, _, rfl, rfl, by rw [hr]⟩
        · simp only [if_neg hl]
          trivial
/-! ### of told things -/
theorem qComp2L_m {g : T → Q (Option (List T))} {en : ε → T} {f : ε → Option (List T)} : ∀ {l : List ε}, (∀ t ∈ l, g (en t) = qP (f t)) → qComp2L g (l.map en) = qP (l.filterMap f).flatten
  | [], _ => rfl
  | t :: ts, h => by
    funext S
    show qComp2L g (en t :: ts.map en) S = _
    unfold qComp2L
    rw [h t List.mem_cons_self, qComp2L_m fun u hu => h u (List.mem_cons_of_mem _ hu)]
    cases e : f t with
    | none => simp only [qP, List.filterMap_cons_none e]
    | some ys => simp only [qP, List.filterMap_cons_some e, List.flatten_cons]
theorem qComp2_m {g : T → Q (Option (List T))} {en : ε → T} {f : ε → Option (List T)} {l : List ε} (h : ∀ t ∈ l, g (en t) = qP (f t)) (hl : (l.filterMap f).flatten.length ≤ 1000000) : qComp2 g (l.map en) = qP (l.filterMap f).flatten := by
  unfold qComp2
  rw [qComp2L_m h]
  show (if _ then _ else _) = _
  rw [if_pos hl]
theorem qSort2_m {g : T → Q (Option (List T))} {en : ε → T} {f : ε → Option (List T)} {l : List ε} {ks : List Int} (h : ∀ t ∈ l, g (en t) = qP (f t)) (e : (l.filterMap f).flatten = ks.map .int) (hl : ks.length ≤ 63) : qSort2 g (l.map en) = qP ((sortK ks).map .int) := by
  unfold qSort2
  rw [qComp2L_m h, e]
  show (if _ then _ else _) = _
  rw [if_pos ⟨by rw [List.all_eq_true]; intro t ht; obtain ⟨k, _, rfl⟩ := List.mem_map.mp ht; rfl, by rw [List.length_map]; exact hl⟩, List.map_map]
  have : ks.map (toI ∘ T.int) = ks := by
    rw [show toI ∘ T.int = id from rfl, List.map_id]
  rw [this]
end
end Sw
namespace Sw
open PySem PySem.Spec PyProof.Rows L2
open Classical
section
variable {α β γ δ ε : Type} {X : List Sl → Prop} {σ σ1 σ2 σ3 : List Sl}
/-! ### a list of its own, of two -/
def qOp2L (f : T → T → Option (List T)) (x y : T) : Q (List T) := qB (qK x) fun a => qB (qK y) fun b => qO (f a b)
theorem rd2L {f : T → T → Option (List T)} {ra rb : Rdr} {x y : T} (ha : Rd ra x σ) (hb : Rd rb y σ) : SL X (fun st => match ra st, rb st with | some a, some b => ofO ((f a b).map .lst) st | _, _ => none) σ (qOp2L f x y) σ := ⟨fun S => by
  unfold qOp2L qB qK
  rw [ha S, hb S]
  cases peekT S x with
  | none => trivial
  | some a =>
    simp only
    cases peekT S y with
    | none => trivial
    | some b =>
      simp only
      cases f a b with
      | none => trivial
      | some t => exact ⟨.lst t, σ, rfl, rfl, rfl⟩⟩
theorem sOp2L {f : T → T → Option (List T)} {ma mb : M Rdr} {q : Q β} {R : Ob → β → List Sl → Prop} (k : Sim X (ma >>= fun ra => mb >>= fun rb => (fun st => match ra st, rb st with | some a, some b => ofO ((f a b).map .lst) st | _, _ => none : M Ob)) σ q R) : Sim X (fOp2 f ma mb) σ q R := k
theorem qOp2L_n {f : T → T → Option (List T)} {x y : T} (hx : nr x = true) (hy : nr y = true) : qOp2L f x y = qO (f x y) := by
  unfold qOp2L
  rw [qK_n hx, qK_n hy]
  rfl
theorem cat_f {l m : List T} (h : l.length + m.length ≤ 1000000) : qOp2L catO (.fz l) (.fz m) = qP (l ++ m) := by
  rw [qOp2L_n nr_fz nr_fz]
  show qO (if l.length + m.length ≤ 1000000 then some (l ++ m) else none) = _
  rw [if_pos h]
  rfl
theorem x_cat {E : Ev} {Y : Cx} {a b : Expr} {ma mb : M Rdr} {pos : Pos} (G : Gd E Y) (ha : OE E Y a ma) (hb : OE E Y b mb) : FE E Y (.BinOp a .Add b pos) (fOp2 catO ma mb) := fe_op op_cat lr_cat ha hb
theorem sort_ints {ks : List Int} (h : ks.length ≤ 1000) (h2 : (sortK ks).length ≤ 63) : sortSetO [.fz (ks.map .int)] = some ((sortK ks).map .int) := by
  have e : (ks.map T.int).map toI = ks := by
    rw [List.map_map, show toI ∘ T.int = id from rfl, List.map_id]
  unfold sortSetO
  simp only [e]
  rw [if_pos ⟨by rw [List.all_eq_true]; intro t ht; obtain ⟨k, _, rfl⟩ := List.mem_map.mp ht; rfl, by simpa using h, h2⟩]
theorem len_ints {ks : List Int} (h : ks.length ≤ 1000) : lenSetO [.fz (ks.map .int)] = some (.int (sortK ks).length) := by
  have e : (ks.map T.int).map toI = ks := by
    rw [List.map_map, show toI ∘ T.int = id from rfl, List.map_id]
  unfold lenSetO
  simp only [e]
  rw [if_pos ⟨by rw [List.all_eq_true]; intro t ht; obtain ⟨k, _, rfl⟩ := List.mem_map.mp ht; rfl, by simpa using h⟩]
end
end Sw
namespace Sw
open PySem PySem.Spec PyProof.Rows L2
open Classical
/-! ### a law's own def, where it is known that nothing guards (it may ask for repr) -/
section
variable {P : Program} {w : World} {K : PySem.W.Frag} {mg : Str → Option Value} {base : Heap} {CX : CXT} {k : Nat} {f : Addr} {fd : FuncData} {ps : List Str} {sp : Sp}
structure FnG (P : Program) (w : World) (K : PySem.W.Frag) (mg : Str → Option Value) (base : Heap) (CX : CXT) (k : Nat) (f : Addr) (fd : FuncData) (ps : List Str) (sp : Sp) : Prop where
  len : ∀ vs H Q E, sp vs H Q E → vs.length = ps.length
  run : ∀ (A : Around) (outer : List Env) (s : Shared) (H : Hp) (args : Args) (us : List Value) (vs : List V) (Q : VK) (E : XK), A.guards = some [] → Room k A → Env0 P w K mg base A outer s H → BindsTo s fd args (ps.zip us) → Vals vs us → sp vs H Q E →
    codeAny (model P w) A (.call (.ref f) args) (CR CX outer P w H s Q E) s
theorem guards_deeper {A : Around} {env : Env} (h : A.guards = some []) : (A.deeper env).guards = some [] := h
theorem fnG_of {name qual : Str} {params : Arguments} {body : List Stmt} {scope : Scope} {dV kV doc pm cdv ct oc : Value} {an od : Option Addr} {osl : Array (Option Value)} {N : List Str}
    (lk : K.lookup f = some ⟨oc, od, .func (PySem.W.fnOf name qual params body scope dV kV doc pm an cdv ct), osl⟩) (hcd : PySem.W.codeIn K cdv qual = true) (S : FnScope N ps scope) (len : ∀ vs H Q E, sp vs H Q E → vs.length = ps.length)
    (go : ∀ (A : Around) (outer : List Env) (s : Shared) (H : Hp) (vs : List V) (Q : VK) (E : XK), A.guards = some [] → Room k (A.deeper (envOfC qual scope s.heap.objs.size f cdv)) → sp vs H Q E →
      ∃ t, PSs (cxOf CX P w K mg base N qual scope f cdv A outer s H E) body t ∧ t { nx := fun _ H' => Q .non H', rt := Q } (start N vs) H) :
    FnG P w K mg base CX (k + 1) f (PySem.W.fnOf name qual params body scope dV kV doc pm an cdv ct) ps sp := by
  constructor
  · exact len
  intro A outer s H args us vs Q E hg room e0 bind rv hsp
  have keep : ∀ b o, base.get? b = some o → s.heap.get? b = some o := fun b o e => (e0.bs b o e).1
  have inK : K.In s.heap := e0.mod.kin.keeps keep
  refine codeAny_call_function room.depth (inK _ _ lk) rfl S.co S.gen rfl (PySem.W.codeRec_of inK hcd) (bind _ _ _ _ (wpAny_newFunctionEnv_cells S.kind (fun y hy => ?_) fun env he s1 x => ?_))
  · refine (S.par y.1 (List.of_mem_zip (show (y.1, y.2) ∈ ps.zip us from hy)).1).imp id fun q => ⟨q, PySem.W.cellsFrom_some _ _ _ (.inl q)⟩
  · subst he
    obtain ⟨t, pt, q⟩ := go A outer s H vs Q E hg (room.deeper _) hsp
    refine ⟨(e0.mod.nolimit.keeps keep).keeps x.toInCall.keep, codeAny_func (wpAny_mono (pt.run [] s1 (start N vs) H _ (inv_start S room.hd e0 (len _ _ _ _ hsp) rv x) q) (fun fl s' h => ?_) fun _ _ z => z)⟩
    match fl, h with
    | .ret u, ⟨v, σ', H', J, r, q⟩ => exact ⟨v, H', J.os, J.bare, J.base, J.hok, r, q⟩
    | .next, ⟨σ', H', J, q⟩ => exact ⟨V.non, H', J.os, J.bare, J.base, J.hok, rfl, q⟩
    | .brk, ⟨_, _, _, q⟩ => exact q.elim
    | .cont, ⟨_, _, _, q⟩ => exact q.elim
/-- the heap as a base: what is tracked left out -/
theorem base0 {mb : Str → Option Value} {s : Shared} {H : Hp} {a : Addr} {arr : Array Value} (KX : K.In s.heap) (hns : s.heap.Ns mainGlobals mg) (hb : s.heap.Ns builtinsNs mb) (hbb : ∀ x : Str, x ≠ "__name__" → mb x = bootBuiltins x) (hlim : s.heap.NoLimit) (hg : s.gens = #[])
    (ha : s.heap.get? a = some { cls := .type "list", data := .seq arr }) (hok : HOk P w H s.heap) (only : ∀ b, H b ≠ none → b = a ∧ K.lookup a = none) :
    K.In (hidT s.heap H) ∧ (hidT s.heap H).Ns mainGlobals mg ∧ Env0 P w K mg (hidT s.heap H) callerA [] s H := by
  have free : ∀ {b : Addr} {o : Obj}, s.heap.get? b = some o → b ≠ a → (hidT s.heap H).get? b = some o := fun {b o} e ne => hidT_get e (Classical.byContradiction fun z => ne (only b z).1)
  have names : ∀ {b : Addr} {m : Str → Option Value}, s.heap.Ns b m → (hidT s.heap H).Ns b m := fun {b m} n => by
    obtain ⟨o, es, ep, e, d, r⟩ := n
    refine ⟨o, es, ep, free e fun z => ?_, d, r⟩
    subst z
    rw [ha] at e
    cases e
    cases (show Data.seq arr _ = Data.dict es ep from d)
  have inK : K.In (hidT s.heap H) := fun b o e => hidT_get (KX b o e) (Classical.byContradiction fun z => by
    obtain ⟨rfl, n⟩ := only b z
    rw [n] at e
    cases e)
  obtain ⟨ml, l1, l2⟩ := hlim
  refine ⟨inK, names hns, rfl, ⟨inK, names hns, ⟨mb, names hb, hbb⟩, ⟨ml, names l1, l2⟩⟩, fun b o e => of_hidT e, Nat.le_of_eq (hidT_size _ _), trivial, fun b z => ?_, hok, .of_eq hg⟩
  exact absurd (show b ∈ ([] : List Addr) from z) List.not_mem_nil
theorem law_callG {mb : Str → Option Value} {fa a : Addr} {x : Str} {s : Shared} {vs : List Value} {ns : List Int} (KX : K.In s.heap) (hns : s.heap.Ns mainGlobals mg) (hb : s.heap.Ns builtinsNs mb) (hbb : ∀ x : Str, x ≠ "__name__" → mb x = bootBuiltins x) (hlim : s.heap.NoLimit) (hg : s.gens = #[])
    (ha : s.heap.get? a = some { cls := .type "list", data := .seq vs.toArray }) (hi : IntsAre vs ns) (hl : ns.length ≤ sizeLine) (hr : Room k callerA) (F : ∀ base : Heap, K.In base → base.Ns mainGlobals mg → FnG P w K mg base CX k fa fd [x] sp)
    (bind : ∀ (s : Shared) (u : Value), BindsTo s fd ⟨[u], []⟩ [(x, u)]) (hsp : ∀ H : Hp, L2.Only H → SqL K H a (ns.map V.int) → sp [.ref a] H (fun v _ => v = .bl true) fun _ _ _ => False) (hCX : ∀ H e s', CX [] H s (fun _ _ _ => False) e s' → False) :
    codeAny (model P w) callerA (.call (.ref fa) ⟨[.ref a], []⟩) (fun r s' => r = .ok (.ret (.bool true)) ∧ OldK s.heap s'.heap ∧ s'.os = s.os ∧ AllBare s'.gens) s := by
  have many := hi.length
  have go : ∀ H : Hp, L2.Only H → SqL K H a (ns.map V.int) → HOk P w H s.heap → (∀ b, H b ≠ none → b = a ∧ K.lookup a = none) →
      codeAny (model P w) callerA (.call (.ref fa) ⟨[.ref a], []⟩) (fun r s' => r = .ok (.ret (.bool true)) ∧ OldK s.heap s'.heap ∧ s'.os = s.os ∧ AllBare s'.gens) s := fun H hO hS hok only => by
    obtain ⟨b1, b2, e0⟩ := base0 KX hns hb hbb hlim hg ha hok only
    refine codeAny_mono ((F _ b1 b2).run callerA [] s H ⟨[.ref a], []⟩ [.ref a] [.ref a] _ _ rfl hr e0 (bind s (.ref a)) (.cons rfl .nil) (hsp H hO hS)) fun r s' h => ?_
    match r, h with
    | .error e, h => exact (hCX H e s' h).elim
    | .ok .next, h => exact h.elim
    | .ok .brk, h => exact h.elim
    | .ok .cont, h => exact h.elim
    | .ok (.ret u), ⟨v, H', os, bare, un, hok', rv, q⟩ =>
      have q : v = .bl true := q
      subst q
      obtain rfl : u = Value.bool true := rv
      refine ⟨rfl, OldK.of_keep fun b o e => ?_, os, bare⟩
      cases hb2 : H b with
      | none => exact un.keep b o e hb2 (fun z => absurd (show b ∈ ([] : List Addr) from z) List.not_mem_nil) (by simp)
      | some u =>
        obtain ⟨ob, xs, z⟩ := (hO b).resolve_left fun z => by rw [hb2] at z; cases z
        have g0 := (hok b _ z).1
        rw [e] at g0
        cases g0
        exact (hok' b _ (un.frzs b _ _ z)).1
  have rv := L2.vals_ints hi
  cases hk : K.lookup a with
  | some o =>
    have e := KX a o hk
    rw [ha] at e
    cases e
    exact go (fun _ => none) (fun _ => .inl rfl) (.inr ⟨_, vs.toArray, _, hk, rfl, rfl, rfl, by rw [List.size_toArray, many]; exact hl, by simpa using rv⟩) (fun b u z => nomatch (show (none : Option HO) = some u from z)) fun b z => absurd rfl z
  | none =>
    let frz : HO := .frz { cls := .type "list", data := .seq vs.toArray } (.lst (ns.map V.int))
    refine go (fun b => if b = a then some frz else none) (fun b => ?_) (.inl (.inr ⟨{ cls := .type "list", data := .seq vs.toArray }, if_pos rfl⟩)) (fun b u z => ?_) fun b z => ?_
    · by_cases e : b = a
      · exact .inr ⟨_, _, if_pos e⟩
      · exact .inl (if_neg e)
    · by_cases e : b = a
      · subst e
        cases (if_pos rfl).symm.trans z
        exact ⟨ha, by rw [List.length_map]; exact hl, vs, _, rv, ha⟩
      · cases (if_neg e).symm.trans z
    · by_cases e : b = a
      · exact ⟨e, hk⟩
      · exact absurd (if_neg e) z
end
theorem walk_ofG {l : PySem.W.OpenLaw} {n k : Nat} {q : Program} {loose : List Str} {XP : (Str → Option Value) → Heap → Prop} {YP : World → Heap → Prop} {d : DefRec} {CX : CXT} {x : Str} (hn : l.most = some n) (hn2 : n ≤ sizeLine) (hdf : d.params.defaults = []) (hr : Room k callerA)
    (F : ∀ (w : World) (mg : Str → Option Value) (fa : Addr) (h : Heap), YP w h → h.Ns mainGlobals mg → mg d.name = some (.ref fa) →
      ∃ (K : PySem.W.Frag) (fd : FuncData) (sp : Sp), K.In h ∧ (∀ (s : Shared) (u : Value), BindsTo s fd ⟨[u], []⟩ [(x, u)]) ∧
        (∀ (H : Hp) (a : Addr) (ns : List Int), ns.length ≤ n → L2.Only H → SqL K H a (ns.map V.int) → sp [.ref a] H (fun v _ => v = .bl true) fun _ _ _ => False) ∧
        ∀ base : Heap, K.In base → base.Ns mainGlobals mg → FnG l.prog w K mg base CX k fa fd [x] sp)
    (hCX : ∀ (H : Hp) (s : Shared) (e : Value) (s' : Shared), CX [] H s (fun _ _ _ => False) e s' → False) : PySem.W.WalkO q loose XP YP l.row.toRowW d [] (fun f vs => PySem.call f vs) :=
  Att.attach_call hn hdf fun w s0 s1 mg mb fa o pm cd doc a vs ns G Y ho hd hcd hmg hobj hints hlen hg => by
    obtain ⟨K, fd, sp, KX, bind, hsp, hF⟩ := F w mg fa _ Y G.T.g hmg
    exact law_callG KX G.T.g G.T.b G.T.builtins G.T.nolimit hg hobj hints (Nat.le_trans hlen hn2) hr hF bind (fun H hO hS => hsp H a ns hlen hO hS) fun H e s' => hCX H s1 e s'
end Sw
namespace Sw
open PySem PySem.Spec PyProof.Rows L2
open Classical
section
variable {P : Program} {w : World} {K : PySem.W.Frag} {mg : Str → Option Value} {base : Heap} {RX : Gh → Xn → Value → Option Addr → Hp → Prop}
theorem fn_okG {x qual : Str} {params : Arguments} {body : List Stmt} {scope : Scope} {dvs : List V} {kws : List (Str × V)} {f : Addr} {fd : FuncData} {N ps : List Str} {c : Cmd} (k : Nat) (F : FunD K x qual params body scope dvs kws f fd) (S : FnScope N ps scope) (hR : RXok RX)
    (hbody : ∀ (cdv : Value) (A : Around) (outer : List Env) (s : Shared) (H : Hp) (Ex : XK), Room k (cxOf (L2.CX P w) P w K mg base N qual scope f cdv A outer s H Ex).A → Gd (fnEv K RX Ex) (cxOf (L2.CX P w) P w K mg base N qual scope f cdv A outer s H Ex) →
      PassesOwn (model P w) (cxOf (L2.CX P w) P w K mg base N qual scope f cdv A outer s H Ex).A (cxOf (L2.CX P w) P w K mg base N qual scope f cdv A outer s H Ex).env (cxOf (L2.CX P w) P w K mg base N qual scope f cdv A outer s H Ex).xe →
      (cxOf (L2.CX P w) P w K mg base N qual scope f cdv A outer s H Ex).A.guards = some [] →
      SSM (fnEv K RX Ex) (cxOf (L2.CX P w) P w K mg base N qual scope f cdv A outer s H Ex) body c) :
    FnG P w K mg base (L2.CX P w) (k + 1) f fd ps (spM K RX ps.length (fnM N.length c)) := by
  obtain ⟨oc, od, dV, kV, doc, pm, an, cdv, ct, osl, rfl, lk, hcd, _, _⟩ := F.ex
  refine fnG_of lk hcd S (fun vs H Q Ex h => ?_) (fun A outer s H vs Q Ex hgd hr h => ?_)
  · obtain ⟨g, Sx, ts, hn, r, rl, _⟩ := h
    rw [rl.len, hn]
  · obtain ⟨g, Sx, ts, hn, r, rl, _, h⟩ := h
    have tk : Takes (cxOf (L2.CX P w) P w K mg base N qual scope f cdv A outer s H Ex) (fun cls d _ H => Ex cls d H) := takes_of rfl rfl rfl rfl
    refine ⟨_, (hbody cdv A outer s H Ex hr ⟨rfl, hu65 hr, rfl, S.nd, tk, hR⟩ (passes_of (K := fun e s'' => L2.CX P w outer H s Ex e s'') rfl) hgd).pss, g, ⟨ts.map .val ++ List.replicate (N.length - ts.length) .emp, Sx⟩, start_rel r rl, ?_⟩
    unfold fnM at h
    unfold run
    cases e : c ⟨ts.map .val ++ List.replicate (N.length - ts.length) .emp, Sx⟩ with
    | none => rw [e] at h; exact h.elim
    | some p =>
      obtain ⟨q, st'⟩ := p
      rw [e] at h
      cases q with
      | exc x => exact fun g' σ' H' c d r' s' rx => h g' H' c d r'.toRelS s' rx
      | ok fl =>
        cases fl with
        | nxt => exact fun g' σ' H' r' s' => h g' H' .non r'.toRelS s' (by unfold RepT; rfl)
        | ret t => exact fun g' σ' H' r' s' v rv => h g' H' v r'.toRelS s' rv
        | brk => exact h.elim
        | cnt => exact h.elim
theorem nox_lawG {k : Nat} {f : Addr} {fd : FuncData} {ps : List Str} {sp : Sp} (F : FnG P w K mg base (L2.CX P w) k f fd ps sp) : FnG P w K mg base CX0 k f fd ps (fun vs H Q _ => sp vs H Q fun _ _ _ => False) :=
  ⟨fun vs H Q E h => F.len _ _ _ _ h, fun A outer s H args us vs Q E hgd hr he hb hv hs => codeAny_mono (F.run A outer s H args us vs Q _ hgd hr he hb hv hs) fun r s' hq => by
    cases r with
    | ok fl => cases fl <;> exact hq
    | error e =>
      obtain ⟨_, _, _, _, _, _, _, _, _, _, _, _, z⟩ := hq
      exact z.elim⟩
end
/-! ### repr of what is told whole -/
def rRepr (K : PySem.W.Frag) : List V → Hp → VK → Prop := fun vs H Q => ∃ x d, vs = [x] ∧ Dp K H x d ∧ PyData.showable d = true ∧ PyData.hasDict d = false ∧ d.depth ≤ 62 ∧ d.shown.length ≤ sizeLine ∧ Q (.str d.shown) H
theorem cr_repr {X : Cx} (hgd : X.A.guards = some []) (hu : X.A.units + 65 < cLine) : CallR X (.builtin "repr") (rRepr X.K) := by
  intro pins s σ H vs us Q I r h
  obtain ⟨x, d, rfl, hd, hs, hn, h62, hz, q⟩ := h
  obtain ⟨u, rfl, rx⟩ := L2.vals1 r
  obtain ⟨as, rd⟩ := Dp.reads I d x u hd rx
  have fin : ∀ h' tk (t : Tok), (∀ b o, s.heap.get? b = some o → h'.get? b = some o) → EP X pins σ Q (.str d.shown t) { s with heap := h', toks := tk } := fun h' tk t k => ⟨.str d.shown, H, I.kept (t' := tk) k, ⟨t, rfl⟩, q⟩
  have rd0 := rd
  cases rd with
  | none => exact PySem.P.repr_of_none (fin s.heap _ _ fun _ _ e => e)
  | bool b => exact PySem.P.repr_of_bool (by have := fin s.heap (s.toks + 1) s.toks fun _ _ e => e; cases b <;> exact this)
  | int i => exact PySem.P.repr_of_int (by simpa [PyData.showable] using hs) (fin s.heap _ _ fun _ _ e => e)
  | str x => exact PySem.P.repr_of_str (fin s.heap _ _ fun _ _ e => e) hz
  | list => exact repr_of_reads' rd0 hs (PyData.noDict_hsm hn) hgd (by omega) (fun _ _ e => e) (fun h' t tk k => fin h' tk t k) hz
  | tuple => exact repr_of_reads' rd0 hs (PyData.noDict_hsm hn) hgd (by omega) (fun _ _ e => e) (fun h' t tk k => fin h' tk t k) hz
  | dict => exact repr_of_reads' rd0 hs (PyData.noDict_hsm hn) hgd (by omega) (fun _ _ e => e) (fun h' t tk k => fin h' tk t k) hz
/-- the text of a tree -/
def rpr (t : T) : List Nat := t.pd.shown.cps.toList
/-- what may be asked for its text -/
structure ShOk (t : T) : Prop where
  dat : t.dat 60 = true
  sh : PyData.showable t.pd = true
  nd : PyData.hasDict t.pd = false
  dp : t.pd.depth ≤ 62
  sz : t.pd.shown.length ≤ 16000000
noncomputable def reprO : List T → Option T
  | [t] => if ShOk t then some (.str (rpr t)) else none
  | _ => none
section
variable {E : Ev} {X : Cx} {pos p : Pos} {e : Expr} {m : M (List Rdr)}
theorem lr_repr : LRC E (rRepr E.K) reprO := by
  intro g H ts s vs Q zs rk e q
  match ts, e with
  | [t], e =>
    by_cases ok : ShOk t
    · have e : reprO [t] = some s := e
      unfold reprO at e
      simp only [if_pos ok] at e
      cases e
      obtain ⟨v, rfl, rv⟩ := rk.one
      have sl := sizeLine_eq
      refine ⟨v, t.pd, rfl, RepK.dp zs ok.dat rv, ok.sh, ok.nd, ok.dp, by have := ok.sz; omega, q _ ?_⟩
      unfold RepT rpr
      simp [sS]
    · have e : reprO [t] = some s := e
      unfold reprO at e
      simp only [if_neg ok] at e
      cases e
theorem x_repr (G : Gd E X) (hgd : X.A.guards = some []) (hm : X.mg "repr" = none) (ha : OA E X [e] m) (hg : Gl X "repr" := by rfl)
    (he : starEach [e] X.env = (false, eval e X.env) :: starEach [] X.env := by rfl) (hpl : (backTo pos (starEach [] X.env)).any (·.1) = false := by rfl) : ME E X (.Call (.Name "repr" p) [e] [] pos) (eCall reprO m) :=
  me_callB (cr_repr hgd G.hu) (G.K ▸ lr_repr) hg hm (by decide +kernel) ha (by decide) (by decide) he hpl
end
end Sw
namespace Sw
open PySem PySem.Spec PyProof.Rows L2
open Classical
/-! ### told data: of depth at most k, of so many parts and signs -/
inductive Da : Nat → Nat → T → Prop
  | non {k b} : Da k b .non
  | bl {k b x} : Da k b (.bl x)
  | int {k b} {i : Int} : i.natAbs < 10 ^ 40 → Da k b (.int i)
  | str {k b s} : (∀ c ∈ s, c < 128) → s.length ≤ b → Da k b (.str s)
  | tup {k b c l} : (∀ x ∈ l, Da k c x) → l.length * (c + 1) ≤ b → Da (k + 1) b (.tup l)
  | fz {k b c l} : (∀ x ∈ l, Da k c x) → l.length * (c + 1) ≤ b → Da (k + 1) b (.fz l)
theorem Da.mono {k b : Nat} {t : T} (h : Da k b t) : ∀ {j c : Nat}, k ≤ j → b ≤ c → Da j c t := by
  induction h with
  | non => exact fun _ _ => .non
  | bl => exact fun _ _ => .bl
  | int h => exact fun _ _ => .int h
  | str h k => exact fun _ e => .str h (Nat.le_trans k e)
  | tup h e ih =>
    intro j c h1 h2
    obtain ⟨j, rfl⟩ : ∃ i, j = i + 1 := ⟨j - 1, by omega⟩
    exact .tup (fun x hx => ih x hx (by omega) (Nat.le_refl _)) (Nat.le_trans e h2)
  | fz h e ih =>
    intro j c h1 h2
    obtain ⟨j, rfl⟩ : ∃ i, j = i + 1 := ⟨j - 1, by omega⟩
    exact .fz (fun x hx => ih x hx (by omega) (Nat.le_refl _)) (Nat.le_trans e h2)
theorem dats_of {n : Nat} : ∀ {ts : List T}, (∀ t ∈ ts, t.dat n = true) → T.dats n ts = true
  | [], _ => by unfold T.dats; rfl
  | t :: ts, h => by
    unfold T.dats
    rw [h t List.mem_cons_self, dats_of fun u hu => h u (List.mem_cons_of_mem _ hu)]
    rfl
theorem Da.dat {k b : Nat} {t : T} (h : Da k b t) : ∀ {n : Nat}, k ≤ n → t.dat n = true := by
  induction h with
  | non => intro n _; cases n <;> rfl
  | bl => intro n _; cases n <;> rfl
  | int => intro n _; cases n <;> rfl
  | @str k b s h e =>
    intro n _
    have : s.all (· < 0x110000) = true := List.all_eq_true.mpr fun c hc => decide_eq_true (Nat.lt_of_lt_of_le (h c hc) (by decide))
    cases n <;> exact this
  | tup h e ih =>
    intro n hn
    obtain ⟨n, rfl⟩ : ∃ i, n = i + 1 := ⟨n - 1, by omega⟩
    exact dats_of fun x hx => ih x hx (by omega)
  | fz h e ih =>
    intro n hn
    obtain ⟨n, rfl⟩ : ∃ i, n = i + 1 := ⟨n - 1, by omega⟩
    exact dats_of fun x hx => ih x hx (by omega)
theorem pds_facts {P : PyData → Prop} {A : List PyData → Prop} (h0 : A []) (hc : ∀ d ds, P d → A ds → A (d :: ds)) : ∀ {ts : List T}, (∀ t ∈ ts, P t.pd) → A (T.pds ts)
  | [], _ => by unfold T.pds; exact h0
  | t :: ts, h => by
    unfold T.pds
    exact hc _ _ (h t List.mem_cons_self) (pds_facts h0 hc fun u hu => h u (List.mem_cons_of_mem _ hu))
theorem Da.sh {k b : Nat} {t : T} (h : Da k b t) : PyData.showable t.pd = true ∧ PyData.hasDict t.pd = false ∧ t.pd.depth ≤ k ∧ PyData.leavesShort 50 t.pd = true := by
  induction h with
  | non => exact ⟨by simp [T.pd, PyData.showable], by simp [T.pd, PyData.hasDict], by simp [T.pd, PyData.depth], by simp [T.pd, PyData.leavesShort]⟩
  | bl => exact ⟨by simp [T.pd, PyData.showable], by simp [T.pd, PyData.hasDict], by simp [T.pd, PyData.depth], by simp [T.pd, PyData.leavesShort]⟩
  | @int k b i h =>
    refine ⟨?_, by simp [T.pd, PyData.hasDict], by simp [T.pd, PyData.depth], ?_⟩
    · have : i.natAbs.log2 < 1920 := by
        by_cases hz : i.natAbs = 0
        · rw [hz]
          decide
        · exact (Nat.log2_lt hz).mpr (Nat.lt_of_lt_of_le (Nat.lt_trans h (show (10 : Nat) ^ 40 < 2 ^ 134 by decide)) (Nat.pow_le_pow_right (by decide) (by decide)))
      simp [T.pd, PyData.showable, this]
    · have e := int_text_length_le10 (k := 40) (by decide) h
      have e2 : (PyData.shown (.int i)).length ≤ 50 := by
        show (Str.ofString (toString i)).length ≤ 50
        rw [PySem.ofString_length]
        exact Nat.le_trans e (by decide)
      simp only [T.pd, PyData.leavesShort]
      exact decide_eq_true e2
  | @str k b s h e =>
    refine ⟨by simp [T.pd, PyData.showable], by simp [T.pd, PyData.hasDict], by simp [T.pd, PyData.depth], ?_⟩
    simp only [T.pd, PyData.leavesShort, sS]
    refine List.all_eq_true.mpr fun c hc => decide_eq_true (Nat.lt_of_lt_of_le (h c (by simpa using hc)) (by decide))
  | @tup k b c l h e ih =>
    refine ⟨?_, ?_, ?_, ?_⟩
    · simp only [T.pd, PyData.showable]
      exact pds_facts (P := fun d => PyData.showable d = true) (A := fun ds => PyData.showableAll ds = true) (by simp [PyData.showableAll]) (fun d ds a b => by simp [PyData.showableAll, a, b]) fun x hx => (ih x hx).1
    · simp only [T.pd, PyData.hasDict]
      exact pds_facts (P := fun d => PyData.hasDict d = false) (A := fun ds => PyData.hasDictAll ds = false) (by simp [PyData.hasDictAll]) (fun d ds a b => by simp [PyData.hasDictAll, a, b]) fun x hx => (ih x hx).2.1
    · simp only [T.pd, PyData.depth]
      have := pds_facts (P := fun d => d.depth ≤ k) (A := fun ds => PyData.depthAll ds ≤ k) (by simp [PyData.depthAll]) (fun d ds a b => by simp only [PyData.depthAll]; omega) fun x hx => (ih x hx).2.2.1
      omega
    · simp only [T.pd, PyData.leavesShort]
      exact pds_facts (P := fun d => PyData.leavesShort 50 d = true) (A := fun ds => PyData.leavesShortAll 50 ds = true) (by simp [PyData.leavesShortAll]) (fun d ds a b => by simp [PyData.leavesShortAll, a, b]) fun x hx => (ih x hx).2.2.2
  | @fz k b c l h e ih =>
    refine ⟨?_, ?_, ?_, ?_⟩
    · simp only [T.pd, PyData.showable]
      exact pds_facts (P := fun d => PyData.showable d = true) (A := fun ds => PyData.showableAll ds = true) (by simp [PyData.showableAll]) (fun d ds a b => by simp [PyData.showableAll, a, b]) fun x hx => (ih x hx).1
    · simp only [T.pd, PyData.hasDict]
      exact pds_facts (P := fun d => PyData.hasDict d = false) (A := fun ds => PyData.hasDictAll ds = false) (by simp [PyData.hasDictAll]) (fun d ds a b => by simp [PyData.hasDictAll, a, b]) fun x hx => (ih x hx).2.1
    · simp only [T.pd, PyData.depth]
      have := pds_facts (P := fun d => d.depth ≤ k) (A := fun ds => PyData.depthAll ds ≤ k) (by simp [PyData.depthAll]) (fun d ds a b => by simp only [PyData.depthAll]; omega) fun x hx => (ih x hx).2.2.1
      omega
    · simp only [T.pd, PyData.leavesShort]
      exact pds_facts (P := fun d => PyData.leavesShort 50 d = true) (A := fun ds => PyData.leavesShortAll 50 ds = true) (by simp [PyData.leavesShortAll]) (fun d ds a b => by simp [PyData.leavesShortAll, a, b]) fun x hx => (ih x hx).2.2.2
theorem bulk_all {c : Nat} : ∀ {ts : List T}, (∀ t ∈ ts, PyData.bulk t.pd ≤ c) → PyData.bulkAll (T.pds ts) ≤ ts.length * (c + 1)
  | [], _ => by unfold T.pds; simp [PyData.bulkAll]
  | t :: ts, h => by
    have h1 := h t List.mem_cons_self
    have h2 := bulk_all (ts := ts) fun u hu => h u (List.mem_cons_of_mem _ hu)
    unfold T.pds
    simp only [PyData.bulkAll, List.length_cons, Nat.succ_mul]
    omega
theorem Da.bulk {k b : Nat} {t : T} (h : Da k b t) : PyData.bulk t.pd ≤ b := by
  induction h with
  | non => simp [T.pd, PyData.bulk]
  | bl => simp [T.pd, PyData.bulk]
  | int => simp [T.pd, PyData.bulk]
  | str _ e => simp only [T.pd, PyData.bulk, sS]; simpa using e
  | tup h e ih => simp only [T.pd, PyData.bulk]; exact Nat.le_trans (bulk_all ih) e
  | fz h e ih => simp only [T.pd, PyData.bulk]; exact Nat.le_trans (bulk_all ih) e
theorem Da.ok {k b : Nat} {t : T} (h : Da k b t) (hk : k ≤ 50) (hb : b ≤ 200000) : ShOk t := by
  obtain ⟨h1, h2, h3, h4⟩ := h.sh
  have h5 := PyData.shown_le_bulk 50 (by decide) t.pd h4
  have h6 := h.bulk
  exact ⟨h.dat (by omega), h1, h2, by omega, by omega⟩
/-- to be this very text -/
def isS (s : List Nat) : T → Bool
  | .str z => z == s
  | _ => false
theorem eqv_s {s : List Nat} (x : T) : T.eqv x (.str s) = isS s x := by cases x <;> rfl
theorem eq_s {k b : Nat} {s : List Nat} {x : T} (h : Da k b x) (hk : k ≤ 50) (hs : s.all (· < 0x110000) = true) : eqT x (.str s) = some (.bl (isS s x)) := by
  unfold eqT eqO
  rw [h.dat (by omega), show (T.str s).dat 60 = true from hs]
  simp only [Bool.and_self, if_true, Option.map_some, eqv_s]
end Sw
namespace Sw
open PySem PySem.Spec PyProof.Rows L2
open Classical
/-! ### a tuple times a number -/
section
variable {E : Ev} {X : Cx}
def mulT : T → T → Option T
  | .tup ts, .int k => if ts ≠ [] ∧ 2 ≤ k ∧ k ≤ 1000 ∧ ts.length ≤ 1000 then some (.tup (List.replicate k.toNat ts).flatten) else none
  | _, _ => none
theorem ln_mulT : LRN E (rRepT E.K) mulT := by
  intro g H t u s v w Q zs h1 h2 e q
  cases t <;> cases u <;> simp only [mulT] at e <;> try contradiction
  split at e
  · rename_i hz
    cases e
    obtain ⟨a, xs, rfl, ha, rl⟩ := h1.tup_of
    refine ⟨a, _, xs, rfl, h2.int_of, sameT zs ha, ?_, hz.2.1, hz.2.2.1, by rw [rl.len]; exact hz.2.2.2, fx_tup zs (rl.repl _) q⟩
    intro hx
    have e0 := rl.len
    rw [hx] at e0
    exact hz.1 (List.eq_nil_of_length_eq_zero e0.symm)
  · contradiction
theorem x_mulT {a b : Expr} {ma mb : M Rdr} {pos : Pos} (G : Gd E X) (ha : OE E X a ma) (hb : OE E X b mb) : ME E X (.BinOp a .Mult b pos) (eOp2 mulT ma mb) := me_opN op_repT (G.K ▸ ln_mulT) ha hb
theorem mulT_eq {ts : List T} {k : Int} (h : ts ≠ []) (h1 : 2 ≤ k) (h2 : k ≤ 1000) (h3 : ts.length ≤ 1000) : mulT (.tup ts) (.int k) = some (.tup (List.replicate k.toNat ts).flatten) := if_pos ⟨h, h1, h2, h3⟩
/-! ### texts of any signs, told apart -/
def neS : T → T → Option T
  | .str x, .str y => some (.bl (!(x == y)))
  | _, _ => none
theorem lr_neS : LR2 E rNe neS := by
  intro g H t u s v w Q zs h1 h2 e q
  cases t <;> cases u <;> simp only [neS] at e <;> try contradiction
  cases e
  have e1 := h1.str_of
  have e2 := h2.str_of
  subst e1 e2
  refine ⟨rfl, ?_⟩
  rename_i a b
  have : decide (V.str (sS a) = V.str (sS b)) = (a == b) := by
    rw [Bool.eq_iff_iff, decide_eq_true_eq, beq_iff_eq]
    constructor
    · intro h
      injection h with h
      unfold sS at h
      injection h with h
      simpa using congrArg Array.toList h
    · rintro rfl
      rfl
  rw [this]
  exact q _ (by unfold RepT; rfl)
theorem k_neS : CmpOk E X .NotEq neS := ⟨_, op_ne, lr_neS⟩
theorem neS_self {x : List Nat} : neS (.str x) (.str x) = some (.bl false) := by
  show some (T.bl (!(x == x))) = _
  rw [beq_self_eq_true]
  rfl
/-! ### any data, in a tuple -/
def rInDT (K : PySem.W.Frag) : R2 := fun x y H Q => ∃ d ds, Dp K H x d ∧ Dp K H y (.tuple ds) ∧ SeqAt.shaped d = true ∧ SeqAt.shaped (.tuple ds) = true ∧ Q (.bl (ds.any fun z => PyData.eqv z d)) H
theorem op_inDT (hu : X.A.units + 65 < cLine) : OpR X (compareOp .In) (rInDT X.K) := by
  intro pins s σ H x y v u Q I rx ry h
  obtain ⟨d, ds, hd, he, sd, se, q⟩ := h
  obtain ⟨as, r1⟩ := Dp.reads I d x v hd rx
  obtain ⟨bs, r2⟩ := Dp.reads I (.tuple ds) y u he ry
  have p2 := PyData.plain_of_canLay0 _ (SeqAt.canLay_of_shaped se)
  have p2 : PyData.plainAll ds = true := by simpa [PyData.plain] using p2
  have hdep : d.depth ≤ 64 := by
    have := sd
    unfold SeqAt.shaped at this
    rw [Bool.and_eq_true] at this
    exact of_decide_eq_true this.2
  exact SeqAt.in_tuple_data r2 r1 p2 (PyData.plain_of_canLay0 _ (SeqAt.canLay_of_shaped sd)) (by omega) ⟨.bl _, H, I, rfl, q⟩
def inTD (t u : T) : Option T := match u with
  | .tup us => if t.dat 60 && T.dats 59 us then some (.bl (us.any fun z => T.eqv z t)) else none
  | _ => none
theorem lr_inTD : LR2 E (rInDT E.K) inTD := by
  intro g H t u s v w Q zs h1 h2 e q
  cases u <;> simp only [inTD] at e <;> try contradiction
  split at e
  · rename_i us hq
    rw [Bool.and_eq_true] at hq
    cases e
    have hu : (T.tup us).dat 60 = true := hq.2
    refine ⟨t.pd, T.pds us, h1.dp zs hq.1, h2.dp zs hu, T.shaped hq.1 (by decide), T.shaped hu (by decide), ?_⟩
    rw [any_pd hq.1 hq.2]
    exact q _ (rt_bl _)
  · contradiction
theorem k_inTD (G : Gd E X) : CmpOk E X .In inTD := ⟨_, op_inDT G.hu, G.K ▸ lr_inTD⟩
end
end Sw
namespace Sw
open PySem PySem.Spec PyProof.Rows L2
open Classical
theorem W_bYes {st : Stt} {Φ : Bool → Stt → Prop} : W bYes st Φ = Φ true st := by unfold W; rfl
theorem Lw_lst {us : List T} {set : Ob → Stt} {Φ : List T → (Ob → Stt) → Prop} : Lw (some (.lst us, set)) Φ = Φ us set := rfl
theorem lstAt_fz {S : List Ob} {ts : List T} : lstAt S (.fz ts) = some ts := rfl
theorem lenO_fz {ts : List T} : lenO [.fz ts] = some (.int ts.length) := rfl
theorem lenO_str {s : List Nat} : lenO [.str s] = if s.length ≤ 1000000 then some (.int s.length) else none := rfl
theorem isiO_v {t : T} {c : String} : isiO [t, .ty c] = match t.tyOf with | some n => (kitB n c).map .bl | none => none := rfl
/-! ### the pot of a law -/
def PotO (ob : Ob) : Prop := ∃ (cs : List Int) (at_ rest : Int), ob = .lst [.fz (cs.map .int), .int at_, .int rest] ∧ 0 ≤ at_ ∧ 0 ≤ rest
def IsPot (S : List Ob) (p : Nat) : Prop := ∃ ob, S[p]? = some ob ∧ PotO ob
/-- the pot alone has turned -/
def Pt (p : Nat) (S S' : List Ob) : Prop := IsPot S' p ∧ S'.length = S.length ∧ ∀ q, q ≠ p → S'[q]? = S[q]?
theorem Pt.refl {p : Nat} {S : List Ob} (h : IsPot S p) : Pt p S S := ⟨h, rfl, fun _ _ => rfl⟩
theorem Pt.trans {p : Nat} {S S1 S2 : List Ob} (h : Pt p S S1) (k : Pt p S1 S2) : Pt p S S2 := ⟨k.1, k.2.1.trans h.2.1, fun q hq => (k.2.2 q hq).trans (h.2.2 q hq)⟩
theorem IsPot.lt {p : Nat} {S : List Ob} (h : IsPot S p) : p < S.length := by
  obtain ⟨ob, e, _⟩ := h
  exact (List.getElem?_eq_some_iff.mp e).1
theorem Pt.set {p : Nat} {S : List Ob} {ob : Ob} (h : IsPot S p) (k : PotO ob) : Pt p S (S.set p ob) := by
  refine ⟨⟨ob, ?_, k⟩, List.length_set, fun q hq => List.getElem?_set_ne (fun e => hq e.symm)⟩
  rw [List.getElem?_set_self h.lt]
/-- a name set by what leaves the rest as it is -/
theorem W_let {i : Nat} {m : M T} {rest : Cmd} {st : Stt} {Φ : Fl → Stt → Prop} (P : T → Prop) (h : W m st (fun t st1 => st1 = st ∧ P t)) (k : ∀ t, P t → W rest { st with σ := st.σ.set i (.val t) } Φ) : W (cSeq (cSet i m) rest) st Φ := by
  rw [W_cSeq, W_cSet]
  refine h.mono fun t st1 q => ?_
  obtain ⟨rfl, q⟩ := q
  exact k t q
theorem W_seq {a b : Cmd} {st : Stt} {Φ : Fl → Stt → Prop} (P : Stt → Prop) (h : W a st (fun f st1 => f = .nxt ∧ P st1)) (k : ∀ st1, P st1 → W b st1 Φ) : W (cSeq a b) st Φ := by
  rw [W_cSeq]
  refine h.mono fun f st1 q => ?_
  obtain ⟨rfl, q⟩ := q
  exact k st1 q
theorem ixN_nat {n k : Nat} (h : k < n) : ixN n (k : Int) = some k := by
  unfold ixN
  rw [if_pos (by omega), if_pos (by omega)]
  simp
theorem atI_k {α : Type} {xs : List α} {k : Nat} : atI xs (k : Int) = xs[k]? := by
  unfold atI
  by_cases h : k < xs.length
  · rw [ixN_nat h]; rfl
  · unfold ixN
    rw [if_pos (by omega), if_neg (by omega)]
    simp only [Option.bind_none]
    rw [List.getElem?_eq_none (by omega)]
theorem ix_n {ts : List T} {k : Nat} : ixU (.fz ts) (.int (k : Int)) = ts[k]? := atI_k
theorem ix_0 {ts : List T} : ixU (.fz ts) (.int 0) = ts[0]? := atI_k (k := 0)
theorem ix_1 {ts : List T} : ixU (.fz ts) (.int 1) = ts[1]? := atI_k (k := 1)
theorem ix_2 {ts : List T} : ixU (.fz ts) (.int 2) = ts[2]? := atI_k (k := 2)
theorem ix_t0 {ts : List T} : ixU (.tup ts) (.int 0) = ts[0]? := atI_k (k := 0)
theorem ix_t1 {ts : List T} : ixU (.tup ts) (.int 1) = ts[1]? := atI_k (k := 1)
theorem ix_t2 {ts : List T} : ixU (.tup ts) (.int 2) = ts[2]? := atI_k (k := 2)
theorem ix_i {ts : List T} {i : Int} (h : 0 ≤ i) : ixU (.fz ts) (.int i) = ts[i.toNat]? := by
  have := @ix_n ts i.toNat
  rw [Int.toNat_of_nonneg h] at this
  exact this
theorem set_i {ts : List T} {i : Int} {t : T} (h : 0 ≤ i) (h2 : i < ts.length) : setF (.lst ts) (.int i) t = some (.lst (ts.set i.toNat t)) := by
  unfold setF
  have := @ixN_nat ts.length i.toNat (by omega)
  rw [Int.toNat_of_nonneg h] at this
  simp only [this, Option.map_some]
theorem set_1 {a b c t : T} : setF (.lst [a, b, c]) (.int 1) t = some (.lst [a, t, c]) := rfl
theorem set_2 {a b c t : T} : setF (.lst [a, b, c]) (.int 2) t = some (.lst [a, b, t]) := rfl
theorem dats_all {n : Nat} : ∀ {ts : List T}, (∀ t ∈ ts, t.dat n = true) → T.dats n ts = true
  | [], _ => rfl
  | t :: ts, h => by
    show (t.dat n && T.dats n ts) = true
    rw [h t List.mem_cons_self, dats_all fun u hu => h u (List.mem_cons_of_mem _ hu)]
    rfl
theorem dat_fz {n : Nat} {ts : List T} (h : ∀ t ∈ ts, t.dat n = true) : (T.fz ts).dat (n + 1) = true := dats_all h
theorem dat_int {n : Nat} {i : Int} : (T.int i).dat n = true := by cases n <;> rfl
theorem dat_str {n : Nat} {s : List Nat} (h : s.all (· < 0x110000) = true) : (T.str s).dat n = true := by cases n <;> exact h
theorem eqvs_nil {ts : List T} : T.eqvs ts [] = ts.isEmpty := by cases ts <;> rfl
theorem dat_nil {n : Nat} : (T.fz []).dat (n + 1) = true := rfl
theorem eq_nil {ts : List T} (h : (T.fz ts).dat 60 = true) : eqT (.fz ts) (.fz []) = some (.bl ts.isEmpty) := by
  unfold eqT eqO
  rw [h]
  simp only [dat_nil, Bool.and_self, if_true, Option.map_some, T.eqv, eqvs_nil]
theorem ne_nil {ts : List T} (h : (T.fz ts).dat 60 = true) : neT (.fz ts) (.fz []) = some (.bl (!ts.isEmpty)) := by
  unfold neT neO
  rw [h]
  simp only [dat_nil, Bool.and_self, if_true, Option.map_some, T.eqv, eqvs_nil]
theorem dat_ints {n : Nat} {cs : List Int} : (T.fz (cs.map .int)).dat (n + 1) = true := dat_fz fun t h => by
  obtain ⟨i, _, rfl⟩ := List.mem_map.mp h
  exact dat_int
theorem eqvs_str : ∀ {a b : List (List Nat)}, T.eqvs (a.map .str) (b.map .str) = (a == b)
  | [], [] => rfl
  | [], _ :: _ => rfl
  | _ :: _, [] => rfl
  | x :: a, y :: b => by
    show (x == y && T.eqvs (a.map .str) (b.map .str)) = (x :: a == y :: b)
    rw [eqvs_str]
    rfl
theorem W_if {c : M Bool} {a e : Cmd} {st : Stt} {Φ : Fl → Stt → Prop} (b : Bool) (h : W c st (fun d st1 => d = b ∧ st1 = st)) (ht : b = true → W a st Φ) (hf : b = false → W e st Φ) : W (cIf c a e) st Φ := by
  rw [W_cIf]
  refine h.mono fun d st1 q => ?_
  obtain ⟨rfl, rfl⟩ := q
  cases d
  · exact hf rfl
  · exact ht rfl
theorem sIx_n {n d : Nat} {i : Int} (h : 0 ≤ i) : HT.sIx n d (some i) = min i.toNat n := by
  unfold HT.sIx
  simp only [h]
  split <;> omega
theorem cut_to {α : Type} {xs : List α} {i : Int} (h : 0 ≤ i) : cutL xs none (some i) = xs.take i.toNat := by
  unfold cutL
  rw [sIx_n h]
  show (xs.drop 0).take (min i.toNat xs.length - 0) = _
  rw [List.drop_zero, Nat.sub_zero, List.take_eq_take_iff]
  omega
theorem cut_from {α : Type} {xs : List α} {i : Int} (h : 0 ≤ i) : cutL xs (some i) none = xs.drop i.toNat := by
  unfold cutL
  rw [sIx_n h]
  show (xs.drop _).take (xs.length - _) = _
  by_cases hl : i.toNat ≤ xs.length
  · rw [Nat.min_eq_left hl, List.take_of_length_le (by simp)]
  · rw [List.drop_eq_nil_of_le (by omega), List.drop_eq_nil_of_le (by omega), List.take_nil]
theorem enum_get {ts : List T} {i : Nat} {t : T} (h : (enumT ts)[i]? = some t) : ∃ u, ts[i]? = some u ∧ t = .tup [.int (i : Nat), u] := by
  unfold enumT at h
  rw [List.getElem?_mapIdx] at h
  cases e : ts[i]? with
  | none => rw [e] at h; cases h
  | some u => rw [e] at h; cases h; exact ⟨u, rfl, rfl⟩
theorem asg_2 {i j : Nat} {t u : T} {σ : List Sl} : asgT (.tu [.nm i, .nm j]) (.tup [t, u]) σ = some ((σ.set i (.val t)).set j (.val u)) := rfl
theorem asg_n {i : Nat} {t : T} {σ : List Sl} : asgT (.nm i) t σ = some (σ.set i (.val t)) := rfl
theorem list_fz {ts : List T} : listO [.fz ts] = some ts := rfl
theorem turn_n {I : Stt → Prop} {Φ : Fl → Stt → Prop} {st : Stt} : turn I Φ .nxt st = I st := rfl
theorem turn_c {I : Stt → Prop} {Φ : Fl → Stt → Prop} {st : Stt} : turn I Φ .cnt st = I st := rfl
theorem turn_b {I : Stt → Prop} {Φ : Fl → Stt → Prop} {st : Stt} : turn I Φ .brk st = Φ .nxt st := rfl
theorem turn_r {I : Stt → Prop} {Φ : Fl → Stt → Prop} {st : Stt} {v : T} : turn I Φ (.ret v) st = Φ (.ret v) st := rfl
theorem Op_lcI {chk : Stt → Prop} {own : List Nat} {tg : Tg} {test : M Bool} {elt : M T} {ts : List T} {st : Stt} {Φ : List T × Stt → Prop} (I : Nat → List T → Stt → Prop) (h0 : I 0 [] st)
    (hs : ∀ i t done st, ts[i]? = some t → I i done st → chk st ∧ Op (asgT tg t st.σ) (fun σ' => W test { st with σ := σ' } (fun b st1 => if b = true then W elt st1 (fun y st2 => I (i + 1) (done ++ [y]) { st2 with σ := wipeS st2.σ own })
      else I (i + 1) done { st1 with σ := wipeS st1.σ own }))) (he : ∀ done st, I ts.length done st → chk st) (k : ∀ ys st', I ts.length ys st' → Φ (ys, st')) : Op (lcL chk own tg test elt ts st) Φ := by
  obtain ⟨ys, st', e, h⟩ := lcL_inv I ts 0 [] st h0 (fun i t done st e h => by
    rw [Nat.zero_add] at h ⊢
    exact hs i t done st e h) (fun done st h => he done st (by rw [Nat.zero_add] at h; exact h))
  rw [Nat.zero_add, List.nil_append] at h
  exact .of e (k ys st' h)
theorem Op_lcP {chk : Stt → Prop} {own : List Nat} {tg : Tg} {test : M Bool} {elt : M T} {ts : List T} {st : Stt} {Φ : List T × Stt → Prop} (p : T → Bool) (f : T → T) (hc : chk st)
    (h : ∀ t ∈ ts, Op (asgT tg t st.σ) (fun σ' => wipeS σ' own = st.σ ∧ W test { st with σ := σ' } (fun b st1 => b = p t ∧ st1 = { st with σ := σ' }) ∧ (p t = true → W elt { st with σ := σ' } (fun y st1 => y = f t ∧ st1 = { st with σ := σ' })))) (k : Φ ((ts.filter p).map f, st)) : Op (lcL chk own tg test elt ts st) Φ :=
  .of (lcL_pure p f hc ts h) k
theorem range_get {n i : Nat} {t : T} (h : ((List.range n).map fun k : Nat => T.int (k : Int))[i]? = some t) : i < n ∧ t = .int (i : Nat) := by
  rw [List.getElem?_map] at h
  obtain ⟨k, hk, rfl⟩ := Option.map_eq_some_iff.mp h
  obtain ⟨hl, hk⟩ := List.getElem?_eq_some_iff.mp hk
  rw [List.getElem_range] at hk
  subst hk
  exact ⟨by simpa using hl, rfl⟩
theorem wipe_1 {σ : List Sl} {v : Nat} : wipeS σ [v] = σ.set v .emp := rfl
theorem wipe_2 {σ : List Sl} {v w : Nat} : wipeS σ [v, w] = (σ.set w .emp).set v .emp := rfl
theorem rest_1 {σ0 σ : List Sl} {v : Nat} : restS σ0 σ [v] = σ.set v (σ0[v]?.getD .emp) := rfl
theorem rest_2 {σ0 σ : List Sl} {v w : Nat} : restS σ0 σ [v, w] = (σ.set w (σ0[w]?.getD .emp)).set v (σ0[v]?.getD .emp) := rfl
theorem insert_i {us : List T} {i : Int} {t : T} (h : 0 ≤ i) (h2 : i ≤ 1000000) (h3 : us.length ≤ 1000000) : insertF us [.int i, t] = some (us.take i.toNat ++ [t] ++ us.drop i.toNat, .non) := by
  unfold insertF
  simp only [h, h2, h3, and_self, if_true]
theorem add_s {x y : List Nat} (h : x.length + y.length ≤ 1000000) : addU (.str x) (.str y) = some (.str (x ++ y)) := by
  unfold addU
  simp only [h, if_true]
theorem append_i {us : List T} {t : T} (h : us.length ≤ 1000000) : appendF us [t] = some (us ++ [t], .non) := by
  unfold appendF
  simp only [h, if_true]
theorem strsO_map : ∀ {zs : List (List Nat)}, strsOf (zs.map .str) = some zs
  | [] => rfl
  | z :: zs => by
    show (strsOf (zs.map .str)).map (z :: ·) = _
    rw [strsO_map]
    rfl
theorem joinL_nil : ∀ {zs : List (List Nat)}, TL.joinL [] zs = zs.flatten
  | [] => rfl
  | [p] => by simp [TL.joinL]
  | p :: q :: r => by
    show p ++ ([] ++ TL.joinL [] (q :: r)) = _
    rw [joinL_nil]
    rfl
theorem W_seq_r {a b : Cmd} {st : Stt} {Φ : Fl → Stt → Prop} (P : Stt → Prop) (h : W a st (fun f st1 => match f with | .nxt => P st1 | f => Φ f st1)) (k : ∀ st1, P st1 → W b st1 Φ) : W (cSeq a b) st Φ := by
  rw [W_cSeq]
  refine h.mono fun f st1 q => ?_
  cases f with
  | nxt => exact k st1 q
  | _ => exact q
theorem add_i {i j : Int} : addU (.int i) (.int j) = some (.int (i + j)) := rfl
theorem sub_i {i j : Int} : subO (.int i) (.int j) = some (.int (i - j)) := rfl
theorem mul_r {i j : Int} (h1 : -(2 ^ 64) < j) (h2 : j < 2 ^ 64) : mulU (.int i) (.int j) = some (.int (i * j)) := by
  have : mulC i j = true := by unfold mulC; simp only [Bool.or_eq_true, decide_eq_true_eq]; exact .inr ⟨h1, h2⟩
  simp [mulU, mulO, iiO, this]
theorem mul_l {i j : Int} (h1 : -(2 ^ 64) < i) (h2 : i < 2 ^ 64) : mulU (.int i) (.int j) = some (.int (i * j)) := by
  have : mulC i j = true := by unfold mulC; simp only [Bool.or_eq_true, decide_eq_true_eq]; exact .inl ⟨h1, h2⟩
  simp [mulU, mulO, iiO, this]
theorem mod_i {i j : Int} (h : 0 < j) : modO (.int i) (.int j) = some (.int (i % j)) := by
  simp [modO, iiO, modC, h]
theorem div_i {i j : Int} (h : 0 < j) (h2 : j ≤ 100000) : divO (.int i) (.int j) = some (.int (i / j)) := by
  have h3 : j.natAbs < 2 ^ 17 := by omega
  have : j.natAbs.log2 < 9000 := (Nat.log2_lt (by omega)).mpr (Nat.lt_of_lt_of_le h3 (Nat.pow_le_pow_right (by decide) (by decide)))
  simp [divO, iiO, divC, h, this]
theorem lt_i {i j : Int} : ltO (.int i) (.int j) = some (.bl (decide (i < j))) := rfl
theorem le_i {i j : Int} : leO (.int i) (.int j) = some (.bl (decide (i ≤ j))) := rfl
theorem gt_i {i j : Int} : gtO (.int i) (.int j) = some (.bl (decide (j < i))) := rfl
theorem ge_i {i j : Int} : geO (.int i) (.int j) = some (.bl (decide (j ≤ i))) := rfl
theorem eq_i {i j : Int} : eqT (.int i) (.int j) = some (.bl (i == j)) := by
  unfold eqT eqO
  simp only [T.dat, Bool.and_self, if_true, Option.map_some, T.eqv]
theorem ne_i {i j : Int} : neT (.int i) (.int j) = some (.bl (!(i == j))) := by
  unfold neT neO
  simp only [T.dat, Bool.and_self, if_true, Option.map_some, T.eqv]
theorem p1018 : powO (.int 10) (.int 18) = some (.int 1000000000000000000) := rfl
theorem p1017 : powO (.int 10) (.int 17) = some (.int 100000000000000000) := rfl
end Sw
set_option maxHeartbeats 4000000
namespace Lw
open PySem PySem.Spec PyProof.Rows L2 Sw
open Classical
def c_LETTERS : T := (.str [97, 98, 99, 100, 101, 102, 103, 104, 105, 106, 107, 108, 109, 110, 111, 112, 113, 114, 115, 116, 117, 118, 119, 120, 121, 122])
def c_NONE : T := .tup [(.str [110, 111, 110, 101])]
def c_NOT : T := .tup [(.str [110, 111, 116])]
noncomputable def b_is_whole : Cmd :=
    (cRet (eAnd (eCall isiO (oCons (oVar 0) (oCons (oE (pure (.ty "int"))) oNil))) (eNot (eCall isiO (oCons (oVar 0) (oCons (oE (pure (.ty "bool"))) oNil))))))
noncomputable def m_is_whole : FnM := fnM 1 b_is_whole
noncomputable def b_is_in : Cmd :=
    (cRet (eAnd (eFn m_is_whole (aCons (eVar 0) aNil)) (eChain leO leO (oVar 1) (oVar 0) (oVar 2))))
noncomputable def m_is_in : FnM := fnM 3 b_is_in
noncomputable def b_is_name : Cmd :=
    (cRet (eAnd (eCall isiO (oCons (oVar 0) (oCons (oE (pure (.ty "str"))) oNil))) (eAnd (eChain leO leO (oE (pure (.int 1))) (oE (eCall lenO (oCons (oVar 0) oNil))) (oE (pure (.int 8)))) (eCall allO (oCons (oE (eFz (fComp (iU (eVar 0)) [1] (.nm 1) bYes (eOp2 inU (oVar 1) (oE (pure c_LETTERS)))))) oNil)))))
noncomputable def m_is_name : FnM := fnM 2 b_is_name
noncomputable def b_is_plain : Cmd :=
    (cSeq (cIf (bOr (bNot (asB (eCall isiO (oCons (oVar 0) (oCons (oE (pure (.ty "tuple"))) oNil))))) (asB (eOp2 ninU (oE (eCall lenO (oCons (oVar 0) oNil))) (oE (eTup (aCons (pure (.int 1)) (aCons (pure (.int 2)) aNil))))))) (cRet (pure (.bl false))) (pure .nxt))
    (cSeq (cIf (asB (eOp2 eqT (oE (eCall lenO (oCons (oVar 0) oNil))) (oE (pure (.int 1))))) (cRet (eOr (eOp2 eqT (oVar 0) (oE (pure c_NONE))) (eOp2 eqT (oVar 0) (oE (pure c_NOT))))) (pure .nxt))
    (cSeq (cUnp (.tu [(.nm 1), (.nm 2)]) (eVar 0))
    (cSeq (cIf (asB (eOp2 eqT (oVar 1) (oE (pure (.str [116, 114, 117, 116, 104]))))) (cRet (eCall isiO (oCons (oVar 2) (oCons (oE (pure (.ty "bool"))) oNil)))) (pure .nxt))
    (cSeq (cIf (asB (eOp2 eqT (oVar 1) (oE (pure (.str [110, 117, 109, 98, 101, 114]))))) (cRet (eFn m_is_in (aCons (eVar 2) (aCons (eOp2 subO (oE (pure (.int 0))) (oE (pure (.int 1000000000)))) (aCons (pure (.int 1000000000)) aNil))))) (pure .nxt))
    (cRet (eAnd (eOp2 eqT (oVar 1) (oE (pure (.str [116, 101, 120, 116])))) (eAnd (eCall isiO (oCons (oVar 2) (oCons (oE (pure (.ty "str"))) oNil))) (eOp2 leO (oE (eCall lenO (oCons (oVar 2) oNil))) (oE (pure (.int 20))))))))))))
noncomputable def m_is_plain : FnM := fnM 3 b_is_plain
noncomputable def b_is_bound (m_is_bound m_is_worth : FnM) : Cmd :=
    (cSeq (cIf (bOr (asB (eOp2 neT (oE (eCall lenO (oCons (oVar 0) oNil))) (oE (pure (.int 4))))) (bOr (asB (eOp2 neT (oE (eOp2 ixU (oVar 0) (oE (pure (.int 0))))) (oE (pure (.str [98, 111, 117, 110, 100]))))) (bOr (bNot (asB (eFn m_is_name (aCons (eOp2 ixU (oVar 0) (oE (pure (.int 1)))) aNil)))) (bNot (asB (eFn m_is_name (aCons (eOp2 ixU (oVar 0) (oE (pure (.int 2)))) aNil))))))) (cRet (pure (.bl false))) (pure .nxt))
    (cRet (eAnd (eFn m_is_worth (aCons (eOp2 ixU (oVar 0) (oE (pure (.int 3)))) aNil)) (eOp2 neT (oE (eOp2 ixU (oE (eOp2 ixU (oVar 0) (oE (pure (.int 3))))) (oE (pure (.int 0))))) (oE (pure (.str [98, 111, 117, 110, 100])))))))
noncomputable def b_is_worth (m_is_bound m_is_worth : FnM) : Cmd :=
    (cSeq (cIf (bOr (bNot (asB (eCall isiO (oCons (oVar 0) (oCons (oE (pure (.ty "tuple"))) oNil))))) (asB (eOp2 eqT (oE (eCall lenO (oCons (oVar 0) oNil))) (oE (pure (.int 0)))))) (cRet (pure (.bl false))) (pure .nxt))
    (cSeq (cIf (bOr (asB (eFn m_is_plain (aCons (eVar 0) aNil))) (asB (eFn m_is_bound (aCons (eVar 0) aNil)))) (cRet (pure (.bl true))) (pure .nxt))
    (cSeq (cIf (bAnd (asB (eOp2 eqT (oE (eCall lenO (oCons (oVar 0) oNil))) (oE (pure (.int 2))))) (asB (eOp2 inTD (oE (eOp2 ixU (oVar 0) (oE (pure (.int 0))))) (oE (eTup (aCons (pure (.str [107, 105, 110, 100])) (aCons (pure (.str [100, 101, 101, 100])) aNil))))))) (cRet (eFn m_is_name (aCons (eOp2 ixU (oVar 0) (oE (pure (.int 1)))) aNil))) (pure .nxt))
    (cSeq (cIf (bAnd (asB (eOp2 eqT (oE (eCall lenO (oCons (oVar 0) oNil))) (oE (pure (.int 2))))) (asB (eOp2 eqT (oE (eOp2 ixU (oVar 0) (oE (pure (.int 0))))) (oE (pure (.str [116, 104, 105, 110, 103])))))) (cRet (eAnd (eFn m_is_whole (aCons (eOp2 ixU (oVar 0) (oE (pure (.int 1)))) aNil)) (eOp2 geO (oE (eOp2 ixU (oVar 0) (oE (pure (.int 1))))) (oE (pure (.int 0)))))) (pure .nxt))
    (cSeq (cIf (bOr (asB (eOp2 neT (oE (eCall lenO (oCons (oVar 0) oNil))) (oE (pure (.int 3))))) (asB (eOp2 neT (oE (eOp2 ixU (oVar 0) (oE (pure (.int 0))))) (oE (pure (.str [103, 97, 116, 101])))))) (cRet (pure (.bl false))) (pure .nxt))
    (cRet (eAnd (eFn m_is_name (aCons (eOp2 ixU (oVar 0) (oE (pure (.int 1)))) aNil)) (eOr (eOp2 isNO (oE (eOp2 ixU (oVar 0) (oE (pure (.int 2))))) (oE (pure .non))) (eFn m_is_name (aCons (eOp2 ixU (oVar 0) (oE (pure (.int 2)))) aNil))))))))))
mutual
noncomputable def m_is_bound : Nat → FnM
  | 0 => fun _ _ => none
  | d + 1 => fnM 1 (b_is_bound (m_is_bound d) (m_is_worth d))
noncomputable def m_is_worth : Nat → FnM
  | 0 => fun _ _ => none
  | d + 1 => fnM 1 (b_is_worth (m_is_bound d) (m_is_worth d))
end
noncomputable def b__law_blend : Cmd :=
    (cSeq (cIf (asB (eOp2 geO (oVar 0) (oE (eOp2 powO (oE (pure (.int 10))) (oE (pure (.int 18))))))) (cRet (eVar 0)) (pure .nxt))
    (cSeq (cSet 2 (eOp2 modO (oE (eOp2 addU (oE (eOp2 addU (oE (eOp2 mulU (oE (eOp2 modO (oVar 0) (oE (pure (.int 998244353))))) (oE (pure (.int 40692))))) (oE (eOp2 mulU (oVar 1) (oE (pure (.int 69621))))))) (oE (pure (.int 1009))))) (oE (pure (.int 2147483399)))))
    (cSeq (cSet 3 (eOp2 modO (oE (eOp2 addU (oE (eOp2 addU (oE (eOp2 mulU (oVar 2) (oVar 2))) (oE (eOp2 mulU (oVar 1) (oE (pure (.int 48271))))))) (oE (eOp2 modO (oVar 0) (oE (pure (.int 131071))))))) (oE (pure (.int 2147483647)))))
    (cSeq (cSet 4 (eOp2 modO (oE (eOp2 addU (oE (eOp2 addU (oE (eOp2 mulU (oVar 3) (oVar 3))) (oE (eOp2 mulU (oVar 2) (oE (pure (.int 17))))))) (oE (pure (.int 3))))) (oE (pure (.int 2147483629)))))
    (cRet (eOp2 addU (oE (eOp2 mulU (oE (eOp2 addU (oE (eOp2 mulU (oVar 2) (oE (pure (.int 2147483647))))) (oVar 3))) (oE (pure (.int 2147483629))))) (oVar 4)))))))
noncomputable def m__law_blend : FnM := fnM 5 b__law_blend
noncomputable def b__law_pot : Cmd :=
    (cSeq (cOwn 1 (fCall listO (oCons (oE (eSliceU (oVar 0) pNo (pSome (pure (.int 12))))) oNil)))
    (cSeq (cFor (iEnumX (aCons (eSliceU (oVar 0) (pSome (pure (.int 12))) (pSome (pure (.int 63)))) aNil)) (.tu [(.nm 2), (.nm 3)]) (cSetIx (mVar 1) (eOp2 modO (oVar 2) (oE (pure (.int 12)))) (eOp2 addU (oE (eOp2 ixU (oVar 1) (oE (eOp2 modO (oVar 2) (oE (pure (.int 12))))))) (oVar 3))))
    (cRet (eBox (fLst (aCons (eFrz 1) (aCons (pure (.int 0)) (aCons (pure (.int 0)) aNil))))))))
noncomputable def m__law_pot : FnM := fnM 4 b__law_pot
noncomputable def b__law_pick : Cmd :=
    (cSeq (cIf (asB (eOp2 ltO (oE (eOp2 ixU (oVar 0) (oE (pure (.int 2))))) (oVar 1))) (cSeq (cSet 2 (eOp2 ixU (oVar 0) (oE (pure (.int 1)))))
    (cSeq (cSet 3 (eOp2 mulU (oE (pure (.int 11))) (oVar 2)))
    (cSeq (cIf (asB (eOp2 ltO (oVar 2) (oE (eCall lenO (oCons (oE (eOp2 ixU (oVar 0) (oE (pure (.int 0))))) oNil))))) (cSet 3 (eOp2 ixU (oE (eOp2 ixU (oVar 0) (oE (pure (.int 0))))) (oVar 2))) (cIf (asB (eOp2 neT (oE (eOp2 ixU (oVar 0) (oE (pure (.int 0))))) (oE (eFz (fLst aNil))))) (cSet 3 (eOp2 modO (oE (eOp2 ixU (oE (eOp2 ixU (oVar 0) (oE (pure (.int 0))))) (oE (eOp2 modO (oE (eOp2 addU (oE (eOp2 mulU (oVar 2) (oE (pure (.int 7))))) (oE (pure (.int 1))))) (oE (eCall lenO (oCons (oE (eOp2 ixU (oVar 0) (oE (pure (.int 0))))) oNil))))))) (oE (eOp2 addU (oE (eOp2 powO (oE (pure (.int 10))) (oE (pure (.int 17))))) (oE (eOp2 mulU (oE (pure (.int 3))) (oVar 2))))))) (pure .nxt)))
    (cSeq (cSetIx (mVar 0) (pure (.int 1)) (eOp2 addU (oVar 2) (oE (pure (.int 1)))))
    (cSetIx (mVar 0) (pure (.int 2)) (eFn m__law_blend (aCons (eVar 3) (aCons (eVar 2) aNil)))))))) (pure .nxt))
    (cSeq (cSet 4 (eOp2 modO (oE (eOp2 ixU (oVar 0) (oE (pure (.int 2))))) (oVar 1)))
    (cSeq (cSetIx (mVar 0) (pure (.int 2)) (eOp2 divO (oE (eOp2 ixU (oVar 0) (oE (pure (.int 2))))) (oVar 1)))
    (cRet (eVar 4)))))
noncomputable def m__law_pick : FnM := fnM 5 b__law_pick
noncomputable def b__law_same (m__law_same : FnM) : Cmd :=
    (cSeq (cIf (bOr (asB (eOp2 isNO (oVar 1) (oE (pure .non)))) (asB (eCall isiO (oCons (oVar 1) (oCons (oE (pure (.ty "bool"))) oNil))))) (cRet (eAnd (eOp2 eqT (oE (eCall isiO (oCons (oVar 0) (oCons (oE (pure (.ty "bool"))) oNil)))) (oE (eCall isiO (oCons (oVar 1) (oCons (oE (pure (.ty "bool"))) oNil))))) (eOp2 eqT (oVar 0) (oVar 1)))) (pure .nxt))
    (cSeq (cIf (asB (eCall isiO (oCons (oVar 1) (oCons (oE (pure (.ty "str"))) oNil)))) (cRet (eAnd (eCall isiO (oCons (oVar 0) (oCons (oE (pure (.ty "str"))) oNil))) (eOp2 eqT (oVar 0) (oVar 1)))) (pure .nxt))
    (cSeq (cIf (asB (eCall isiO (oCons (oVar 1) (oCons (oE (pure (.ty "int"))) oNil)))) (cRet (eAnd (eCall isiO (oCons (oVar 0) (oCons (oE (pure (.ty "int"))) oNil))) (eAnd (eNot (eCall isiO (oCons (oVar 0) (oCons (oE (pure (.ty "bool"))) oNil)))) (eOp2 eqT (oVar 0) (oVar 1))))) (pure .nxt))
    (cSeq (cIf (bOr (asB (eOp2 neT (oE (eCall isiO (oCons (oVar 1) (oCons (oE (pure (.ty "tuple"))) oNil)))) (oE (eCall isiO (oCons (oVar 0) (oCons (oE (pure (.ty "tuple"))) oNil)))))) (asB (eOp2 neT (oE (eCall isiO (oCons (oVar 1) (oCons (oE (pure (.ty "list"))) oNil)))) (oE (eCall isiO (oCons (oVar 0) (oCons (oE (pure (.ty "list"))) oNil))))))) (cRet (pure (.bl false))) (pure .nxt))
    (cRet (eAnd (eOp2 eqT (oE (eCall lenO (oCons (oVar 0) oNil))) (oE (eCall lenO (oCons (oVar 1) oNil)))) (eCall allO (oCons (oE (eFz (fComp (iZipU (aCons (eVar 0) (aCons (eVar 1) aNil))) [2, 3] (.tu [(.nm 2), (.nm 3)]) bYes (eFn m__law_same (aCons (eVar 2) (aCons (eVar 3) aNil)))))) oNil))))))))
noncomputable def m__law_same : Nat → FnM
  | 0 => fun _ _ => none
  | d + 1 => fnM 4 (b__law_same (m__law_same d))
noncomputable def b__law_order : Cmd :=
    (cSeq (cOwn 2 (fLst aNil))
    (cSeq (cFor (iRange (aCons (eVar 1) aNil)) (.nm 3) (cExpr (eLst insertF (mVar 2) (aCons (eFn m__law_pick (aCons (eVar 0) (aCons (eOp2 addU (oVar 3) (oE (pure (.int 1)))) aNil))) (aCons (eVar 3) aNil)))))
    (cRet (eFrz 2))))
noncomputable def m__law_order : FnM := fnM 4 b__law_order
noncomputable def b__law_letters : Cmd :=
    (cSeq (cSet 2 (pure (.str [97, 98, 99, 100, 101, 102, 103, 104, 105, 106, 107, 108, 109, 110, 111, 112, 113, 114, 115, 116, 117, 118, 119, 120, 121, 122])))
    (cSeq (cSet 3 (eMeth "str" joinF (oE (pure (.str []))) (aCons (eFz (fComp (iRange (aCons (pure (.int 7)) aNil)) [4] (.nm 4) bYes (eOp2 ixU (oVar 2) (oE (eFn m__law_pick (aCons (eVar 0) (aCons (pure (.int 26)) aNil))))))) aNil)))
    (cSeq (cSet 5 (eFn m__law_pick (aCons (eVar 0) (aCons (pure (.int 3)) aNil))))
    (cSeq (cSet 6 (eFn m__law_pick (aCons (eVar 0) (aCons (pure (.int 26)) aNil))))
    (cSeq (cSet 7 (eFn m__law_pick (aCons (eVar 0) (aCons (pure (.int 8)) aNil))))
    (cSeq (cOwn 8 (fLst aNil))
    (cSeq (cFor (iRange (aCons (eVar 1) aNil)) (.nm 4) (cSeq (cSet 9 (eSliceU (oVar 3) pNo (pSome (eOp2 modO (oE (eOp2 addU (oVar 7) (oE (eOp2 mulU (oVar 4) (oE (eOp2 modO (oVar 5) (oE (pure (.int 2))))))))) (oE (pure (.int 8)))))))
    (cSeq (cSet 10 (eOp2 ixU (oE (eFz (fLst (aCons (pure (.int 0)) (aCons (eCall lenO (oCons (oVar 9) oNil)) (aCons (eOp2 divO (oE (eCall lenO (oCons (oVar 9) oNil))) (oE (pure (.int 2)))) aNil)))))) (oVar 5)))
    (cExpr (eLst appendF (mVar 8) (aCons (eOp2 addU (oE (eOp2 addU (oE (eSliceU (oVar 9) pNo (pSome (eVar 10)))) (oE (eOp2 ixU (oVar 2) (oE (eOp2 modO (oE (eOp2 addU (oVar 6) (oE (eOp2 mulU (oE (pure (.int 5))) (oVar 4))))) (oE (pure (.int 26))))))))) (oE (eSliceU (oVar 9) (pSome (eVar 10)) pNo))) aNil))))))
    (cRet (eFrz 8)))))))))
noncomputable def m__law_letters : FnM := fnM 11 b__law_letters
noncomputable def b__law_names : Cmd :=
    (cSeq (cSet 2 (eFn m__law_pick (aCons (eVar 0) (aCons (pure (.int 4)) aNil))))
    (cSeq (cSet 3 (eFn m__law_pick (aCons (eVar 0) (aCons (pure (.int 26)) aNil))))
    (cSeq (cSet 4 (pure (.str [97, 98, 99, 100, 101, 102, 103, 104, 105, 106, 107, 108, 109, 110, 111, 112, 113, 114, 115, 116, 117, 118, 119, 120, 121, 122])))
    (cSeq (cIf (asB (eOp2 eqT (oVar 2) (oE (pure (.int 3))))) (cSet 5 (eFz (fComp (iRange (aCons (eVar 1) aNil)) [6] (.nm 6) bYes (eOp2 mulU (oE (eOp2 ixU (oVar 4) (oE (eOp2 modO (oE (eOp2 addU (oVar 3) (oE (eOp2 divO (oVar 6) (oE (pure (.int 8))))))) (oE (pure (.int 26))))))) (oE (eOp2 addU (oE (pure (.int 1))) (oE (eOp2 modO (oVar 6) (oE (pure (.int 8))))))))))) (cSet 5 (eFn m__law_letters (aCons (eVar 0) (aCons (eVar 1) aNil)))))
    (cRet (eFz (fComp (iU (eFn m__law_order (aCons (eVar 0) (aCons (eVar 1) aNil)))) [6] (.nm 6) bYes (eOp2 ixU (oVar 5) (oVar 6)))))))))
noncomputable def m__law_names : FnM := fnM 7 b__law_names
noncomputable def b__law_text : Cmd :=
    (cSeq (cSet 2 (pure (.str [32, 33, 34, 35, 36, 38, 39, 40, 41, 42, 43, 44, 45, 46, 47, 48, 49, 50, 51, 52, 53, 54, 55, 56, 57, 58, 59, 60, 61, 62, 63, 64, 65, 66, 67, 68, 69, 70, 71, 72, 73, 74, 75, 76, 77, 78, 79, 80, 81, 82, 83, 84, 85, 86, 87, 88, 89, 90, 91, 92, 93, 94, 95, 96, 97, 98, 99, 100, 101, 102, 103, 104, 105, 106, 107, 108, 109, 110, 111, 112, 113, 114, 115, 116, 117, 118, 119, 120, 121, 122, 123, 124, 125, 126, 10, 9])))
    (cRet (eMeth "str" joinF (oE (pure (.str []))) (aCons (eFz (fComp (iRange (aCons (eFn m__law_pick (aCons (eVar 0) (aCons (eOp2 addU (oVar 1) (oE (pure (.int 1)))) aNil))) aNil)) [3] (.nm 3) bYes (eOp2 ixU (oVar 2) (oE (eFn m__law_pick (aCons (eVar 0) (aCons (eCall lenO (oCons (oVar 2) oNil)) aNil))))))) aNil))))
noncomputable def m__law_text : FnM := fnM 4 b__law_text
noncomputable def b__law_plain_worth : Cmd :=
    (cSeq (cIf (asB (eOp2 eqT (oVar 1) (oE (pure (.int 0))))) (cRet (eOp2 ixU (oE (eFz (fLst (aCons (eTup (aCons (pure (.str [110, 111, 110, 101])) aNil)) (aCons (eTup (aCons (pure (.str [110, 111, 116])) aNil)) aNil))))) (oE (eFn m__law_pick (aCons (eVar 0) (aCons (pure (.int 2)) aNil)))))) (pure .nxt))
    (cSeq (cIf (asB (eOp2 eqT (oVar 1) (oE (pure (.int 1))))) (cRet (eTup (aCons (pure (.str [116, 114, 117, 116, 104])) (aCons (eOp2 eqT (oE (eFn m__law_pick (aCons (eVar 0) (aCons (pure (.int 2)) aNil)))) (oE (pure (.int 0)))) aNil)))) (pure .nxt))
    (cSeq (cIf (asB (eOp2 eqT (oVar 1) (oE (pure (.int 2))))) (cSeq (cSet 2 (eFz (fLst (aCons (pure (.int 0)) (aCons (pure (.int 1)) (aCons (eNeg (pure (.int 1))) (aCons (eOp2 powO (oE (pure (.int 10))) (oE (pure (.int 9)))) (aCons (eNeg (eOp2 powO (oE (pure (.int 10))) (oE (pure (.int 9))))) (aCons (eOp2 subO (oE (eFn m__law_pick (aCons (eVar 0) (aCons (eOp2 addU (oE (eOp2 mulU (oE (pure (.int 2))) (oE (eOp2 powO (oE (pure (.int 10))) (oE (pure (.int 9))))))) (oE (pure (.int 1)))) aNil)))) (oE (eOp2 powO (oE (pure (.int 10))) (oE (pure (.int 9)))))) aNil)))))))))
    (cRet (eTup (aCons (pure (.str [110, 117, 109, 98, 101, 114])) (aCons (eOp2 ixU (oVar 2) (oE (eFn m__law_pick (aCons (eVar 0) (aCons (pure (.int 6)) aNil))))) aNil))))) (pure .nxt))
    (cRet (eTup (aCons (pure (.str [116, 101, 120, 116])) (aCons (eOp2 ixU (oE (eFz (fLst (aCons (pure (.str [])) (aCons (eOp2 mulU (oE (pure (.str [120]))) (oE (pure (.int 20)))) (aCons (eFn m__law_text (aCons (eVar 0) (aCons (pure (.int 20)) aNil))) aNil)))))) (oE (eFn m__law_pick (aCons (eVar 0) (aCons (pure (.int 3)) aNil))))) aNil)))))))
noncomputable def m__law_plain_worth : FnM := fnM 3 b__law_plain_worth
noncomputable def b__law_worth (m__law_worth : FnM) : Cmd :=
    (cSeq (cSet 3 (eFn m__law_pick (aCons (eVar 0) (aCons (eOp2 addU (oE (pure (.int 8))) (oE (eCall intO (oCons (oVar 2) oNil)))) aNil))))
    (cSeq (cIf (asB (eOp2 ltO (oVar 3) (oE (pure (.int 4))))) (cRet (eFn m__law_plain_worth (aCons (eVar 0) (aCons (eVar 3) aNil)))) (pure .nxt))
    (cSeq (cSet 4 (eOp2 ixU (oVar 1) (oE (eFn m__law_pick (aCons (eVar 0) (aCons (eCall lenO (oCons (oVar 1) oNil)) aNil))))))
    (cSeq (cIf (asB (eOp2 ltO (oVar 3) (oE (pure (.int 6))))) (cRet (eTup (aCons (eOp2 ixU (oE (eFz (fLst (aCons (pure (.str [107, 105, 110, 100])) (aCons (pure (.str [100, 101, 101, 100])) aNil))))) (oE (eOp2 subO (oVar 3) (oE (pure (.int 4)))))) (aCons (eVar 4) aNil)))) (pure .nxt))
    (cSeq (cIf (asB (eOp2 eqT (oVar 3) (oE (pure (.int 6))))) (cRet (eTup (aCons (pure (.str [116, 104, 105, 110, 103])) (aCons (eOp2 ixU (oE (eFz (fLst (aCons (pure (.int 0)) (aCons (pure (.int 59)) (aCons (eFn m__law_pick (aCons (eVar 0) (aCons (pure (.int 60)) aNil))) (aCons (eFn m__law_pick (aCons (eVar 0) (aCons (eOp2 powO (oE (pure (.int 10))) (oE (pure (.int 30)))) aNil))) aNil))))))) (oE (eFn m__law_pick (aCons (eVar 0) (aCons (pure (.int 4)) aNil))))) aNil)))) (pure .nxt))
    (cSeq (cSet 5 (eOp2 ixU (oVar 1) (oE (eFn m__law_pick (aCons (eVar 0) (aCons (eCall lenO (oCons (oVar 1) oNil)) aNil))))))
    (cSeq (cIf (asB (eOp2 eqT (oVar 3) (oE (pure (.int 7))))) (cRet (eTup (aCons (pure (.str [103, 97, 116, 101])) (aCons (eVar 4) (aCons (eOp2 ixU (oE (eFz (fLst (aCons (pure .non) (aCons (eVar 5) aNil))))) (oE (eFn m__law_pick (aCons (eVar 0) (aCons (pure (.int 2)) aNil))))) aNil))))) (pure .nxt))
    (cRet (eTup (aCons (pure (.str [98, 111, 117, 110, 100])) (aCons (eVar 4) (aCons (eVar 5) (aCons (eFn m__law_worth (aCons (eVar 0) (aCons (eVar 1) (aCons (pure (.bl false)) aNil)))) aNil)))))))))))))
noncomputable def m__law_worth : Nat → FnM
  | 0 => fun _ _ => none
  | d + 1 => fnM 6 (b__law_worth (m__law_worth d))
noncomputable def b__law_is_name : Cmd :=
    (cSeq (cIf (bOr (bNot (asB (eCall isiO (oCons (oVar 0) (oCons (oE (pure (.ty "str"))) oNil))))) (bNot (asB (eChain ltO ltO (oE (pure (.int 0))) (oE (eCall lenO (oCons (oVar 0) oNil))) (oE (pure (.int 9))))))) (cRet (pure (.bl false))) (pure .nxt))
    (cRet (eOp2 eqT (oE (eFz (fComp (iU (eVar 0)) [1] (.nm 1) (asB (eOp2 ninU (oVar 1) (oE (pure (.str [97, 98, 99, 100, 101, 102, 103, 104, 105, 106, 107, 108, 109, 110, 111, 112, 113, 114, 115, 116, 117, 118, 119, 120, 121, 122]))))) (eVar 1)))) (oE (eFz (fLst aNil))))))
noncomputable def m__law_is_name : FnM := fnM 2 b__law_is_name
noncomputable def b__law_is_plain : Cmd :=
    (cSeq (cIf (bOr (bNot (asB (eCall isiO (oCons (oVar 0) (oCons (oE (pure (.ty "tuple"))) oNil))))) (bOr (asB (eOp2 ninU (oE (eCall lenO (oCons (oVar 0) oNil))) (oE (eTup (aCons (pure (.int 1)) (aCons (pure (.int 2)) aNil)))))) (bNot (asB (eCall isiO (oCons (oE (eOp2 ixU (oVar 0) (oE (pure (.int 0))))) (oCons (oE (pure (.ty "str"))) oNil))))))) (cRet (pure (.bl false))) (pure .nxt))
    (cSeq (cIf (asB (eOp2 eqT (oE (eCall lenO (oCons (oVar 0) oNil))) (oE (pure (.int 1))))) (cRet (eOp2 inTD (oE (eOp2 ixU (oVar 0) (oE (pure (.int 0))))) (oE (eTup (aCons (pure (.str [110, 111, 110, 101])) (aCons (pure (.str [110, 111, 116])) aNil)))))) (pure .nxt))
    (cSeq (cIf (asB (eOp2 eqT (oE (eOp2 ixU (oVar 0) (oE (pure (.int 0))))) (oE (pure (.str [116, 114, 117, 116, 104]))))) (cRet (eCall isiO (oCons (oE (eOp2 ixU (oVar 0) (oE (pure (.int 1))))) (oCons (oE (pure (.ty "bool"))) oNil)))) (pure .nxt))
    (cSeq (cIf (asB (eOp2 eqT (oE (eOp2 ixU (oVar 0) (oE (pure (.int 0))))) (oE (pure (.str [110, 117, 109, 98, 101, 114]))))) (cSeq (cSet 1 (eAnd (eCall isiO (oCons (oE (eOp2 ixU (oVar 0) (oE (pure (.int 1))))) (oCons (oE (pure (.ty "int"))) oNil))) (eNot (eCall isiO (oCons (oE (eOp2 ixU (oVar 0) (oE (pure (.int 1))))) (oCons (oE (pure (.ty "bool"))) oNil))))))
    (cRet (eAnd (eVar 1) (eChain leO leO (oE (eOp2 subO (oE (pure (.int 0))) (oE (eOp2 powO (oE (pure (.int 10))) (oE (pure (.int 9))))))) (oE (eOp2 ixU (oVar 0) (oE (pure (.int 1))))) (oE (eOp2 powO (oE (pure (.int 10))) (oE (pure (.int 9))))))))) (pure .nxt))
    (cRet (eAnd (eOp2 eqT (oE (eOp2 ixU (oVar 0) (oE (pure (.int 0))))) (oE (pure (.str [116, 101, 120, 116])))) (eAnd (eCall isiO (oCons (oE (eOp2 ixU (oVar 0) (oE (pure (.int 1))))) (oCons (oE (pure (.ty "str"))) oNil))) (eOp2 ltO (oE (eCall lenO (oCons (oE (eOp2 ixU (oVar 0) (oE (pure (.int 1))))) oNil))) (oE (pure (.int 21)))))))))))
noncomputable def m__law_is_plain : FnM := fnM 2 b__law_is_plain
noncomputable def b__law_is_worth (m__law_is_worth : FnM) : Cmd :=
    (cSeq (cIf (asB (eFn m__law_is_plain (aCons (eVar 0) aNil))) (cRet (pure (.bl true))) (pure .nxt))
    (cSeq (cIf (bOr (bNot (asB (eCall isiO (oCons (oVar 0) (oCons (oE (pure (.ty "tuple"))) oNil))))) (bOr (asB (eOp2 ltO (oE (eCall lenO (oCons (oVar 0) oNil))) (oE (pure (.int 2))))) (bNot (asB (eCall isiO (oCons (oE (eOp2 ixU (oVar 0) (oE (pure (.int 0))))) (oCons (oE (pure (.ty "str"))) oNil))))))) (cRet (pure (.bl false))) (pure .nxt))
    (cSeq (cIf (bAnd (asB (eOp2 eqT (oE (eCall lenO (oCons (oVar 0) oNil))) (oE (pure (.int 2))))) (asB (eOp2 inTD (oE (eOp2 ixU (oVar 0) (oE (pure (.int 0))))) (oE (eTup (aCons (pure (.str [107, 105, 110, 100])) (aCons (pure (.str [100, 101, 101, 100])) aNil))))))) (cRet (eFn m__law_is_name (aCons (eOp2 ixU (oVar 0) (oE (pure (.int 1)))) aNil))) (pure .nxt))
    (cSeq (cIf (bAnd (asB (eOp2 eqT (oE (eCall lenO (oCons (oVar 0) oNil))) (oE (pure (.int 2))))) (asB (eOp2 eqT (oE (eOp2 ixU (oVar 0) (oE (pure (.int 0))))) (oE (pure (.str [116, 104, 105, 110, 103])))))) (cRet (eAnd (eCall isiO (oCons (oE (eOp2 ixU (oVar 0) (oE (pure (.int 1))))) (oCons (oE (pure (.ty "int"))) oNil))) (eAnd (eNot (eCall isiO (oCons (oE (eOp2 ixU (oVar 0) (oE (pure (.int 1))))) (oCons (oE (pure (.ty "bool"))) oNil)))) (eOp2 geO (oE (eOp2 ixU (oVar 0) (oE (pure (.int 1))))) (oE (pure (.int 0))))))) (pure .nxt))
    (cSeq (cIf (bAnd (asB (eOp2 eqT (oE (eCall lenO (oCons (oVar 0) oNil))) (oE (pure (.int 3))))) (asB (eOp2 eqT (oE (eOp2 ixU (oVar 0) (oE (pure (.int 0))))) (oE (pure (.str [103, 97, 116, 101])))))) (cRet (eAnd (eFn m__law_is_name (aCons (eOp2 ixU (oVar 0) (oE (pure (.int 1)))) aNil)) (eOr (eOp2 isNO (oE (eOp2 ixU (oVar 0) (oE (pure (.int 2))))) (oE (pure .non))) (eFn m__law_is_name (aCons (eOp2 ixU (oVar 0) (oE (pure (.int 2)))) aNil))))) (pure .nxt))
    (cSeq (cIf (bOr (asB (eOp2 neT (oE (eCall lenO (oCons (oVar 0) oNil))) (oE (pure (.int 4))))) (bOr (asB (eOp2 neT (oE (eOp2 ixU (oVar 0) (oE (pure (.int 0))))) (oE (pure (.str [98, 111, 117, 110, 100]))))) (bOr (bNot (asB (eFn m__law_is_name (aCons (eOp2 ixU (oVar 0) (oE (pure (.int 1)))) aNil)))) (bNot (asB (eFn m__law_is_name (aCons (eOp2 ixU (oVar 0) (oE (pure (.int 2)))) aNil))))))) (cRet (pure (.bl false))) (pure .nxt))
    (cRet (eAnd (eFn m__law_is_worth (aCons (eOp2 ixU (oVar 0) (oE (pure (.int 3)))) aNil)) (eOp2 neT (oE (eOp2 ixU (oE (eOp2 ixU (oVar 0) (oE (pure (.int 3))))) (oE (pure (.int 0))))) (oE (pure (.str [98, 111, 117, 110, 100]))))))))))))
noncomputable def m__law_is_worth : Nat → FnM
  | 0 => fun _ _ => none
  | d + 1 => fnM 1 (b__law_is_worth (m__law_is_worth d))
noncomputable def b__law_bent : Cmd :=
    (cSeq (cSet 2 (eFn m__law_pick (aCons (eVar 0) (aCons (pure (.int 6)) aNil))))
    (cSeq (cSet 3 (eFn m__law_pick (aCons (eVar 0) (aCons (eCall lenO (oCons (oVar 1) oNil)) aNil))))
    (cSeq (cSet 4 (eFz (fLst (aCons (pure (.bl true)) (aCons (pure (.bl false)) (aCons (pure (.int 0)) (aCons (pure (.int 1)) (aCons (eNeg (pure (.int 1))) (aCons (pure .non) (aCons (pure (.str [])) (aCons (pure (.str [97])) (aCons (pure (.str [65])) (aCons (pure (.str [97, 98, 99, 100, 101, 102, 103, 104])) (aCons (pure (.str [97, 98, 99, 100, 101, 102, 103, 104, 105])) (aCons (pure (.str [97, 49])) (aCons (pure (.str [32, 97])) (aCons (eOp2 mulU (oE (pure (.str [120]))) (oE (pure (.int 21)))) (aCons (eOp2 addU (oE (eOp2 powO (oE (pure (.int 10))) (oE (pure (.int 9))))) (oE (pure (.int 1)))) aNil))))))))))))))))))
    (cSeq (cSet 4 (eOp2 addU (oVar 4) (oE (eFz (fLst (aCons (eOp2 subO (oE (eOp2 subO (oE (pure (.int 0))) (oE (eOp2 powO (oE (pure (.int 10))) (oE (pure (.int 9))))))) (oE (pure (.int 1)))) (aCons (eOp2 powO (oE (pure (.int 10))) (oE (pure (.int 30)))) (aCons (eTup aNil) (aCons (eTup (aCons (pure (.str [110, 111, 110, 101])) aNil)) (aCons (eFz (fLst aNil)) (aCons (eFz (fLst (aCons (pure (.str [97])) aNil))) (aCons (eTup (aCons (pure (.str [116, 101, 120, 116])) (aCons (pure (.str [97])) aNil))) (aCons (eTup (aCons (pure (.str [98, 111, 117, 110, 100])) (aCons (pure (.str [97])) (aCons (pure (.str [98])) (aCons (eTup (aCons (pure (.str [110, 111, 116])) aNil)) aNil))))) aNil)))))))))))))
    (cSeq (cIf (asB (eOp2 eqT (oVar 2) (oE (pure (.int 0))))) (cRet (eOp2 addU (oE (eSliceU (oVar 1) pNo (pSome (eVar 3)))) (oE (eSliceU (oVar 1) (pSome (eOp2 addU (oVar 3) (oE (pure (.int 1))))) pNo)))) (pure .nxt))
    (cSeq (cIf (asB (eOp2 eqT (oVar 2) (oE (pure (.int 1))))) (cRet (eOp2 addU (oE (eOp2 addU (oE (eSliceU (oVar 1) pNo (pSome (eVar 3)))) (oE (eTup (aCons (eOp2 ixU (oVar 4) (oE (eFn m__law_pick (aCons (eVar 0) (aCons (pure (.int 23)) aNil))))) aNil))))) (oE (eSliceU (oVar 1) (pSome (eVar 3)) pNo)))) (pure .nxt))
    (cSeq (cIf (asB (eOp2 eqT (oVar 2) (oE (pure (.int 2))))) (cRet (eFz (fCall listO (oCons (oVar 1) oNil)))) (pure .nxt))
    (cSeq (cIf (asB (eOp2 eqT (oVar 2) (oE (pure (.int 3))))) (cSeq (cSet 5 (eFz (fLst (aCons (pure (.str [110, 111, 110, 101])) (aCons (pure (.str [110, 111, 116])) (aCons (pure (.str [116, 114, 117, 116, 104])) (aCons (pure (.str [110, 117, 109, 98, 101, 114])) (aCons (pure (.str [116, 101, 120, 116])) (aCons (pure (.str [107, 105, 110, 100])) (aCons (pure (.str [100, 101, 101, 100])) (aCons (pure (.str [116, 104, 105, 110, 103])) (aCons (pure (.str [103, 97, 116, 101])) (aCons (pure (.str [98, 111, 117, 110, 100])) (aCons (pure (.str [119, 111, 114, 116, 104])) (aCons (pure (.str [75, 105, 110, 100])) aNil)))))))))))))))
    (cRet (eOp2 addU (oE (eTup (aCons (eOp2 ixU (oVar 5) (oE (eFn m__law_pick (aCons (eVar 0) (aCons (pure (.int 12)) aNil))))) aNil))) (oE (eSliceU (oVar 1) (pSome (pure (.int 1))) pNo))))) (pure .nxt))
    (cRet (eOp2 addU (oE (eOp2 addU (oE (eSliceU (oVar 1) pNo (pSome (eVar 3)))) (oE (eTup (aCons (eOp2 ixU (oVar 4) (oE (eFn m__law_pick (aCons (eVar 0) (aCons (pure (.int 23)) aNil))))) aNil))))) (oE (eSliceU (oVar 1) (pSome (eOp2 addU (oVar 3) (oE (pure (.int 1))))) pNo))))))))))))
noncomputable def m__law_bent : FnM := fnM 6 b__law_bent
noncomputable def b_law : Cmd :=
    (cSeq (cSet 1 (eFn m__law_pot (aCons (eVar 0) aNil)))
    (cSeq (cSet 2 (eFn m__law_names (aCons (eVar 1) (aCons (pure (.int 6)) aNil))))
    (cSeq (cOwn 3 (fLst (aCons (pure .non) (aCons (eTup aNil) (aCons (pure (.int 0)) (aCons (pure (.str [110, 111, 110, 101])) (aCons (eFz (fLst aNil)) (aCons (eTup (aCons (pure (.str [110, 111, 110, 101])) (aCons (pure .non) aNil))) (aCons (eTup (aCons (eTup (aCons (pure (.str [110, 111, 110, 101])) aNil)) aNil)) (aCons (eTup (aCons (pure (.str [116, 114, 117, 116, 104])) aNil)) (aCons (eTup (aCons (pure (.str [116, 101, 120, 116])) aNil)) (aCons (eTup (aCons (pure (.str [103, 97, 116, 101])) (aCons (pure (.str [97])) aNil))) (aCons (pure (.bl true)) (aCons (eTup (aCons (eTup aNil) aNil)) aNil))))))))))))))
    (cSeq (cFor (iRange (aCons (pure (.int 10)) aNil)) (.nm 4) (cSeq (cSet 5 (eFn (m__law_worth 3) (aCons (eVar 1) (aCons (eVar 2) (aCons (pure (.bl true)) aNil)))))
    (cSeq (cIf (asB (eOp2 notBO (oE (eFn (m_is_worth 14) (aCons (eVar 5) aNil))) (oE (pure (.bl true))))) (cRet (pure (.bl false))) (pure .nxt))
    (cSeq (cSet 6 (eFn m__law_bent (aCons (eVar 1) (aCons (eVar 5) aNil))))
    (cSeq (cOwn 3 (fOp2 catO (oVar 3) (oE (eFz (fLst (aCons (eVar 5) (aCons (eVar 6) (aCons (eTup (aCons (pure (.str [98, 111, 117, 110, 100])) (aCons (eOp2 ixU (oVar 2) (oE (pure (.int 0)))) (aCons (eOp2 ixU (oVar 2) (oE (pure (.int 1)))) (aCons (eVar 6) aNil))))) (aCons (eFn m__law_bent (aCons (eVar 1) (aCons (eVar 5) aNil))) aNil)))))))))
    (cIf (bAnd (asB (eCall isiO (oCons (oVar 6) (oCons (oE (pure (.ty "tuple"))) oNil)))) (asB (eOp2 gtO (oE (eCall lenO (oCons (oVar 6) oNil))) (oE (pure (.int 0)))))) (cExpr (eLst appendF (mVar 3) (aCons (eFn m__law_bent (aCons (eVar 1) (aCons (eVar 6) aNil))) aNil))) (pure .nxt)))))))
    (cSeq (cFor (iU (eFrz 3)) (.nm 7) (cSeq (cSet 8 (eCall reprO (oCons (oVar 7) oNil)))
    (cSeq (cIf (bOr (bNot (asB (eFn (m__law_same 4) (aCons (eFn (m_is_worth 14) (aCons (eVar 7) aNil)) (aCons (eFn (m__law_is_worth 14) (aCons (eVar 7) aNil)) aNil))))) (asB (eOp2 neS (oE (eCall reprO (oCons (oVar 7) oNil))) (oVar 8)))) (cRet (pure (.bl false))) (pure .nxt))
    (cIf (bOr (bNot (asB (eFn (m__law_same 4) (aCons (eFn m_is_plain (aCons (eVar 7) aNil)) (aCons (eFn m__law_is_plain (aCons (eVar 7) aNil)) aNil))))) (asB (eOp2 neS (oE (eCall reprO (oCons (oVar 7) oNil))) (oVar 8)))) (cRet (pure (.bl false))) (pure .nxt)))))
    (cRet (pure (.bl true))))))))
noncomputable def m_law : FnM := fnM 9 b_law
end Lw
set_option maxHeartbeats 4000000
namespace Lw
open PySem PySem.Spec PyProof.Rows L2 Sw
open Classical
noncomputable def qb_is_whole (x_thing : T) : Q (F Unit Unit) :=
    (qB (qB (qB (qCall isiO [x_thing, (.ty "int")]) qTr) fun b11 => if b11 then (qB (qCall isiO [x_thing, (.ty "bool")]) fun t5 => qB (qTr t5) fun b6 => qP (.bl (!b6))) else qP (.bl false)) fun t12 => qP (.ret t12))
noncomputable def q_is_whole (x_thing : T) : Q T := qFn (qb_is_whole x_thing)
theorem sb_is_whole (x_thing : T) : SC (fun _ => True) (b_is_whole) [.val x_thing] (qb_is_whole x_thing) (fun (_ : Unit) _ => True) (fun (_ : Unit) _ => False) := by
  unfold b_is_whole qb_is_whole
  exact (c_ret (sAnd (sCall (rC (oV (i := 0) fun r7 h8 => (rC (oC v_con fun r9 h10 => (rN (rEnd (rdc h8 (rdc h10 rdn))))))))) (sNot (sCall (rC (oV (i := 0) fun r1 h2 => (rC (oC v_con fun r3 h4 => (rN (rEnd (rdc h2 (rdc h4 rdn))))))))))))
theorem qs_is_whole {x_thing : T} {S S' : List Ob} {r : R T} (h : q_is_whole x_thing S = some (r, S')) : m_is_whole [x_thing] S = some (r, S') := fn_sim (n := 1) (ts := [x_thing]) (sb_is_whole x_thing) h
noncomputable def qb_is_in (x_thing x_low x_high : T) : Q (F Unit Unit) :=
    (qB (qB (qB (m_is_whole [x_thing]) qTr) fun b8 => if b8 then (qB (qOp2 leO x_low x_thing) fun t7 => qCh t7 (qOp2 leO x_thing x_high)) else qP (.bl false)) fun t9 => qP (.ret t9))
noncomputable def q_is_in (x_thing x_low x_high : T) : Q T := qFn (qb_is_in x_thing x_low x_high)
theorem sb_is_in (x_thing x_low x_high : T) : SC (fun _ => True) (b_is_in) [.val x_thing, .val x_low, .val x_high] (qb_is_in x_thing x_low x_high) (fun (_ : Unit) _ => True) (fun (_ : Unit) _ => False) := by
  unfold b_is_in qb_is_in
  exact (c_ret (sAnd (sFn (aV (v_var (i := 0)) (aN fEnd))) (sChain (oV (i := 1) fun r1 h2 => (oV (i := 0) fun r3 h4 => (chEnd h2 h4 (oV (i := 2) fun r5 h6 => (rd2 h4 h6))))))))
theorem qs_is_in {x_thing x_low x_high : T} {S S' : List Ob} {r : R T} (h : q_is_in x_thing x_low x_high S = some (r, S')) : m_is_in [x_thing, x_low, x_high] S = some (r, S') := fn_sim (n := 3) (ts := [x_thing, x_low, x_high]) (sb_is_in x_thing x_low x_high) h
noncomputable def qb_is_name (x_thing : T) : Q (F Unit Unit) :=
    (qB (qB (qB (qCall isiO [x_thing, (.ty "str")]) qTr) fun b26 => if b26 then (qB (qB (qB (qCall lenO [x_thing]) fun t17 => (qB (qOp2 leO (.int 1) t17) fun t20 => qCh t20 (qOp2 leO t17 (.int 8)))) qTr) fun b21 => if b21 then (qB (qB (qB (qIt x_thing) (qComp fun x1 => (qB (qOp2 inU x1 c_LETTERS) fun y6 => qP (some y6)))) fun l7 => qP (.fz l7)) fun t10 => (qCall allO [t10])) else qP (.bl false)) else qP (.bl false)) fun t27 => qP (.ret t27))
noncomputable def q_is_name (x_thing : T) : Q T := qFn (qb_is_name x_thing)
theorem sb_is_name (x_thing : T) : SC (fun _ => True) (b_is_name) [.val x_thing, .emp] (qb_is_name x_thing) (fun (_ : Unit) _ => True) (fun (_ : Unit) _ => False) := by
  unfold b_is_name qb_is_name
  exact (c_ret (sAnd (sCall (rC (oV (i := 0) fun r22 h23 => (rC (oC v_con fun r24 h25 => (rN (rEnd (rdc h23 (rdc h25 rdn))))))))) (sAnd (sChain (oC v_con fun r11 h12 => (oG (sCall (rC (oV (i := 0) fun r13 h14 => (rN (rEnd (rdc h14 rdn)))))) fun t17 r15 h16 => (chEnd h12 h16 (oC v_con fun r18 h19 => (rd2 h16 h19)))))) (sCall (rC (oG (sFz (g_comp (K := yes) (iUV (v_var (i := 0))) (fun _ => trivial) (by simp only [List.all_cons, List.all_nil, List.getElem?_cons_zero, List.getElem?_cons_succ, List.set_cons_zero, List.set_cons_succ, nO_v, nO_e, nO_j, Bool.and_self]) rfl fun x1 => (sa_nm (sa_nil (g_all (sOp2 (oV (i := 1) fun r2 h3 => (oC v_con fun r4 h5 => (rd2 h3 h5)))) rfl))))) fun t10 r8 h9 => (rN (rEnd (rdc h9 rdn)))))))))
theorem qs_is_name {x_thing : T} {S S' : List Ob} {r : R T} (h : q_is_name x_thing S = some (r, S')) : m_is_name [x_thing] S = some (r, S') := fn_sim (n := 2) (ts := [x_thing]) (sb_is_name x_thing) h
noncomputable def qb_is_plain (x_thing : T) : Q (F Unit Unit) :=
    (qB (qB (qB (qB (qCall isiO [x_thing, (.ty "tuple")]) qTr) fun b12 => qP (!b12)) fun b13 => if b13 then qP true else (qB (qB (qCall lenO [x_thing]) fun t5 => (qOp2 ninU t5 (.tup [(.int 1), (.int 2)]))) qTr)) fun b14 => if b14 then (qP (.ret (.bl false))) else (qB (qB (qB (qCall lenO [x_thing]) fun t19 => (qOp2 eqT t19 (.int 1))) qTr) fun b22 => if b22 then (qB (qB (qB (qOp2 eqT x_thing c_NONE) qTr) fun b31 => if b31 then qP (.bl true) else (qOp2 eqT x_thing c_NOT)) fun t32 => qP (.ret t32)) else (un2 x_thing fun x33 x34 => (qB (qB (qOp2 eqT x33 (.str [116, 114, 117, 116, 104])) qTr) fun b39 => if b39 then (qB (qCall isiO [x34, (.ty "bool")]) fun t44 => qP (.ret t44)) else (qB (qB (qOp2 eqT x33 (.str [110, 117, 109, 98, 101, 114])) qTr) fun b49 => if b49 then (qB (qB (qOp2 subO (.int 0) (.int 1000000000)) fun t54 => (m_is_in [x34, t54, (.int 1000000000)])) fun t55 => qP (.ret t55)) else (qB (qB (qB (qOp2 eqT x33 (.str [116, 101, 120, 116])) qTr) fun b72 => if b72 then (qB (qB (qCall isiO [x34, (.ty "str")]) qTr) fun b67 => if b67 then (qB (qCall lenO [x34]) fun t60 => (qOp2 leO t60 (.int 20))) else qP (.bl false)) else qP (.bl false)) fun t73 => qP (.ret t73)))))))
noncomputable def q_is_plain (x_thing : T) : Q T := qFn (qb_is_plain x_thing)
theorem sb_is_plain (x_thing : T) : SC (fun _ => True) (b_is_plain) [.val x_thing, .emp, .emp] (qb_is_plain x_thing) (fun (_ : Unit) _ => True) (fun (_ : Unit) _ => False) := by
  unfold b_is_plain qb_is_plain
  exact (c_ifr (tOr (tNot (tB (sCall (rC (oV (i := 0) fun r8 h9 => (rC (oC v_con fun r10 h11 => (rN (rEnd (rdc h9 (rdc h11 rdn))))))))))) (tB (sOp2 (oG (sCall (rC (oV (i := 0) fun r1 h2 => (rN (rEnd (rdc h2 rdn)))))) fun t5 r3 h4 => (oC (v_tup (v_aC v_con (v_aC v_con v_aN))) fun r6 h7 => (rd2 h4 h7)))))) (c_exit (c_retV v_con)) (c_skip (c_ifr (tB (sOp2 (oG (sCall (rC (oV (i := 0) fun r15 h16 => (rN (rEnd (rdc h16 rdn)))))) fun t19 r17 h18 => (oC v_con fun r20 h21 => (rd2 h18 h21))))) (c_exit (c_ret (sOr (sOp2 (oV (i := 0) fun r27 h28 => (oC v_con fun r29 h30 => (rd2 h28 h30)))) (sOp2 (oV (i := 0) fun r23 h24 => (oC v_con fun r25 h26 => (rd2 h24 h26))))))) (c_skip (c_unpV (v_var (i := 0)) (sa_2 fun x33 x34 => (sa_nm (sa_nm (sa_nil (c_ifr (tB (sOp2 (oV (i := 1) fun r35 h36 => (oC v_con fun r37 h38 => (rd2 h36 h38))))) (c_exit (c_ret (sCall (rC (oV (i := 2) fun r40 h41 => (rC (oC v_con fun r42 h43 => (rN (rEnd (rdc h41 (rdc h43 rdn))))))))))) (c_skip (c_ifr (tB (sOp2 (oV (i := 1) fun r45 h46 => (oC v_con fun r47 h48 => (rd2 h46 h48))))) (c_exit (c_ret (sFn (aV (v_var (i := 2)) (aE (sOp2 (oC v_con fun r50 h51 => (oC v_con fun r52 h53 => (rd2 h51 h53)))) fun t54 => (aV v_con (aN fEnd))))))) (c_skip (c_ret (sAnd (sOp2 (oV (i := 1) fun r68 h69 => (oC v_con fun r70 h71 => (rd2 h69 h71)))) (sAnd (sCall (rC (oV (i := 2) fun r63 h64 => (rC (oC v_con fun r65 h66 => (rN (rEnd (rdc h64 (rdc h66 rdn))))))))) (sOp2 (oG (sCall (rC (oV (i := 2) fun r56 h57 => (rN (rEnd (rdc h57 rdn)))))) fun t60 r58 h59 => (oC v_con fun r61 h62 => (rd2 h59 h62))))))))))))))))))))
theorem qs_is_plain {x_thing : T} {S S' : List Ob} {r : R T} (h : q_is_plain x_thing S = some (r, S')) : m_is_plain [x_thing] S = some (r, S') := fn_sim (n := 3) (ts := [x_thing]) (sb_is_plain x_thing) h
noncomputable def qb_is_bound (m_is_bound : FnM) (m_is_worth : FnM) (x_thing : T) : Q (F Unit Unit) :=
    (qB (qB (qB (qB (qCall lenO [x_thing]) fun t28 => (qOp2 neT t28 (.int 4))) qTr) fun b31 => if b31 then qP true else (qB (qB (qB (qOp2 ixU x_thing (.int 0)) fun t20 => (qOp2 neT t20 (.str [98, 111, 117, 110, 100]))) qTr) fun b23 => if b23 then qP true else (qB (qB (qB (qB (qOp2 ixU x_thing (.int 1)) fun t11 => (m_is_name [t11])) qTr) fun b12 => qP (!b12)) fun b13 => if b13 then qP true else (qB (qB (qB (qOp2 ixU x_thing (.int 2)) fun t5 => (m_is_name [t5])) qTr) fun b6 => qP (!b6))))) fun b32 => if b32 then (qP (.ret (.bl false))) else (qB (qB (qB (qB (qOp2 ixU x_thing (.int 3)) fun t51 => (m_is_worth [t51])) qTr) fun b52 => if b52 then (qB (qB (qOp2 ixU x_thing (.int 3)) fun t39 => (qOp2 ixU t39 (.int 0))) fun t44 => (qOp2 neT t44 (.str [98, 111, 117, 110, 100]))) else qP (.bl false)) fun t53 => qP (.ret t53)))
noncomputable def q_is_bound (m_is_bound : FnM) (m_is_worth : FnM) (x_thing : T) : Q T := qFn (qb_is_bound m_is_bound m_is_worth x_thing)
theorem sb_is_bound (m_is_bound : FnM) (m_is_worth : FnM) (x_thing : T) : SC (fun _ => True) (b_is_bound m_is_bound m_is_worth) [.val x_thing] (qb_is_bound m_is_bound m_is_worth x_thing) (fun (_ : Unit) _ => True) (fun (_ : Unit) _ => False) := by
  unfold b_is_bound qb_is_bound
  exact (c_ifr (tOr (tB (sOp2 (oG (sCall (rC (oV (i := 0) fun r24 h25 => (rN (rEnd (rdc h25 rdn)))))) fun t28 r26 h27 => (oC v_con fun r29 h30 => (rd2 h27 h30))))) (tOr (tB (sOp2 (oG (sOp2 (oV (i := 0) fun r14 h15 => (oC v_con fun r16 h17 => (rd2 h15 h17)))) fun t20 r18 h19 => (oC v_con fun r21 h22 => (rd2 h19 h22))))) (tOr (tNot (tB (sFn (aE (sOp2 (oV (i := 0) fun r7 h8 => (oC v_con fun r9 h10 => (rd2 h8 h10)))) fun t11 => (aN fEnd))))) (tNot (tB (sFn (aE (sOp2 (oV (i := 0) fun r1 h2 => (oC v_con fun r3 h4 => (rd2 h2 h4)))) fun t5 => (aN fEnd)))))))) (c_exit (c_retV v_con)) (c_skip (c_ret (sAnd (sFn (aE (sOp2 (oV (i := 0) fun r47 h48 => (oC v_con fun r49 h50 => (rd2 h48 h50)))) fun t51 => (aN fEnd))) (sOp2 (oG (sOp2 (oG (sOp2 (oV (i := 0) fun r33 h34 => (oC v_con fun r35 h36 => (rd2 h34 h36)))) fun t39 r37 h38 => (oC v_con fun r40 h41 => (rd2 h38 h41)))) fun t44 r42 h43 => (oC v_con fun r45 h46 => (rd2 h43 h46))))))))
theorem qs_is_bound {d : Nat} {x_thing : T} {S S' : List Ob} {r : R T} (h : q_is_bound (m_is_bound d) (m_is_worth d) x_thing S = some (r, S')) : m_is_bound (d + 1) [x_thing] S = some (r, S') := fn_sim (n := 1) (ts := [x_thing]) (sb_is_bound (m_is_bound d) (m_is_worth d) x_thing) h
noncomputable def qb_is_worth (m_is_bound : FnM) (m_is_worth : FnM) (x_thing : T) : Q (F Unit Unit) :=
    (qB (qB (qB (qB (qCall isiO [x_thing, (.ty "tuple")]) qTr) fun b12 => qP (!b12)) fun b13 => if b13 then qP true else (qB (qB (qCall lenO [x_thing]) fun t5 => (qOp2 eqT t5 (.int 0))) qTr)) fun b14 => if b14 then (qP (.ret (.bl false))) else (qB (qB (qB (m_is_plain [x_thing]) qTr) fun b15 => if b15 then qP true else (qB (m_is_bound [x_thing]) qTr)) fun b16 => if b16 then (qP (.ret (.bl true))) else (qB (qB (qB (qB (qCall lenO [x_thing]) fun t30 => (qOp2 eqT t30 (.int 2))) qTr) fun b33 => if b33 then (qB (qB (qOp2 ixU x_thing (.int 0)) fun t23 => (qOp2 inTD t23 (.tup [(.str [107, 105, 110, 100]), (.str [100, 101, 101, 100])]))) qTr) else qP false) fun b34 => if b34 then (qB (qB (qOp2 ixU x_thing (.int 1)) fun t39 => (m_is_name [t39])) fun t40 => qP (.ret t40)) else (qB (qB (qB (qB (qCall lenO [x_thing]) fun t54 => (qOp2 eqT t54 (.int 2))) qTr) fun b57 => if b57 then (qB (qB (qOp2 ixU x_thing (.int 0)) fun t47 => (qOp2 eqT t47 (.str [116, 104, 105, 110, 103]))) qTr) else qP false) fun b58 => if b58 then (qB (qB (qB (qB (qOp2 ixU x_thing (.int 1)) fun t72 => (m_is_whole [t72])) qTr) fun b73 => if b73 then (qB (qOp2 ixU x_thing (.int 1)) fun t65 => (qOp2 geO t65 (.int 0))) else qP (.bl false)) fun t74 => qP (.ret t74)) else (qB (qB (qB (qB (qCall lenO [x_thing]) fun t88 => (qOp2 neT t88 (.int 3))) qTr) fun b91 => if b91 then qP true else (qB (qB (qOp2 ixU x_thing (.int 0)) fun t81 => (qOp2 neT t81 (.str [103, 97, 116, 101]))) qTr)) fun b92 => if b92 then (qP (.ret (.bl false))) else (qB (qB (qB (qB (qOp2 ixU x_thing (.int 1)) fun t112 => (m_is_name [t112])) qTr) fun b113 => if b113 then (qB (qB (qB (qOp2 ixU x_thing (.int 2)) fun t104 => (qOp2 isNO t104 .non)) qTr) fun b107 => if b107 then qP (.bl true) else (qB (qOp2 ixU x_thing (.int 2)) fun t97 => (m_is_name [t97]))) else qP (.bl false)) fun t114 => qP (.ret t114)))))))
noncomputable def q_is_worth (m_is_bound : FnM) (m_is_worth : FnM) (x_thing : T) : Q T := qFn (qb_is_worth m_is_bound m_is_worth x_thing)
theorem sb_is_worth (m_is_bound : FnM) (m_is_worth : FnM) (x_thing : T) : SC (fun _ => True) (b_is_worth m_is_bound m_is_worth) [.val x_thing] (qb_is_worth m_is_bound m_is_worth x_thing) (fun (_ : Unit) _ => True) (fun (_ : Unit) _ => False) := by
  unfold b_is_worth qb_is_worth
  exact (c_ifr (tOr (tNot (tB (sCall (rC (oV (i := 0) fun r8 h9 => (rC (oC v_con fun r10 h11 => (rN (rEnd (rdc h9 (rdc h11 rdn))))))))))) (tB (sOp2 (oG (sCall (rC (oV (i := 0) fun r1 h2 => (rN (rEnd (rdc h2 rdn)))))) fun t5 r3 h4 => (oC v_con fun r6 h7 => (rd2 h4 h7)))))) (c_exit (c_retV v_con)) (c_skip (c_ifr (tOr (tB (sFn (aV (v_var (i := 0)) (aN fEnd)))) (tB (sFn (aV (v_var (i := 0)) (aN fEnd))))) (c_exit (c_retV v_con)) (c_skip (c_ifr (tAnd (tB (sOp2 (oG (sCall (rC (oV (i := 0) fun r26 h27 => (rN (rEnd (rdc h27 rdn)))))) fun t30 r28 h29 => (oC v_con fun r31 h32 => (rd2 h29 h32))))) (tB (sOp2 (oG (sOp2 (oV (i := 0) fun r17 h18 => (oC v_con fun r19 h20 => (rd2 h18 h20)))) fun t23 r21 h22 => (oC (v_tup (v_aC v_con (v_aC v_con v_aN))) fun r24 h25 => (rd2 h22 h25)))))) (c_exit (c_ret (sFn (aE (sOp2 (oV (i := 0) fun r35 h36 => (oC v_con fun r37 h38 => (rd2 h36 h38)))) fun t39 => (aN fEnd))))) (c_skip (c_ifr (tAnd (tB (sOp2 (oG (sCall (rC (oV (i := 0) fun r50 h51 => (rN (rEnd (rdc h51 rdn)))))) fun t54 r52 h53 => (oC v_con fun r55 h56 => (rd2 h53 h56))))) (tB (sOp2 (oG (sOp2 (oV (i := 0) fun r41 h42 => (oC v_con fun r43 h44 => (rd2 h42 h44)))) fun t47 r45 h46 => (oC v_con fun r48 h49 => (rd2 h46 h49)))))) (c_exit (c_ret (sAnd (sFn (aE (sOp2 (oV (i := 0) fun r68 h69 => (oC v_con fun r70 h71 => (rd2 h69 h71)))) fun t72 => (aN fEnd))) (sOp2 (oG (sOp2 (oV (i := 0) fun r59 h60 => (oC v_con fun r61 h62 => (rd2 h60 h62)))) fun t65 r63 h64 => (oC v_con fun r66 h67 => (rd2 h64 h67))))))) (c_skip (c_ifr (tOr (tB (sOp2 (oG (sCall (rC (oV (i := 0) fun r84 h85 => (rN (rEnd (rdc h85 rdn)))))) fun t88 r86 h87 => (oC v_con fun r89 h90 => (rd2 h87 h90))))) (tB (sOp2 (oG (sOp2 (oV (i := 0) fun r75 h76 => (oC v_con fun r77 h78 => (rd2 h76 h78)))) fun t81 r79 h80 => (oC v_con fun r82 h83 => (rd2 h80 h83)))))) (c_exit (c_retV v_con)) (c_skip (c_ret (sAnd (sFn (aE (sOp2 (oV (i := 0) fun r108 h109 => (oC v_con fun r110 h111 => (rd2 h109 h111)))) fun t112 => (aN fEnd))) (sOr (sOp2 (oG (sOp2 (oV (i := 0) fun r98 h99 => (oC v_con fun r100 h101 => (rd2 h99 h101)))) fun t104 r102 h103 => (oC v_con fun r105 h106 => (rd2 h103 h106)))) (sFn (aE (sOp2 (oV (i := 0) fun r93 h94 => (oC v_con fun r95 h96 => (rd2 h94 h96)))) fun t97 => (aN fEnd))))))))))))))))
theorem qs_is_worth {d : Nat} {x_thing : T} {S S' : List Ob} {r : R T} (h : q_is_worth (m_is_bound d) (m_is_worth d) x_thing S = some (r, S')) : m_is_worth (d + 1) [x_thing] S = some (r, S') := fn_sim (n := 1) (ts := [x_thing]) (sb_is_worth (m_is_bound d) (m_is_worth d) x_thing) h
noncomputable def qb__law_blend (x_cell x_at : T) : Q (F Unit Unit) :=
    (qB (qB (qB (qOp2 powO (.int 10) (.int 18)) fun t9 => (qOp2 geO x_cell t9)) qTr) fun b10 => if b10 then (qP (.ret x_cell)) else (qB (qB (qB (qB (qB (qOp2 modO x_cell (.int 998244353)) fun t17 => (qOp2 mulU t17 (.int 40692))) fun t22 => (qB (qOp2 mulU x_at (.int 69621)) fun t29 => (qOp2 addU t22 t29))) fun t32 => (qOp2 addU t32 (.int 1009))) fun t37 => (qOp2 modO t37 (.int 2147483399))) fun one_40 => (qB (qB (qB (qB (qOp2 mulU one_40 one_40) fun t47 => (qB (qOp2 mulU x_at (.int 48271)) fun t54 => (qOp2 addU t47 t54))) fun t57 => (qB (qOp2 modO x_cell (.int 131071)) fun t64 => (qOp2 addU t57 t64))) fun t67 => (qOp2 modO t67 (.int 2147483647))) fun two_70 => (qB (qB (qB (qB (qOp2 mulU two_70 two_70) fun t77 => (qB (qOp2 mulU one_40 (.int 17)) fun t84 => (qOp2 addU t77 t84))) fun t87 => (qOp2 addU t87 (.int 3))) fun t92 => (qOp2 modO t92 (.int 2147483629))) fun three_95 => (qB (qB (qB (qB (qOp2 mulU one_40 (.int 2147483647)) fun t102 => (qOp2 addU t102 two_70)) fun t107 => (qOp2 mulU t107 (.int 2147483629))) fun t112 => (qOp2 addU t112 three_95)) fun t115 => qP (.ret t115))))))
noncomputable def q__law_blend (x_cell x_at : T) : Q T := qFn (qb__law_blend x_cell x_at)
theorem sb__law_blend (x_cell x_at : T) : SC (fun _ => True) (b__law_blend) [.val x_cell, .val x_at, .emp, .emp, .emp] (qb__law_blend x_cell x_at) (fun (_ : Unit) _ => True) (fun (_ : Unit) _ => False) := by
  unfold b__law_blend qb__law_blend
  exact (c_ifr (tB (sOp2 (oV (i := 0) fun r1 h2 => (oG (sOp2 (oC v_con fun r3 h4 => (oC v_con fun r5 h6 => (rd2 h4 h6)))) fun t9 r7 h8 => (rd2 h2 h8))))) (c_exit (c_retV (v_var (i := 0)))) (c_skip (c_let (sOp2 (oG (sOp2 (oG (sOp2 (oG (sOp2 (oG (sOp2 (oV (i := 0) fun r11 h12 => (oC v_con fun r13 h14 => (rd2 h12 h14)))) fun t17 r15 h16 => (oC v_con fun r18 h19 => (rd2 h16 h19)))) fun t22 r20 h21 => (oG (sOp2 (oV (i := 1) fun r23 h24 => (oC v_con fun r25 h26 => (rd2 h24 h26)))) fun t29 r27 h28 => (rd2 h21 h28)))) fun t32 r30 h31 => (oC v_con fun r33 h34 => (rd2 h31 h34)))) fun t37 r35 h36 => (oC v_con fun r38 h39 => (rd2 h36 h39)))) fun one_40 => (c_let (sOp2 (oG (sOp2 (oG (sOp2 (oG (sOp2 (oV (i := 2) fun r41 h42 => (oV (i := 2) fun r43 h44 => (rd2 h42 h44)))) fun t47 r45 h46 => (oG (sOp2 (oV (i := 1) fun r48 h49 => (oC v_con fun r50 h51 => (rd2 h49 h51)))) fun t54 r52 h53 => (rd2 h46 h53)))) fun t57 r55 h56 => (oG (sOp2 (oV (i := 0) fun r58 h59 => (oC v_con fun r60 h61 => (rd2 h59 h61)))) fun t64 r62 h63 => (rd2 h56 h63)))) fun t67 r65 h66 => (oC v_con fun r68 h69 => (rd2 h66 h69)))) fun two_70 => (c_let (sOp2 (oG (sOp2 (oG (sOp2 (oG (sOp2 (oV (i := 3) fun r71 h72 => (oV (i := 3) fun r73 h74 => (rd2 h72 h74)))) fun t77 r75 h76 => (oG (sOp2 (oV (i := 2) fun r78 h79 => (oC v_con fun r80 h81 => (rd2 h79 h81)))) fun t84 r82 h83 => (rd2 h76 h83)))) fun t87 r85 h86 => (oC v_con fun r88 h89 => (rd2 h86 h89)))) fun t92 r90 h91 => (oC v_con fun r93 h94 => (rd2 h91 h94)))) fun three_95 => (c_ret (sOp2 (oG (sOp2 (oG (sOp2 (oG (sOp2 (oV (i := 2) fun r96 h97 => (oC v_con fun r98 h99 => (rd2 h97 h99)))) fun t102 r100 h101 => (oV (i := 3) fun r103 h104 => (rd2 h101 h104)))) fun t107 r105 h106 => (oC v_con fun r108 h109 => (rd2 h106 h109)))) fun t112 r110 h111 => (oV (i := 4) fun r113 h114 => (rd2 h111 h114))))))))))
theorem qs__law_blend {x_cell x_at : T} {S S' : List Ob} {r : R T} (h : q__law_blend x_cell x_at S = some (r, S')) : m__law_blend [x_cell, x_at] S = some (r, S') := fn_sim (n := 5) (ts := [x_cell, x_at]) (sb__law_blend x_cell x_at) h
noncomputable def qb__law_pot (x_script : T) : Q (F Unit Unit) :=
    (qB (qB (qSl slU x_script none (some 12)) fun t5 => (qCall listO [t5])) fun cells_6 => (qSeq (qB (qB (qSl slU x_script (some 12) (some 63)) fun t9 => (qEnumX t9)) fun l38 => qFor (fun x12 a10 => (un2 x12 fun x13 x14 => (qB (qB (qB (qOp2 modO x13 (.int 12)) fun t23 => (qOp2 ixU (.fz a10) t23)) fun t26 => (qOp2 addU t26 x14)) fun t33 => qB (qOp2 modO x13 (.int 12)) fun t34 => qB (qO (setL a10 t34 t33)) fun cells_35 => (qP (.nxt cells_35))))) l38 cells_6) fun a11 => (qB (qB (qP [(.fz a11), (.int 0), (.int 0)]) fun l36 => qBox (.lst l36)) fun t37 => qP (.ret t37))))
noncomputable def q__law_pot (x_script : T) : Q T := qFn (qb__law_pot x_script)
theorem sb__law_pot (x_script : T) : SC (fun _ => True) (b__law_pot) [.val x_script, .emp, .emp, .emp] (qb__law_pot x_script) (fun (_ : Unit) _ => True) (fun (_ : Unit) _ => False) := by
  unfold b__law_pot qb__law_pot
  exact (c_own (sCallL (rC (oG (sSlU (oV (i := 0) fun r1 h2 => (pN (pV v_con (slEnd h2))))) fun t5 r3 h4 => (rN (rEndL (rdc h4 rdn)))))) fun cells_6 => (c_seq (c_for (K := yes) (L := fun (a : List T) s => ∃ (j2 : Option T) (j3 : Option T), s = [.val x_script, .own (.lst a), jS j2, jS j3]) (sEnumX (aE (sSlU (oV (i := 0) fun r7 h8 => (pV v_con (pV v_con (slEnd h8))))) fun t9 => (aN (enEndX (t := t9))))) ⟨none, none, rfl⟩ (fun _ _ _ _ => trivial) (fun | x12, a10, _, ⟨j2, j3, rfl⟩ => (sa_2 fun x13 x14 => (sa_nm (sa_nm (sa_nil (c_end (c_setO (i := 1) (sOp2 (oG (sOp2 (oW (i := 1) fun r15 h16 => (oG (sOp2 (oV (i := 2) fun r17 h18 => (oC v_con fun r19 h20 => (rd2 h18 h20)))) fun t23 r21 h22 => (rd2 h16 h22)))) fun t26 r24 h25 => (oV (i := 3) fun r27 h28 => (rd2 h25 h28)))) (sOp2 (oV (i := 2) fun r29 h30 => (oC v_con fun r31 h32 => (rd2 h30 h32)))) fun cells_35 => (c_nxt ⟨(some x13), (some x14), rfl⟩))))))))) (fun | a11, _, ⟨j2, j3, rfl⟩ => (c_ret (sBox (sLst (aF (v_frz (i := 1)) (aV v_con (aV v_con (aN lEnd))))))))))
theorem qs__law_pot {x_script : T} {S S' : List Ob} {r : R T} (h : q__law_pot x_script S = some (r, S')) : m__law_pot [x_script] S = some (r, S') := fn_sim (n := 4) (ts := [x_script]) (sb__law_pot x_script) h
noncomputable def qb__law_pick (x_pot x_many : T) : Q (F Unit Unit) :=
    (qSeq (qB (qB (qB (qOp2 ixU x_pot (.int 2)) fun t7 => (qOp2 ltO t7 x_many)) qTr) fun b10 => if b10 then (qB (qOp2 ixU x_pot (.int 1)) fun at_16 => (qB (qOp2 mulU (.int 11) at_16) fun cell_21 => (qSeq (qB (qB (qB (qB (qOp2 ixU x_pot (.int 0)) fun t30 => (qCall lenO [t30])) fun t33 => (qOp2 ltO at_16 t33)) qTr) fun b34 => if b34 then (qB (qB (qOp2 ixU x_pot (.int 0)) fun t42 => (qOp2 ixU t42 at_16)) fun cell_45 => (qP (.nxt cell_45))) else (qB (qB (qB (qOp2 ixU x_pot (.int 0)) fun t52 => (qOp2 neT t52 (.fz []))) qTr) fun b55 => if b55 then (qB (qB (qB (qOp2 ixU x_pot (.int 0)) fun t62 => (qB (qB (qB (qOp2 mulU at_16 (.int 7)) fun t69 => (qOp2 addU t69 (.int 1))) fun t74 => (qB (qB (qOp2 ixU x_pot (.int 0)) fun t81 => (qCall lenO [t81])) fun t84 => (qOp2 modO t74 t84))) fun t87 => (qOp2 ixU t62 t87))) fun t90 => (qB (qB (qOp2 powO (.int 10) (.int 17)) fun t97 => (qB (qOp2 mulU (.int 3) at_16) fun t104 => (qOp2 addU t97 t104))) fun t107 => (qOp2 modO t90 t107))) fun cell_108 => (qP (.nxt cell_108))) else (qP (.nxt cell_21)))) fun a35 => (qB (qOp2 addU at_16 (.int 1)) fun t113 => qB (qIsL x_pot) fun _ => qB (qP (.int 1)) fun t114 => qB (qBxSet x_pot t114 t113) fun _ => (qB (m__law_blend [a35, at_16]) fun t116 => qB (qIsL x_pot) fun _ => qB (qP (.int 2)) fun t117 => qB (qBxSet x_pot t117 t116) fun _ => (qP (.nxt ()))))))) else (qP (.nxt ()))) fun _ => (qB (qB (qOp2 ixU x_pot (.int 2)) fun t125 => (qOp2 modO t125 x_many)) fun found_128 => (qB (qB (qOp2 ixU x_pot (.int 2)) fun t135 => (qOp2 divO t135 x_many)) fun t138 => qB (qIsL x_pot) fun _ => qB (qP (.int 2)) fun t139 => qB (qBxSet x_pot t139 t138) fun _ => (qP (.ret found_128)))))
noncomputable def q__law_pick (x_pot x_many : T) : Q T := qFn (qb__law_pick x_pot x_many)
theorem sb__law_pick (x_pot x_many : T) : SC (fun _ => True) (b__law_pick) [.val x_pot, .val x_many, .emp, .emp, .emp] (qb__law_pick x_pot x_many) (fun (_ : Unit) _ => True) (fun (_ : Unit) _ => False) := by
  unfold b__law_pick qb__law_pick
  exact (c_seq (A := fun (a : Unit) s => ∃ (j2 : Option T) (j3 : Option T), s = [.val x_pot, .val x_many, jS j2, jS j3, .emp]) (c_if (tB (sOp2 (oG (sOp2 (oV (i := 0) fun r1 h2 => (oC v_con fun r3 h4 => (rd2 h2 h4)))) fun t7 r5 h6 => (oV (i := 1) fun r8 h9 => (rd2 h6 h9))))) (c_let (sOp2 (oV (i := 0) fun r12 h13 => (oC v_con fun r14 h15 => (rd2 h13 h15)))) fun at_16 => (c_let (sOp2 (oC v_con fun r17 h18 => (oV (i := 2) fun r19 h20 => (rd2 h18 h20)))) fun cell_21 => (c_seq (A := fun (a : T) s => s = [.val x_pot, .val x_many, .val at_16, .val a, .emp]) (c_if (tB (sOp2 (oV (i := 2) fun r22 h23 => (oG (sCall (rC (oG (sOp2 (oV (i := 0) fun r24 h25 => (oC v_con fun r26 h27 => (rd2 h25 h27)))) fun t30 r28 h29 => (rN (rEnd (rdc h29 rdn)))))) fun t33 r31 h32 => (rd2 h23 h32))))) (c_end (c_let (sOp2 (oG (sOp2 (oV (i := 0) fun r36 h37 => (oC v_con fun r38 h39 => (rd2 h37 h39)))) fun t42 r40 h41 => (oV (i := 2) fun r43 h44 => (rd2 h41 h44)))) fun cell_45 => (c_nxt rfl))) (c_if (tB (sOp2 (oG (sOp2 (oV (i := 0) fun r46 h47 => (oC v_con fun r48 h49 => (rd2 h47 h49)))) fun t52 r50 h51 => (oC (v_lst v_aN) fun r53 h54 => (rd2 h51 h54))))) (c_end (c_let (sOp2 (oG (sOp2 (oG (sOp2 (oV (i := 0) fun r56 h57 => (oC v_con fun r58 h59 => (rd2 h57 h59)))) fun t62 r60 h61 => (oG (sOp2 (oG (sOp2 (oG (sOp2 (oV (i := 2) fun r63 h64 => (oC v_con fun r65 h66 => (rd2 h64 h66)))) fun t69 r67 h68 => (oC v_con fun r70 h71 => (rd2 h68 h71)))) fun t74 r72 h73 => (oG (sCall (rC (oG (sOp2 (oV (i := 0) fun r75 h76 => (oC v_con fun r77 h78 => (rd2 h76 h78)))) fun t81 r79 h80 => (rN (rEnd (rdc h80 rdn)))))) fun t84 r82 h83 => (rd2 h73 h83)))) fun t87 r85 h86 => (rd2 h61 h86)))) fun t90 r88 h89 => (oG (sOp2 (oG (sOp2 (oC v_con fun r91 h92 => (oC v_con fun r93 h94 => (rd2 h92 h94)))) fun t97 r95 h96 => (oG (sOp2 (oC v_con fun r98 h99 => (oV (i := 2) fun r100 h101 => (rd2 h99 h101)))) fun t104 r102 h103 => (rd2 h96 h103)))) fun t107 r105 h106 => (rd2 h89 h106)))) fun cell_108 => (c_nxt rfl))) (c_nxt rfl))) (fun | a35, _, rfl => (c_setB (i := 0) (sOp2 (oV (i := 2) fun r109 h110 => (oC v_con fun r111 h112 => (rd2 h110 h112)))) (eV v_con) (c_end (c_setB (i := 0) (sFn (aV (v_var (i := 3)) (aV (v_var (i := 2)) (aN fEnd)))) (eV v_con) (c_nxt ⟨(some at_16), (some a35), rfl⟩)))))))) (c_nxt ⟨none, none, rfl⟩)) (fun | _, _, ⟨j2, j3, rfl⟩ => (c_let (sOp2 (oG (sOp2 (oV (i := 0) fun r119 h120 => (oC v_con fun r121 h122 => (rd2 h120 h122)))) fun t125 r123 h124 => (oV (i := 1) fun r126 h127 => (rd2 h124 h127)))) fun found_128 => (c_setB (i := 0) (sOp2 (oG (sOp2 (oV (i := 0) fun r129 h130 => (oC v_con fun r131 h132 => (rd2 h130 h132)))) fun t135 r133 h134 => (oV (i := 1) fun r136 h137 => (rd2 h134 h137)))) (eV v_con) (c_retV (v_var (i := 4)))))))
theorem qs__law_pick {x_pot x_many : T} {S S' : List Ob} {r : R T} (h : q__law_pick x_pot x_many S = some (r, S')) : m__law_pick [x_pot, x_many] S = some (r, S') := fn_sim (n := 5) (ts := [x_pot, x_many]) (sb__law_pick x_pot x_many) h
noncomputable def qb__law_same (m__law_same : FnM) (x_found x_due : T) : Q (F Unit Unit) :=
    (qB (qB (qB (qOp2 isNO x_due .non) qTr) fun b9 => if b9 then qP true else (qB (qCall isiO [x_due, (.ty "bool")]) qTr)) fun b10 => if b10 then (qB (qB (qB (qB (qCall isiO [x_found, (.ty "bool")]) fun t21 => (qB (qCall isiO [x_due, (.ty "bool")]) fun t28 => (qOp2 eqT t21 t28))) qTr) fun b29 => if b29 then (qOp2 eqT x_found x_due) else qP (.bl false)) fun t30 => qP (.ret t30)) else (qB (qB (qCall isiO [x_due, (.ty "str")]) qTr) fun b35 => if b35 then (qB (qB (qB (qCall isiO [x_found, (.ty "str")]) qTr) fun b44 => if b44 then (qOp2 eqT x_found x_due) else qP (.bl false)) fun t45 => qP (.ret t45)) else (qB (qB (qCall isiO [x_due, (.ty "int")]) qTr) fun b50 => if b50 then (qB (qB (qB (qCall isiO [x_found, (.ty "int")]) qTr) fun b66 => if b66 then (qB (qB (qB (qCall isiO [x_found, (.ty "bool")]) fun t59 => qB (qTr t59) fun b60 => qP (.bl (!b60))) qTr) fun b61 => if b61 then (qOp2 eqT x_found x_due) else qP (.bl false)) else qP (.bl false)) fun t67 => qP (.ret t67)) else (qB (qB (qB (qB (qCall isiO [x_due, (.ty "tuple")]) fun t88 => (qB (qCall isiO [x_found, (.ty "tuple")]) fun t95 => (qOp2 neT t88 t95))) qTr) fun b96 => if b96 then qP true else (qB (qB (qCall isiO [x_due, (.ty "list")]) fun t74 => (qB (qCall isiO [x_found, (.ty "list")]) fun t81 => (qOp2 neT t74 t81))) qTr)) fun b97 => if b97 then (qP (.ret (.bl false))) else (qB (qB (qB (qB (qCall lenO [x_found]) fun t110 => (qB (qCall lenO [x_due]) fun t115 => (qOp2 eqT t110 t115))) qTr) fun b116 => if b116 then (qB (qB (qB (qZip x_found x_due) (qComp fun x98 => (un2 x98 fun x99 x100 => (qB (m__law_same [x99, x100]) fun y101 => qP (some y101))))) fun l102 => qP (.fz l102)) fun t105 => (qCall allO [t105])) else qP (.bl false)) fun t117 => qP (.ret t117))))))
noncomputable def q__law_same (m__law_same : FnM) (x_found x_due : T) : Q T := qFn (qb__law_same m__law_same x_found x_due)
theorem sb__law_same (m__law_same : FnM) (x_found x_due : T) : SC (fun _ => True) (b__law_same m__law_same) [.val x_found, .val x_due, .emp, .emp] (qb__law_same m__law_same x_found x_due) (fun (_ : Unit) _ => True) (fun (_ : Unit) _ => False) := by
  unfold b__law_same qb__law_same
  exact (c_ifr (tOr (tB (sOp2 (oV (i := 1) fun r5 h6 => (oC v_con fun r7 h8 => (rd2 h6 h8))))) (tB (sCall (rC (oV (i := 1) fun r1 h2 => (rC (oC v_con fun r3 h4 => (rN (rEnd (rdc h2 (rdc h4 rdn))))))))))) (c_exit (c_ret (sAnd (sOp2 (oG (sCall (rC (oV (i := 0) fun r15 h16 => (rC (oC v_con fun r17 h18 => (rN (rEnd (rdc h16 (rdc h18 rdn))))))))) fun t21 r19 h20 => (oG (sCall (rC (oV (i := 1) fun r22 h23 => (rC (oC v_con fun r24 h25 => (rN (rEnd (rdc h23 (rdc h25 rdn))))))))) fun t28 r26 h27 => (rd2 h20 h27)))) (sOp2 (oV (i := 0) fun r11 h12 => (oV (i := 1) fun r13 h14 => (rd2 h12 h14))))))) (c_skip (c_ifr (tB (sCall (rC (oV (i := 1) fun r31 h32 => (rC (oC v_con fun r33 h34 => (rN (rEnd (rdc h32 (rdc h34 rdn)))))))))) (c_exit (c_ret (sAnd (sCall (rC (oV (i := 0) fun r40 h41 => (rC (oC v_con fun r42 h43 => (rN (rEnd (rdc h41 (rdc h43 rdn))))))))) (sOp2 (oV (i := 0) fun r36 h37 => (oV (i := 1) fun r38 h39 => (rd2 h37 h39))))))) (c_skip (c_ifr (tB (sCall (rC (oV (i := 1) fun r46 h47 => (rC (oC v_con fun r48 h49 => (rN (rEnd (rdc h47 (rdc h49 rdn)))))))))) (c_exit (c_ret (sAnd (sCall (rC (oV (i := 0) fun r62 h63 => (rC (oC v_con fun r64 h65 => (rN (rEnd (rdc h63 (rdc h65 rdn))))))))) (sAnd (sNot (sCall (rC (oV (i := 0) fun r55 h56 => (rC (oC v_con fun r57 h58 => (rN (rEnd (rdc h56 (rdc h58 rdn)))))))))) (sOp2 (oV (i := 0) fun r51 h52 => (oV (i := 1) fun r53 h54 => (rd2 h52 h54)))))))) (c_skip (c_ifr (tOr (tB (sOp2 (oG (sCall (rC (oV (i := 1) fun r82 h83 => (rC (oC v_con fun r84 h85 => (rN (rEnd (rdc h83 (rdc h85 rdn))))))))) fun t88 r86 h87 => (oG (sCall (rC (oV (i := 0) fun r89 h90 => (rC (oC v_con fun r91 h92 => (rN (rEnd (rdc h90 (rdc h92 rdn))))))))) fun t95 r93 h94 => (rd2 h87 h94))))) (tB (sOp2 (oG (sCall (rC (oV (i := 1) fun r68 h69 => (rC (oC v_con fun r70 h71 => (rN (rEnd (rdc h69 (rdc h71 rdn))))))))) fun t74 r72 h73 => (oG (sCall (rC (oV (i := 0) fun r75 h76 => (rC (oC v_con fun r77 h78 => (rN (rEnd (rdc h76 (rdc h78 rdn))))))))) fun t81 r79 h80 => (rd2 h73 h80)))))) (c_exit (c_retV v_con)) (c_skip (c_ret (sAnd (sOp2 (oG (sCall (rC (oV (i := 0) fun r106 h107 => (rN (rEnd (rdc h107 rdn)))))) fun t110 r108 h109 => (oG (sCall (rC (oV (i := 1) fun r111 h112 => (rN (rEnd (rdc h112 rdn)))))) fun t115 r113 h114 => (rd2 h109 h114)))) (sCall (rC (oG (sFz (g_comp (K := yes) (sZip (aV (v_var (i := 0)) (aV (v_var (i := 1)) (aN (zpEnd (t := x_found) (u := x_due)))))) (fun _ => trivial) (by simp only [List.all_cons, List.all_nil, List.getElem?_cons_zero, List.getElem?_cons_succ, List.set_cons_zero, List.set_cons_succ, nO_v, nO_e, nO_j, Bool.and_self]) rfl fun x98 => (sa_2 fun x99 x100 => (sa_nm (sa_nm (sa_nil (g_all (sFn (aV (v_var (i := 2)) (aV (v_var (i := 3)) (aN fEnd)))) rfl))))))) fun t105 r103 h104 => (rN (rEnd (rdc h104 rdn))))))))))))))))
theorem qs__law_same {d : Nat} {x_found x_due : T} {S S' : List Ob} {r : R T} (h : q__law_same (m__law_same d) x_found x_due S = some (r, S')) : m__law_same (d + 1) [x_found, x_due] S = some (r, S') := fn_sim (n := 4) (ts := [x_found, x_due]) (sb__law_same (m__law_same d) x_found x_due) h
noncomputable def qb__law_order (x_pot x_many : T) : Q (F Unit Unit) :=
    (qB (qP []) fun order_1 => (qSeq (qB (qRange x_many) fun l12 => qFor (fun x4 a2 => (qB (qB (qB (qOp2 addU x4 (.int 1)) fun t9 => (m__law_pick [x_pot, t9])) fun t10 => (qO (insertF a2 [t10, x4]))) fun p11 => (qP (.nxt p11.1)))) l12 order_1) fun a3 => (qP (.ret (.fz a3)))))
noncomputable def q__law_order (x_pot x_many : T) : Q T := qFn (qb__law_order x_pot x_many)
theorem sb__law_order (x_pot x_many : T) : SC (fun _ => True) (b__law_order) [.val x_pot, .val x_many, .emp, .emp] (qb__law_order x_pot x_many) (fun (_ : Unit) _ => True) (fun (_ : Unit) _ => False) := by
  unfold b__law_order qb__law_order
  exact (c_own (sLst (aN lEnd)) fun order_1 => (c_seq (c_for (K := yes) (L := fun (a : List T) s => ∃ (j3 : Option T), s = [.val x_pot, .val x_many, .own (.lst a), jS j3]) (sRange (aV (v_var (i := 1)) (aN (rgEnd (t := x_many))))) ⟨none, rfl⟩ (fun _ _ _ _ => trivial) (fun | x4, a2, _, ⟨j3, rfl⟩ => (sa_nm (sa_nil (c_end (c_ex (sLstO (aE (sFn (aV (v_var (i := 0)) (aE (sOp2 (oV (i := 3) fun r5 h6 => (oC v_con fun r7 h8 => (rd2 h6 h8)))) fun t9 => (aN fEnd)))) fun t10 => (aV (v_var (i := 3)) (aN lstEnd)))) fun p11 => (c_nxt ⟨(some x4), rfl⟩))))))) (fun | a3, _, ⟨j3, rfl⟩ => (c_retF (v_frz (i := 2))))))
theorem qs__law_order {x_pot x_many : T} {S S' : List Ob} {r : R T} (h : q__law_order x_pot x_many S = some (r, S')) : m__law_order [x_pot, x_many] S = some (r, S') := fn_sim (n := 4) (ts := [x_pot, x_many]) (sb__law_order x_pot x_many) h
noncomputable def qb__law_letters (x_pot x_many : T) : Q (F Unit Unit) :=
    (qB (qB (qTy "str" (.str [])) fun _ => (qB (qB (qB (qRange (.int 7)) (qComp fun x4 => (qB (qB (m__law_pick [x_pot, (.int 26)]) fun t9 => (qOp2 ixU (.str [97, 98, 99, 100, 101, 102, 103, 104, 105, 106, 107, 108, 109, 110, 111, 112, 113, 114, 115, 116, 117, 118, 119, 120, 121, 122]) t9)) fun y10 => qP (some y10)))) fun l11 => qP (.fz l11)) fun t12 => (qMeth joinF (.str []) [t12]))) fun rest_13 => (qB (m__law_pick [x_pot, (.int 3)]) fun spot_14 => (qB (m__law_pick [x_pot, (.int 26)]) fun turn_15 => (qB (m__law_pick [x_pot, (.int 8)]) fun size_16 => (qB (qP []) fun found_17 => (qSeq (qB (qRange x_many) fun l104 => qFor (fun x20 a18 => (qB (qB (qB (qB (qB (qOp2 modO spot_14 (.int 2)) fun t33 => (qOp2 mulU x20 t33)) fun t36 => (qOp2 addU size_16 t36)) fun t39 => (qOp2 modO t39 (.int 8))) fun t43 => qB (qI t43) fun i42 => (qSl slU rest_13 none (some i42))) fun part_44 => (qB (qB (qB (qB (qCall lenO [part_44]) fun t49 => (qB (qB (qCall lenO [part_44]) fun t54 => (qOp2 divO t54 (.int 2))) fun t57 => (qP [(.int 0), t49, t57]))) fun l58 => qP (.fz l58)) fun t61 => (qOp2 ixU t61 spot_14)) fun at_64 => (qB (qB (qB (qB (qB (qI at_64) fun i67 => (qSl slU part_44 none (some i67))) fun t70 => (qB (qB (qB (qB (qOp2 mulU (.int 5) x20) fun t81 => (qOp2 addU turn_15 t81)) fun t84 => (qOp2 modO t84 (.int 26))) fun t89 => (qOp2 ixU (.str [97, 98, 99, 100, 101, 102, 103, 104, 105, 106, 107, 108, 109, 110, 111, 112, 113, 114, 115, 116, 117, 118, 119, 120, 121, 122]) t89)) fun t92 => (qOp2 addU t70 t92))) fun t95 => (qB (qB (qI at_64) fun i98 => (qSl slU part_44 (some i98) none)) fun t101 => (qOp2 addU t95 t101))) fun t102 => (qO (appendF a18 [t102]))) fun p103 => (qP (.nxt p103.1)))))) l104 found_17) fun a19 => (qP (.ret (.fz a19)))))))))
noncomputable def q__law_letters (x_pot x_many : T) : Q T := qFn (qb__law_letters x_pot x_many)
theorem sb__law_letters (x_pot x_many : T) : SC (fun _ => True) (b__law_letters) [.val x_pot, .val x_many, .emp, .emp, .emp, .emp, .emp, .emp, .emp, .emp, .emp] (qb__law_letters x_pot x_many) (fun (_ : Unit) _ => True) (fun (_ : Unit) _ => False) := by
  unfold b__law_letters qb__law_letters
  exact (c_letV v_con (c_let (sMeth (oC v_con fun r2 h3 => (isTyB h3 (aE (sFz (g_comp (K := yes) (sRange (aV v_con (aN (rgEnd (t := (.int 7)))))) (fun _ => trivial) (by simp only [List.all_cons, List.all_nil, List.getElem?_cons_zero, List.getElem?_cons_succ, List.set_cons_zero, List.set_cons_succ, nO_v, nO_e, nO_j, Bool.and_self]) rfl fun x4 => (sa_nm (sa_nil (g_all (sOp2 (oV (i := 2) fun r5 h6 => (oG (sFn (aV (v_var (i := 0)) (aV v_con (aN fEnd)))) fun t9 r7 h8 => (rd2 h6 h8)))) rfl))))) fun t12 => (aN (mEnd h3)))))) fun rest_13 => (c_let (sFn (aV (v_var (i := 0)) (aV v_con (aN fEnd)))) fun spot_14 => (c_let (sFn (aV (v_var (i := 0)) (aV v_con (aN fEnd)))) fun turn_15 => (c_let (sFn (aV (v_var (i := 0)) (aV v_con (aN fEnd)))) fun size_16 => (c_own (sLst (aN lEnd)) fun found_17 => (c_seq (c_for (K := yes) (L := fun (a : List T) s => ∃ (j4 : Option T) (j9 : Option T) (j10 : Option T), s = [.val x_pot, .val x_many, .val (.str [97, 98, 99, 100, 101, 102, 103, 104, 105, 106, 107, 108, 109, 110, 111, 112, 113, 114, 115, 116, 117, 118, 119, 120, 121, 122]), .val rest_13, jS j4, .val spot_14, .val turn_15, .val size_16, .own (.lst a), jS j9, jS j10]) (sRange (aV (v_var (i := 1)) (aN (rgEnd (t := x_many))))) ⟨none, none, none, rfl⟩ (fun _ _ _ _ => trivial) (fun | x20, a18, _, ⟨j4, j9, j10, rfl⟩ => (sa_nm (sa_nil (c_let (sSlU (oV (i := 3) fun r21 h22 => (pN (pE (sOp2 (oG (sOp2 (oV (i := 7) fun r23 h24 => (oG (sOp2 (oV (i := 4) fun r25 h26 => (oG (sOp2 (oV (i := 5) fun r27 h28 => (oC v_con fun r29 h30 => (rd2 h28 h30)))) fun t33 r31 h32 => (rd2 h26 h32)))) fun t36 r34 h35 => (rd2 h24 h35)))) fun t39 r37 h38 => (oC v_con fun r40 h41 => (rd2 h38 h41)))) fun i42 => (slEnd h22))))) fun part_44 => (c_let (sOp2 (oG (sFz (sLst (aV v_con (aE (sCall (rC (oV (i := 9) fun r47 h48 => (rN (rEnd (rdc h48 rdn)))))) fun t49 => (aE (sOp2 (oG (sCall (rC (oV (i := 9) fun r50 h51 => (rN (rEnd (rdc h51 rdn)))))) fun t54 r52 h53 => (oC v_con fun r55 h56 => (rd2 h53 h56)))) fun t57 => (aN lEnd)))))) fun t61 r59 h60 => (oV (i := 5) fun r62 h63 => (rd2 h60 h63)))) fun at_64 => (c_end (c_ex (sLstO (aE (sOp2 (oG (sOp2 (oG (sSlU (oV (i := 9) fun r65 h66 => (pN (pT (v_var (i := 10)) fun i67 => (slEnd h66))))) fun t70 r68 h69 => (oG (sOp2 (oV (i := 2) fun r71 h72 => (oG (sOp2 (oG (sOp2 (oV (i := 6) fun r73 h74 => (oG (sOp2 (oC v_con fun r75 h76 => (oV (i := 4) fun r77 h78 => (rd2 h76 h78)))) fun t81 r79 h80 => (rd2 h74 h80)))) fun t84 r82 h83 => (oC v_con fun r85 h86 => (rd2 h83 h86)))) fun t89 r87 h88 => (rd2 h72 h88)))) fun t92 r90 h91 => (rd2 h69 h91)))) fun t95 r93 h94 => (oG (sSlU (oV (i := 9) fun r96 h97 => (pT (v_var (i := 10)) fun i98 => (pN (slEnd h97))))) fun t101 r99 h100 => (rd2 h94 h100)))) fun t102 => (aN lstEnd))) fun p103 => (c_nxt ⟨(some x20), (some part_44), (some at_64), rfl⟩))))))))) (fun | a19, _, ⟨j4, j9, j10, rfl⟩ => (c_retF (v_frz (i := 8)))))))))))
theorem qs__law_letters {x_pot x_many : T} {S S' : List Ob} {r : R T} (h : q__law_letters x_pot x_many S = some (r, S')) : m__law_letters [x_pot, x_many] S = some (r, S') := fn_sim (n := 11) (ts := [x_pot, x_many]) (sb__law_letters x_pot x_many) h
noncomputable def qb__law_names (x_pot x_many : T) : Q (F Unit Unit) :=
    (qB (m__law_pick [x_pot, (.int 4)]) fun way_1 => (qB (m__law_pick [x_pot, (.int 26)]) fun turn_2 => (qSeq (qB (qB (qOp2 eqT way_1 (.int 3)) qTr) fun b8 => if b8 then (qB (qB (qB (qRange x_many) (qComp fun x10 => (qB (qB (qB (qB (qB (qOp2 divO x10 (.int 8)) fun t21 => (qOp2 addU turn_2 t21)) fun t24 => (qOp2 modO t24 (.int 26))) fun t29 => (qOp2 ixU (.str [97, 98, 99, 100, 101, 102, 103, 104, 105, 106, 107, 108, 109, 110, 111, 112, 113, 114, 115, 116, 117, 118, 119, 120, 121, 122]) t29)) fun t32 => (qB (qB (qOp2 modO x10 (.int 8)) fun t41 => (qOp2 addU (.int 1) t41)) fun t44 => (qOp2 mulU t32 t44))) fun y45 => qP (some y45)))) fun l46 => qP (.fz l46)) fun found_47 => (qP (.nxt found_47))) else (qB (m__law_letters [x_pot, x_many]) fun found_48 => (qP (.nxt found_48)))) fun a9 => (qB (qB (qB (qB (m__law_order [x_pot, x_many]) qIt) (qComp fun x49 => (qB (qOp2 ixU a9 x49) fun y54 => qP (some y54)))) fun l55 => qP (.fz l55)) fun t56 => qP (.ret t56)))))
noncomputable def q__law_names (x_pot x_many : T) : Q T := qFn (qb__law_names x_pot x_many)
theorem sb__law_names (x_pot x_many : T) : SC (fun _ => True) (b__law_names) [.val x_pot, .val x_many, .emp, .emp, .emp, .emp, .emp] (qb__law_names x_pot x_many) (fun (_ : Unit) _ => True) (fun (_ : Unit) _ => False) := by
  unfold b__law_names qb__law_names
  exact (c_let (sFn (aV (v_var (i := 0)) (aV v_con (aN fEnd)))) fun way_1 => (c_let (sFn (aV (v_var (i := 0)) (aV v_con (aN fEnd)))) fun turn_2 => (c_letV v_con (c_seq (A := fun (a : T) s => s = [.val x_pot, .val x_many, .val way_1, .val turn_2, .val (.str [97, 98, 99, 100, 101, 102, 103, 104, 105, 106, 107, 108, 109, 110, 111, 112, 113, 114, 115, 116, 117, 118, 119, 120, 121, 122]), .val a, .emp]) (c_if (tB (sOp2 (oV (i := 2) fun r4 h5 => (oC v_con fun r6 h7 => (rd2 h5 h7))))) (c_end (c_let (sFz (g_comp (K := yes) (sRange (aV (v_var (i := 1)) (aN (rgEnd (t := x_many))))) (fun _ => trivial) (by simp only [List.all_cons, List.all_nil, List.getElem?_cons_zero, List.getElem?_cons_succ, List.set_cons_zero, List.set_cons_succ, nO_v, nO_e, nO_j, Bool.and_self]) rfl fun x10 => (sa_nm (sa_nil (g_all (sOp2 (oG (sOp2 (oV (i := 4) fun r11 h12 => (oG (sOp2 (oG (sOp2 (oV (i := 3) fun r13 h14 => (oG (sOp2 (oV (i := 6) fun r15 h16 => (oC v_con fun r17 h18 => (rd2 h16 h18)))) fun t21 r19 h20 => (rd2 h14 h20)))) fun t24 r22 h23 => (oC v_con fun r25 h26 => (rd2 h23 h26)))) fun t29 r27 h28 => (rd2 h12 h28)))) fun t32 r30 h31 => (oG (sOp2 (oC v_con fun r33 h34 => (oG (sOp2 (oV (i := 6) fun r35 h36 => (oC v_con fun r37 h38 => (rd2 h36 h38)))) fun t41 r39 h40 => (rd2 h34 h40)))) fun t44 r42 h43 => (rd2 h31 h43)))) rfl))))) fun found_47 => (c_nxt rfl))) (c_end (c_let (sFn (aV (v_var (i := 0)) (aV (v_var (i := 1)) (aN fEnd)))) fun found_48 => (c_nxt rfl)))) (fun | a9, _, rfl => (c_ret (sFz (g_comp (K := yes) (iUE (sFn (aV (v_var (i := 0)) (aV (v_var (i := 1)) (aN fEnd))))) (fun _ => trivial) (by simp only [List.all_cons, List.all_nil, List.getElem?_cons_zero, List.getElem?_cons_succ, List.set_cons_zero, List.set_cons_succ, nO_v, nO_e, nO_j, Bool.and_self]) rfl fun x49 => (sa_nm (sa_nil (g_all (sOp2 (oV (i := 5) fun r50 h51 => (oV (i := 6) fun r52 h53 => (rd2 h51 h53)))) rfl)))))))))))
theorem qs__law_names {x_pot x_many : T} {S S' : List Ob} {r : R T} (h : q__law_names x_pot x_many S = some (r, S')) : m__law_names [x_pot, x_many] S = some (r, S') := fn_sim (n := 7) (ts := [x_pot, x_many]) (sb__law_names x_pot x_many) h
noncomputable def qb__law_text (x_pot x_most : T) : Q (F Unit Unit) :=
    (qB (qB (qTy "str" (.str [])) fun _ => (qB (qB (qB (qB (qB (qOp2 addU x_most (.int 1)) fun t8 => (m__law_pick [x_pot, t8])) fun t9 => (qRange t9)) (qComp fun x10 => (qB (qB (qB (qCall lenO [(.str [32, 33, 34, 35, 36, 38, 39, 40, 41, 42, 43, 44, 45, 46, 47, 48, 49, 50, 51, 52, 53, 54, 55, 56, 57, 58, 59, 60, 61, 62, 63, 64, 65, 66, 67, 68, 69, 70, 71, 72, 73, 74, 75, 76, 77, 78, 79, 80, 81, 82, 83, 84, 85, 86, 87, 88, 89, 90, 91, 92, 93, 94, 95, 96, 97, 98, 99, 100, 101, 102, 103, 104, 105, 106, 107, 108, 109, 110, 111, 112, 113, 114, 115, 116, 117, 118, 119, 120, 121, 122, 123, 124, 125, 126, 10, 9])]) fun t15 => (m__law_pick [x_pot, t15])) fun t18 => (qOp2 ixU (.str [32, 33, 34, 35, 36, 38, 39, 40, 41, 42, 43, 44, 45, 46, 47, 48, 49, 50, 51, 52, 53, 54, 55, 56, 57, 58, 59, 60, 61, 62, 63, 64, 65, 66, 67, 68, 69, 70, 71, 72, 73, 74, 75, 76, 77, 78, 79, 80, 81, 82, 83, 84, 85, 86, 87, 88, 89, 90, 91, 92, 93, 94, 95, 96, 97, 98, 99, 100, 101, 102, 103, 104, 105, 106, 107, 108, 109, 110, 111, 112, 113, 114, 115, 116, 117, 118, 119, 120, 121, 122, 123, 124, 125, 126, 10, 9]) t18)) fun y19 => qP (some y19)))) fun l20 => qP (.fz l20)) fun t21 => (qMeth joinF (.str []) [t21]))) fun t22 => qP (.ret t22))
noncomputable def q__law_text (x_pot x_most : T) : Q T := qFn (qb__law_text x_pot x_most)
theorem sb__law_text (x_pot x_most : T) : SC (fun _ => True) (b__law_text) [.val x_pot, .val x_most, .emp, .emp] (qb__law_text x_pot x_most) (fun (_ : Unit) _ => True) (fun (_ : Unit) _ => False) := by
  unfold b__law_text qb__law_text
  exact (c_letV v_con (c_ret (sMeth (oC v_con fun r2 h3 => (isTyB h3 (aE (sFz (g_comp (K := yes) (sRange (aE (sFn (aV (v_var (i := 0)) (aE (sOp2 (oV (i := 1) fun r4 h5 => (oC v_con fun r6 h7 => (rd2 h5 h7)))) fun t8 => (aN fEnd)))) fun t9 => (aN (rgEnd (t := t9))))) (fun _ => trivial) (by simp only [List.all_cons, List.all_nil, List.getElem?_cons_zero, List.getElem?_cons_succ, List.set_cons_zero, List.set_cons_succ, nO_v, nO_e, nO_j, Bool.and_self]) rfl fun x10 => (sa_nm (sa_nil (g_all (sOp2 (oV (i := 2) fun r11 h12 => (oG (sFn (aV (v_var (i := 0)) (aE (sCall (rC (oV (i := 2) fun r13 h14 => (rN (rEnd (rdc h14 rdn)))))) fun t15 => (aN fEnd)))) fun t18 r16 h17 => (rd2 h12 h17)))) rfl))))) fun t21 => (aN (mEnd h3))))))))
theorem qs__law_text {x_pot x_most : T} {S S' : List Ob} {r : R T} (h : q__law_text x_pot x_most S = some (r, S')) : m__law_text [x_pot, x_most] S = some (r, S') := fn_sim (n := 4) (ts := [x_pot, x_most]) (sb__law_text x_pot x_most) h
noncomputable def qb__law_plain_worth (x_pot x_way : T) : Q (F Unit Unit) :=
    (qB (qB (qOp2 eqT x_way (.int 0)) qTr) fun b5 => if b5 then (qB (qB (m__law_pick [x_pot, (.int 2)]) fun t10 => (qOp2 ixU (.fz [(.tup [(.str [110, 111, 110, 101])]), (.tup [(.str [110, 111, 116])])]) t10)) fun t11 => qP (.ret t11)) else (qB (qB (qOp2 eqT x_way (.int 1)) qTr) fun b16 => if b16 then (qB (qB (qB (m__law_pick [x_pot, (.int 2)]) fun t24 => (qOp2 eqT t24 (.int 0))) fun t27 => (qP (.tup [(.str [116, 114, 117, 116, 104]), t27]))) fun t28 => qP (.ret t28)) else (qB (qB (qOp2 eqT x_way (.int 2)) qTr) fun b33 => if b33 then (qB (qB (qB (qOp2 powO (.int 10) (.int 9)) fun t42 => (qB (qB (qOp2 powO (.int 10) (.int 9)) fun t47 => qB (qI t47) fun i48 => qP (.int (-i48))) fun t49 => (qB (qB (qB (qB (qB (qOp2 powO (.int 10) (.int 9)) fun t58 => (qOp2 mulU (.int 2) t58)) fun t61 => (qOp2 addU t61 (.int 1))) fun t64 => (m__law_pick [x_pot, t64])) fun t67 => (qB (qOp2 powO (.int 10) (.int 9)) fun t74 => (qOp2 subO t67 t74))) fun t75 => (qP [(.int 0), (.int 1), (.int (-1)), t42, t49, t75])))) fun l76 => qP (.fz l76)) fun far_77 => (qB (qB (qB (m__law_pick [x_pot, (.int 6)]) fun t87 => (qOp2 ixU far_77 t87)) fun t88 => (qP (.tup [(.str [110, 117, 109, 98, 101, 114]), t88]))) fun t89 => qP (.ret t89))) else (qB (qB (qB (qB (qB (qOp2 mulU (.str [120]) (.int 20)) fun t115 => (qB (m__law_text [x_pot, (.int 20)]) fun t116 => (qP [(.str []), t115, t116]))) fun l117 => qP (.fz l117)) fun t120 => (qB (m__law_pick [x_pot, (.int 3)]) fun t123 => (qOp2 ixU t120 t123))) fun t124 => (qP (.tup [(.str [116, 101, 120, 116]), t124]))) fun t125 => qP (.ret t125)))))
noncomputable def q__law_plain_worth (x_pot x_way : T) : Q T := qFn (qb__law_plain_worth x_pot x_way)
theorem sb__law_plain_worth (x_pot x_way : T) : SC (fun _ => True) (b__law_plain_worth) [.val x_pot, .val x_way, .emp] (qb__law_plain_worth x_pot x_way) (fun (_ : Unit) _ => True) (fun (_ : Unit) _ => False) := by
  unfold b__law_plain_worth qb__law_plain_worth
  exact (c_ifr (tB (sOp2 (oV (i := 1) fun r1 h2 => (oC v_con fun r3 h4 => (rd2 h2 h4))))) (c_exit (c_ret (sOp2 (oC (v_lst (v_aC (v_tup (v_aC v_con v_aN)) (v_aC (v_tup (v_aC v_con v_aN)) v_aN))) fun r6 h7 => (oG (sFn (aV (v_var (i := 0)) (aV v_con (aN fEnd)))) fun t10 r8 h9 => (rd2 h7 h9)))))) (c_skip (c_ifr (tB (sOp2 (oV (i := 1) fun r12 h13 => (oC v_con fun r14 h15 => (rd2 h13 h15))))) (c_exit (c_ret (sTup (aV v_con (aE (sOp2 (oG (sFn (aV (v_var (i := 0)) (aV v_con (aN fEnd)))) fun t24 r22 h23 => (oC v_con fun r25 h26 => (rd2 h23 h26)))) fun t27 => (aN tEndV)))))) (c_skip (c_ifr (tB (sOp2 (oV (i := 1) fun r29 h30 => (oC v_con fun r31 h32 => (rd2 h30 h32))))) (c_exit (c_let (sFz (sLst (aV v_con (aV v_con (aV (v_neg v_con) (aE (sOp2 (oC v_con fun r38 h39 => (oC v_con fun r40 h41 => (rd2 h39 h41)))) fun t42 => (aE (sNeg (sOp2 (oC v_con fun r43 h44 => (oC v_con fun r45 h46 => (rd2 h44 h46))))) fun t49 => (aE (sOp2 (oG (sFn (aV (v_var (i := 0)) (aE (sOp2 (oG (sOp2 (oC v_con fun r50 h51 => (oG (sOp2 (oC v_con fun r52 h53 => (oC v_con fun r54 h55 => (rd2 h53 h55)))) fun t58 r56 h57 => (rd2 h51 h57)))) fun t61 r59 h60 => (oC v_con fun r62 h63 => (rd2 h60 h63)))) fun t64 => (aN fEnd)))) fun t67 r65 h66 => (oG (sOp2 (oC v_con fun r68 h69 => (oC v_con fun r70 h71 => (rd2 h69 h71)))) fun t74 r72 h73 => (rd2 h66 h73)))) fun t75 => (aN lEnd))))))))) fun far_77 => (c_ret (sTup (aV v_con (aE (sOp2 (oV (i := 2) fun r83 h84 => (oG (sFn (aV (v_var (i := 0)) (aV v_con (aN fEnd)))) fun t87 r85 h86 => (rd2 h84 h86)))) fun t88 => (aN tEndV))))))) (c_skip (c_ret (sTup (aV v_con (aE (sOp2 (oG (sFz (sLst (aV v_con (aE (sOp2 (oC v_con fun r111 h112 => (oC v_con fun r113 h114 => (rd2 h112 h114)))) fun t115 => (aE (sFn (aV (v_var (i := 0)) (aV v_con (aN fEnd)))) fun t116 => (aN lEnd)))))) fun t120 r118 h119 => (oG (sFn (aV (v_var (i := 0)) (aV v_con (aN fEnd)))) fun t123 r121 h122 => (rd2 h119 h122)))) fun t124 => (aN tEndV)))))))))))
theorem qs__law_plain_worth {x_pot x_way : T} {S S' : List Ob} {r : R T} (h : q__law_plain_worth x_pot x_way S = some (r, S')) : m__law_plain_worth [x_pot, x_way] S = some (r, S') := fn_sim (n := 3) (ts := [x_pot, x_way]) (sb__law_plain_worth x_pot x_way) h
noncomputable def qb__law_worth (m__law_worth : FnM) (x_pot x_names x_bound : T) : Q (F Unit Unit) :=
    (qB (qB (qB (qCall intO [x_bound]) fun t7 => (qOp2 addU (.int 8) t7)) fun t8 => (m__law_pick [x_pot, t8])) fun way_9 => (qB (qB (qOp2 ltO way_9 (.int 4)) qTr) fun b14 => if b14 then (qB (m__law_plain_worth [x_pot, way_9]) fun t15 => qP (.ret t15)) else (qB (qB (qB (qCall lenO [x_names]) fun t20 => (m__law_pick [x_pot, t20])) fun t23 => (qOp2 ixU x_names t23)) fun name_24 => (qB (qB (qOp2 ltO way_9 (.int 6)) qTr) fun b29 => if b29 then (qB (qB (qB (qOp2 subO way_9 (.int 4)) fun t47 => (qOp2 ixU (.fz [(.str [107, 105, 110, 100]), (.str [100, 101, 101, 100])]) t47)) fun t48 => (qP (.tup [t48, name_24]))) fun t49 => qP (.ret t49)) else (qB (qB (qOp2 eqT way_9 (.int 6)) qTr) fun b54 => if b54 then (qB (qB (qB (qB (qB (m__law_pick [x_pot, (.int 60)]) fun t69 => (qB (qB (qOp2 powO (.int 10) (.int 30)) fun t74 => (m__law_pick [x_pot, t74])) fun t75 => (qP [(.int 0), (.int 59), t69, t75]))) fun l76 => qP (.fz l76)) fun t79 => (qB (m__law_pick [x_pot, (.int 4)]) fun t82 => (qOp2 ixU t79 t82))) fun t83 => (qP (.tup [(.str [116, 104, 105, 110, 103]), t83]))) fun t84 => qP (.ret t84)) else (qB (qB (qB (qCall lenO [x_names]) fun t89 => (m__law_pick [x_pot, t89])) fun t92 => (qOp2 ixU x_names t92)) fun other_93 => (qB (qB (qOp2 eqT way_9 (.int 7)) qTr) fun b98 => if b98 then (qB (qB (qB (m__law_pick [x_pot, (.int 2)]) fun t108 => (qOp2 ixU (.fz [.non, other_93]) t108)) fun t109 => (qP (.tup [(.str [103, 97, 116, 101]), name_24, t109]))) fun t110 => qP (.ret t110)) else (qB (qB (m__law_worth [x_pot, x_names, (.bl false)]) fun t111 => (qP (.tup [(.str [98, 111, 117, 110, 100]), name_24, other_93, t111]))) fun t112 => qP (.ret t112)))))))))
noncomputable def q__law_worth (m__law_worth : FnM) (x_pot x_names x_bound : T) : Q T := qFn (qb__law_worth m__law_worth x_pot x_names x_bound)
theorem sb__law_worth (m__law_worth : FnM) (x_pot x_names x_bound : T) : SC (fun _ => True) (b__law_worth m__law_worth) [.val x_pot, .val x_names, .val x_bound, .emp, .emp, .emp] (qb__law_worth m__law_worth x_pot x_names x_bound) (fun (_ : Unit) _ => True) (fun (_ : Unit) _ => False) := by
  unfold b__law_worth qb__law_worth
  exact (c_let (sFn (aV (v_var (i := 0)) (aE (sOp2 (oC v_con fun r1 h2 => (oG (sCall (rC (oV (i := 2) fun r3 h4 => (rN (rEnd (rdc h4 rdn)))))) fun t7 r5 h6 => (rd2 h2 h6)))) fun t8 => (aN fEnd)))) fun way_9 => (c_ifr (tB (sOp2 (oV (i := 3) fun r10 h11 => (oC v_con fun r12 h13 => (rd2 h11 h13))))) (c_exit (c_ret (sFn (aV (v_var (i := 0)) (aV (v_var (i := 3)) (aN fEnd)))))) (c_skip (c_let (sOp2 (oV (i := 1) fun r16 h17 => (oG (sFn (aV (v_var (i := 0)) (aE (sCall (rC (oV (i := 1) fun r18 h19 => (rN (rEnd (rdc h19 rdn)))))) fun t20 => (aN fEnd)))) fun t23 r21 h22 => (rd2 h17 h22)))) fun name_24 => (c_ifr (tB (sOp2 (oV (i := 3) fun r25 h26 => (oC v_con fun r27 h28 => (rd2 h26 h28))))) (c_exit (c_ret (sTup (aE (sOp2 (oC (v_lst (v_aC v_con (v_aC v_con v_aN))) fun r39 h40 => (oG (sOp2 (oV (i := 3) fun r41 h42 => (oC v_con fun r43 h44 => (rd2 h42 h44)))) fun t47 r45 h46 => (rd2 h40 h46)))) fun t48 => (aV (v_var (i := 4)) (aN tEndV)))))) (c_skip (c_ifr (tB (sOp2 (oV (i := 3) fun r50 h51 => (oC v_con fun r52 h53 => (rd2 h51 h53))))) (c_exit (c_ret (sTup (aV v_con (aE (sOp2 (oG (sFz (sLst (aV v_con (aV v_con (aE (sFn (aV (v_var (i := 0)) (aV v_con (aN fEnd)))) fun t69 => (aE (sFn (aV (v_var (i := 0)) (aE (sOp2 (oC v_con fun r70 h71 => (oC v_con fun r72 h73 => (rd2 h71 h73)))) fun t74 => (aN fEnd)))) fun t75 => (aN lEnd))))))) fun t79 r77 h78 => (oG (sFn (aV (v_var (i := 0)) (aV v_con (aN fEnd)))) fun t82 r80 h81 => (rd2 h78 h81)))) fun t83 => (aN tEndV)))))) (c_skip (c_let (sOp2 (oV (i := 1) fun r85 h86 => (oG (sFn (aV (v_var (i := 0)) (aE (sCall (rC (oV (i := 1) fun r87 h88 => (rN (rEnd (rdc h88 rdn)))))) fun t89 => (aN fEnd)))) fun t92 r90 h91 => (rd2 h86 h91)))) fun other_93 => (c_ifr (tB (sOp2 (oV (i := 3) fun r94 h95 => (oC v_con fun r96 h97 => (rd2 h95 h97))))) (c_exit (c_ret (sTup (aV v_con (aV (v_var (i := 4)) (aE (sOp2 (oC (v_lst (v_aC v_con (v_aC (v_var (i := 5)) v_aN))) fun r104 h105 => (oG (sFn (aV (v_var (i := 0)) (aV v_con (aN fEnd)))) fun t108 r106 h107 => (rd2 h105 h107)))) fun t109 => (aN tEndV))))))) (c_skip (c_ret (sTup (aV v_con (aV (v_var (i := 4)) (aV (v_var (i := 5)) (aE (sFn (aV (v_var (i := 0)) (aV (v_var (i := 1)) (aV v_con (aN fEnd))))) fun t111 => (aN tEndV))))))))))))))))))
theorem qs__law_worth {d : Nat} {x_pot x_names x_bound : T} {S S' : List Ob} {r : R T} (h : q__law_worth (m__law_worth d) x_pot x_names x_bound S = some (r, S')) : m__law_worth (d + 1) [x_pot, x_names, x_bound] S = some (r, S') := fn_sim (n := 6) (ts := [x_pot, x_names, x_bound]) (sb__law_worth (m__law_worth d) x_pot x_names x_bound) h
noncomputable def qb__law_is_name (x_thing : T) : Q (F Unit Unit) :=
    (qB (qB (qB (qB (qCall isiO [x_thing, (.ty "str")]) qTr) fun b16 => qP (!b16)) fun b17 => if b17 then qP true else (qB (qB (qB (qCall lenO [x_thing]) fun t7 => (qB (qOp2 ltO (.int 0) t7) fun t10 => qCh t10 (qOp2 ltO t7 (.int 9)))) qTr) fun b11 => qP (!b11))) fun b18 => if b18 then (qP (.ret (.bl false))) else (qB (qB (qB (qB (qIt x_thing) (qComp fun x19 => (qB (qB (qOp2 ninU x19 (.str [97, 98, 99, 100, 101, 102, 103, 104, 105, 106, 107, 108, 109, 110, 111, 112, 113, 114, 115, 116, 117, 118, 119, 120, 121, 122])) qTr) fun b24 => if b24 then qP (some x19) else qP none))) fun l25 => qP (.fz l25)) fun t28 => (qOp2 eqT t28 (.fz []))) fun t31 => qP (.ret t31)))
noncomputable def q__law_is_name (x_thing : T) : Q T := qFn (qb__law_is_name x_thing)
theorem sb__law_is_name (x_thing : T) : SC (fun _ => True) (b__law_is_name) [.val x_thing, .emp] (qb__law_is_name x_thing) (fun (_ : Unit) _ => True) (fun (_ : Unit) _ => False) := by
  unfold b__law_is_name qb__law_is_name
  exact (c_ifr (tOr (tNot (tB (sCall (rC (oV (i := 0) fun r12 h13 => (rC (oC v_con fun r14 h15 => (rN (rEnd (rdc h13 (rdc h15 rdn))))))))))) (tNot (tB (sChain (oC v_con fun r1 h2 => (oG (sCall (rC (oV (i := 0) fun r3 h4 => (rN (rEnd (rdc h4 rdn)))))) fun t7 r5 h6 => (chEnd h2 h6 (oC v_con fun r8 h9 => (rd2 h6 h9))))))))) (c_exit (c_retV v_con)) (c_skip (c_ret (sOp2 (oG (sFz (g_comp (K := yes) (iUV (v_var (i := 0))) (fun _ => trivial) (by simp only [List.all_cons, List.all_nil, List.getElem?_cons_zero, List.getElem?_cons_succ, List.set_cons_zero, List.set_cons_succ, nO_v, nO_e, nO_j, Bool.and_self]) rfl fun x19 => (sa_nm (sa_nil (g_ifV (tB (sOp2 (oV (i := 1) fun r20 h21 => (oC v_con fun r22 h23 => (rd2 h21 h23))))) (v_var (i := 1)) rfl))))) fun t28 r26 h27 => (oC (v_lst v_aN) fun r29 h30 => (rd2 h27 h30)))))))
theorem qs__law_is_name {x_thing : T} {S S' : List Ob} {r : R T} (h : q__law_is_name x_thing S = some (r, S')) : m__law_is_name [x_thing] S = some (r, S') := fn_sim (n := 2) (ts := [x_thing]) (sb__law_is_name x_thing) h
noncomputable def qb__law_is_plain (x_thing : T) : Q (F Unit Unit) :=
    (qB (qB (qB (qB (qCall isiO [x_thing, (.ty "tuple")]) qTr) fun b23 => qP (!b23)) fun b24 => if b24 then qP true else (qB (qB (qB (qCall lenO [x_thing]) fun t15 => (qOp2 ninU t15 (.tup [(.int 1), (.int 2)]))) qTr) fun b18 => if b18 then qP true else (qB (qB (qB (qOp2 ixU x_thing (.int 0)) fun t7 => (qCall isiO [t7, (.ty "str")])) qTr) fun b10 => qP (!b10)))) fun b25 => if b25 then (qP (.ret (.bl false))) else (qB (qB (qB (qCall lenO [x_thing]) fun t30 => (qOp2 eqT t30 (.int 1))) qTr) fun b33 => if b33 then (qB (qB (qOp2 ixU x_thing (.int 0)) fun t40 => (qOp2 inTD t40 (.tup [(.str [110, 111, 110, 101]), (.str [110, 111, 116])]))) fun t43 => qP (.ret t43)) else (qB (qB (qB (qOp2 ixU x_thing (.int 0)) fun t50 => (qOp2 eqT t50 (.str [116, 114, 117, 116, 104]))) qTr) fun b53 => if b53 then (qB (qB (qOp2 ixU x_thing (.int 1)) fun t60 => (qCall isiO [t60, (.ty "bool")])) fun t63 => qP (.ret t63)) else (qB (qB (qB (qOp2 ixU x_thing (.int 0)) fun t70 => (qOp2 eqT t70 (.str [110, 117, 109, 98, 101, 114]))) qTr) fun b73 => if b73 then (qB (qB (qB (qB (qOp2 ixU x_thing (.int 1)) fun t91 => (qCall isiO [t91, (.ty "int")])) qTr) fun b94 => if b94 then (qB (qB (qOp2 ixU x_thing (.int 1)) fun t80 => (qCall isiO [t80, (.ty "bool")])) fun t83 => qB (qTr t83) fun b84 => qP (.bl (!b84))) else qP (.bl false)) fun whole_95 => (qB (qB (qB (qP whole_95) qTr) fun b123 => if b123 then (qB (qB (qOp2 powO (.int 10) (.int 9)) fun t104 => (qOp2 subO (.int 0) t104)) fun t107 => (qB (qOp2 ixU x_thing (.int 1)) fun t114 => (qB (qOp2 leO t107 t114) fun t122 => qCh t122 (qB (qOp2 powO (.int 10) (.int 9)) fun t121 => (qOp2 leO t114 t121))))) else qP (.bl false)) fun t124 => qP (.ret t124))) else (qB (qB (qB (qB (qOp2 ixU x_thing (.int 0)) fun t153 => (qOp2 eqT t153 (.str [116, 101, 120, 116]))) qTr) fun b156 => if b156 then (qB (qB (qB (qOp2 ixU x_thing (.int 1)) fun t143 => (qCall isiO [t143, (.ty "str")])) qTr) fun b146 => if b146 then (qB (qB (qOp2 ixU x_thing (.int 1)) fun t131 => (qCall lenO [t131])) fun t134 => (qOp2 ltO t134 (.int 21))) else qP (.bl false)) else qP (.bl false)) fun t157 => qP (.ret t157))))))
noncomputable def q__law_is_plain (x_thing : T) : Q T := qFn (qb__law_is_plain x_thing)
theorem sb__law_is_plain (x_thing : T) : SC (fun _ => True) (b__law_is_plain) [.val x_thing, .emp] (qb__law_is_plain x_thing) (fun (_ : Unit) _ => True) (fun (_ : Unit) _ => False) := by
  unfold b__law_is_plain qb__law_is_plain
  exact (c_ifr (tOr (tNot (tB (sCall (rC (oV (i := 0) fun r19 h20 => (rC (oC v_con fun r21 h22 => (rN (rEnd (rdc h20 (rdc h22 rdn))))))))))) (tOr (tB (sOp2 (oG (sCall (rC (oV (i := 0) fun r11 h12 => (rN (rEnd (rdc h12 rdn)))))) fun t15 r13 h14 => (oC (v_tup (v_aC v_con (v_aC v_con v_aN))) fun r16 h17 => (rd2 h14 h17))))) (tNot (tB (sCall (rC (oG (sOp2 (oV (i := 0) fun r1 h2 => (oC v_con fun r3 h4 => (rd2 h2 h4)))) fun t7 r5 h6 => (rC (oC v_con fun r8 h9 => (rN (rEnd (rdc h6 (rdc h9 rdn))))))))))))) (c_exit (c_retV v_con)) (c_skip (c_ifr (tB (sOp2 (oG (sCall (rC (oV (i := 0) fun r26 h27 => (rN (rEnd (rdc h27 rdn)))))) fun t30 r28 h29 => (oC v_con fun r31 h32 => (rd2 h29 h32))))) (c_exit (c_ret (sOp2 (oG (sOp2 (oV (i := 0) fun r34 h35 => (oC v_con fun r36 h37 => (rd2 h35 h37)))) fun t40 r38 h39 => (oC (v_tup (v_aC v_con (v_aC v_con v_aN))) fun r41 h42 => (rd2 h39 h42)))))) (c_skip (c_ifr (tB (sOp2 (oG (sOp2 (oV (i := 0) fun r44 h45 => (oC v_con fun r46 h47 => (rd2 h45 h47)))) fun t50 r48 h49 => (oC v_con fun r51 h52 => (rd2 h49 h52))))) (c_exit (c_ret (sCall (rC (oG (sOp2 (oV (i := 0) fun r54 h55 => (oC v_con fun r56 h57 => (rd2 h55 h57)))) fun t60 r58 h59 => (rC (oC v_con fun r61 h62 => (rN (rEnd (rdc h59 (rdc h62 rdn))))))))))) (c_skip (c_ifr (tB (sOp2 (oG (sOp2 (oV (i := 0) fun r64 h65 => (oC v_con fun r66 h67 => (rd2 h65 h67)))) fun t70 r68 h69 => (oC v_con fun r71 h72 => (rd2 h69 h72))))) (c_exit (c_let (sAnd (sCall (rC (oG (sOp2 (oV (i := 0) fun r85 h86 => (oC v_con fun r87 h88 => (rd2 h86 h88)))) fun t91 r89 h90 => (rC (oC v_con fun r92 h93 => (rN (rEnd (rdc h90 (rdc h93 rdn))))))))) (sNot (sCall (rC (oG (sOp2 (oV (i := 0) fun r74 h75 => (oC v_con fun r76 h77 => (rd2 h75 h77)))) fun t80 r78 h79 => (rC (oC v_con fun r81 h82 => (rN (rEnd (rdc h79 (rdc h82 rdn))))))))))) fun whole_95 => (c_ret (sAnd (eV (v_var (i := 1))) (sChain (oG (sOp2 (oC v_con fun r96 h97 => (oG (sOp2 (oC v_con fun r98 h99 => (oC v_con fun r100 h101 => (rd2 h99 h101)))) fun t104 r102 h103 => (rd2 h97 h103)))) fun t107 r105 h106 => (oG (sOp2 (oV (i := 0) fun r108 h109 => (oC v_con fun r110 h111 => (rd2 h109 h111)))) fun t114 r112 h113 => (chEnd h106 h113 (oG (sOp2 (oC v_con fun r115 h116 => (oC v_con fun r117 h118 => (rd2 h116 h118)))) fun t121 r119 h120 => (rd2 h113 h120)))))))))) (c_skip (c_ret (sAnd (sOp2 (oG (sOp2 (oV (i := 0) fun r147 h148 => (oC v_con fun r149 h150 => (rd2 h148 h150)))) fun t153 r151 h152 => (oC v_con fun r154 h155 => (rd2 h152 h155)))) (sAnd (sCall (rC (oG (sOp2 (oV (i := 0) fun r137 h138 => (oC v_con fun r139 h140 => (rd2 h138 h140)))) fun t143 r141 h142 => (rC (oC v_con fun r144 h145 => (rN (rEnd (rdc h142 (rdc h145 rdn))))))))) (sOp2 (oG (sCall (rC (oG (sOp2 (oV (i := 0) fun r125 h126 => (oC v_con fun r127 h128 => (rd2 h126 h128)))) fun t131 r129 h130 => (rN (rEnd (rdc h130 rdn)))))) fun t134 r132 h133 => (oC v_con fun r135 h136 => (rd2 h133 h136)))))))))))))))
theorem qs__law_is_plain {x_thing : T} {S S' : List Ob} {r : R T} (h : q__law_is_plain x_thing S = some (r, S')) : m__law_is_plain [x_thing] S = some (r, S') := fn_sim (n := 2) (ts := [x_thing]) (sb__law_is_plain x_thing) h
noncomputable def qb__law_is_worth (m__law_is_worth : FnM) (x_thing : T) : Q (F Unit Unit) :=
    (qB (qB (m__law_is_plain [x_thing]) qTr) fun b1 => if b1 then (qP (.ret (.bl true))) else (qB (qB (qB (qB (qCall isiO [x_thing, (.ty "tuple")]) qTr) fun b24 => qP (!b24)) fun b25 => if b25 then qP true else (qB (qB (qB (qCall lenO [x_thing]) fun t16 => (qOp2 ltO t16 (.int 2))) qTr) fun b19 => if b19 then qP true else (qB (qB (qB (qOp2 ixU x_thing (.int 0)) fun t8 => (qCall isiO [t8, (.ty "str")])) qTr) fun b11 => qP (!b11)))) fun b26 => if b26 then (qP (.ret (.bl false))) else (qB (qB (qB (qB (qCall lenO [x_thing]) fun t40 => (qOp2 eqT t40 (.int 2))) qTr) fun b43 => if b43 then (qB (qB (qOp2 ixU x_thing (.int 0)) fun t33 => (qOp2 inTD t33 (.tup [(.str [107, 105, 110, 100]), (.str [100, 101, 101, 100])]))) qTr) else qP false) fun b44 => if b44 then (qB (qB (qOp2 ixU x_thing (.int 1)) fun t49 => (m__law_is_name [t49])) fun t50 => qP (.ret t50)) else (qB (qB (qB (qB (qCall lenO [x_thing]) fun t64 => (qOp2 eqT t64 (.int 2))) qTr) fun b67 => if b67 then (qB (qB (qOp2 ixU x_thing (.int 0)) fun t57 => (qOp2 eqT t57 (.str [116, 104, 105, 110, 103]))) qTr) else qP false) fun b68 => if b68 then (qB (qB (qB (qB (qOp2 ixU x_thing (.int 1)) fun t96 => (qCall isiO [t96, (.ty "int")])) qTr) fun b99 => if b99 then (qB (qB (qB (qB (qOp2 ixU x_thing (.int 1)) fun t84 => (qCall isiO [t84, (.ty "bool")])) fun t87 => qB (qTr t87) fun b88 => qP (.bl (!b88))) qTr) fun b89 => if b89 then (qB (qOp2 ixU x_thing (.int 1)) fun t75 => (qOp2 geO t75 (.int 0))) else qP (.bl false)) else qP (.bl false)) fun t100 => qP (.ret t100)) else (qB (qB (qB (qB (qCall lenO [x_thing]) fun t114 => (qOp2 eqT t114 (.int 3))) qTr) fun b117 => if b117 then (qB (qB (qOp2 ixU x_thing (.int 0)) fun t107 => (qOp2 eqT t107 (.str [103, 97, 116, 101]))) qTr) else qP false) fun b118 => if b118 then (qB (qB (qB (qB (qOp2 ixU x_thing (.int 1)) fun t138 => (m__law_is_name [t138])) qTr) fun b139 => if b139 then (qB (qB (qB (qOp2 ixU x_thing (.int 2)) fun t130 => (qOp2 isNO t130 .non)) qTr) fun b133 => if b133 then qP (.bl true) else (qB (qOp2 ixU x_thing (.int 2)) fun t123 => (m__law_is_name [t123]))) else qP (.bl false)) fun t140 => qP (.ret t140)) else (qB (qB (qB (qB (qCall lenO [x_thing]) fun t168 => (qOp2 neT t168 (.int 4))) qTr) fun b171 => if b171 then qP true else (qB (qB (qB (qOp2 ixU x_thing (.int 0)) fun t160 => (qOp2 neT t160 (.str [98, 111, 117, 110, 100]))) qTr) fun b163 => if b163 then qP true else (qB (qB (qB (qB (qOp2 ixU x_thing (.int 1)) fun t151 => (m__law_is_name [t151])) qTr) fun b152 => qP (!b152)) fun b153 => if b153 then qP true else (qB (qB (qB (qOp2 ixU x_thing (.int 2)) fun t145 => (m__law_is_name [t145])) qTr) fun b146 => qP (!b146))))) fun b172 => if b172 then (qP (.ret (.bl false))) else (qB (qB (qB (qB (qOp2 ixU x_thing (.int 3)) fun t191 => (m__law_is_worth [t191])) qTr) fun b192 => if b192 then (qB (qB (qOp2 ixU x_thing (.int 3)) fun t179 => (qOp2 ixU t179 (.int 0))) fun t184 => (qOp2 neT t184 (.str [98, 111, 117, 110, 100]))) else qP (.bl false)) fun t193 => qP (.ret t193))))))))
noncomputable def q__law_is_worth (m__law_is_worth : FnM) (x_thing : T) : Q T := qFn (qb__law_is_worth m__law_is_worth x_thing)
theorem sb__law_is_worth (m__law_is_worth : FnM) (x_thing : T) : SC (fun _ => True) (b__law_is_worth m__law_is_worth) [.val x_thing] (qb__law_is_worth m__law_is_worth x_thing) (fun (_ : Unit) _ => True) (fun (_ : Unit) _ => False) := by
  unfold b__law_is_worth qb__law_is_worth
  exact (c_ifr (tB (sFn (aV (v_var (i := 0)) (aN fEnd)))) (c_exit (c_retV v_con)) (c_skip (c_ifr (tOr (tNot (tB (sCall (rC (oV (i := 0) fun r20 h21 => (rC (oC v_con fun r22 h23 => (rN (rEnd (rdc h21 (rdc h23 rdn))))))))))) (tOr (tB (sOp2 (oG (sCall (rC (oV (i := 0) fun r12 h13 => (rN (rEnd (rdc h13 rdn)))))) fun t16 r14 h15 => (oC v_con fun r17 h18 => (rd2 h15 h18))))) (tNot (tB (sCall (rC (oG (sOp2 (oV (i := 0) fun r2 h3 => (oC v_con fun r4 h5 => (rd2 h3 h5)))) fun t8 r6 h7 => (rC (oC v_con fun r9 h10 => (rN (rEnd (rdc h7 (rdc h10 rdn))))))))))))) (c_exit (c_retV v_con)) (c_skip (c_ifr (tAnd (tB (sOp2 (oG (sCall (rC (oV (i := 0) fun r36 h37 => (rN (rEnd (rdc h37 rdn)))))) fun t40 r38 h39 => (oC v_con fun r41 h42 => (rd2 h39 h42))))) (tB (sOp2 (oG (sOp2 (oV (i := 0) fun r27 h28 => (oC v_con fun r29 h30 => (rd2 h28 h30)))) fun t33 r31 h32 => (oC (v_tup (v_aC v_con (v_aC v_con v_aN))) fun r34 h35 => (rd2 h32 h35)))))) (c_exit (c_ret (sFn (aE (sOp2 (oV (i := 0) fun r45 h46 => (oC v_con fun r47 h48 => (rd2 h46 h48)))) fun t49 => (aN fEnd))))) (c_skip (c_ifr (tAnd (tB (sOp2 (oG (sCall (rC (oV (i := 0) fun r60 h61 => (rN (rEnd (rdc h61 rdn)))))) fun t64 r62 h63 => (oC v_con fun r65 h66 => (rd2 h63 h66))))) (tB (sOp2 (oG (sOp2 (oV (i := 0) fun r51 h52 => (oC v_con fun r53 h54 => (rd2 h52 h54)))) fun t57 r55 h56 => (oC v_con fun r58 h59 => (rd2 h56 h59)))))) (c_exit (c_ret (sAnd (sCall (rC (oG (sOp2 (oV (i := 0) fun r90 h91 => (oC v_con fun r92 h93 => (rd2 h91 h93)))) fun t96 r94 h95 => (rC (oC v_con fun r97 h98 => (rN (rEnd (rdc h95 (rdc h98 rdn))))))))) (sAnd (sNot (sCall (rC (oG (sOp2 (oV (i := 0) fun r78 h79 => (oC v_con fun r80 h81 => (rd2 h79 h81)))) fun t84 r82 h83 => (rC (oC v_con fun r85 h86 => (rN (rEnd (rdc h83 (rdc h86 rdn)))))))))) (sOp2 (oG (sOp2 (oV (i := 0) fun r69 h70 => (oC v_con fun r71 h72 => (rd2 h70 h72)))) fun t75 r73 h74 => (oC v_con fun r76 h77 => (rd2 h74 h77)))))))) (c_skip (c_ifr (tAnd (tB (sOp2 (oG (sCall (rC (oV (i := 0) fun r110 h111 => (rN (rEnd (rdc h111 rdn)))))) fun t114 r112 h113 => (oC v_con fun r115 h116 => (rd2 h113 h116))))) (tB (sOp2 (oG (sOp2 (oV (i := 0) fun r101 h102 => (oC v_con fun r103 h104 => (rd2 h102 h104)))) fun t107 r105 h106 => (oC v_con fun r108 h109 => (rd2 h106 h109)))))) (c_exit (c_ret (sAnd (sFn (aE (sOp2 (oV (i := 0) fun r134 h135 => (oC v_con fun r136 h137 => (rd2 h135 h137)))) fun t138 => (aN fEnd))) (sOr (sOp2 (oG (sOp2 (oV (i := 0) fun r124 h125 => (oC v_con fun r126 h127 => (rd2 h125 h127)))) fun t130 r128 h129 => (oC v_con fun r131 h132 => (rd2 h129 h132)))) (sFn (aE (sOp2 (oV (i := 0) fun r119 h120 => (oC v_con fun r121 h122 => (rd2 h120 h122)))) fun t123 => (aN fEnd))))))) (c_skip (c_ifr (tOr (tB (sOp2 (oG (sCall (rC (oV (i := 0) fun r164 h165 => (rN (rEnd (rdc h165 rdn)))))) fun t168 r166 h167 => (oC v_con fun r169 h170 => (rd2 h167 h170))))) (tOr (tB (sOp2 (oG (sOp2 (oV (i := 0) fun r154 h155 => (oC v_con fun r156 h157 => (rd2 h155 h157)))) fun t160 r158 h159 => (oC v_con fun r161 h162 => (rd2 h159 h162))))) (tOr (tNot (tB (sFn (aE (sOp2 (oV (i := 0) fun r147 h148 => (oC v_con fun r149 h150 => (rd2 h148 h150)))) fun t151 => (aN fEnd))))) (tNot (tB (sFn (aE (sOp2 (oV (i := 0) fun r141 h142 => (oC v_con fun r143 h144 => (rd2 h142 h144)))) fun t145 => (aN fEnd)))))))) (c_exit (c_retV v_con)) (c_skip (c_ret (sAnd (sFn (aE (sOp2 (oV (i := 0) fun r187 h188 => (oC v_con fun r189 h190 => (rd2 h188 h190)))) fun t191 => (aN fEnd))) (sOp2 (oG (sOp2 (oG (sOp2 (oV (i := 0) fun r173 h174 => (oC v_con fun r175 h176 => (rd2 h174 h176)))) fun t179 r177 h178 => (oC v_con fun r180 h181 => (rd2 h178 h181)))) fun t184 r182 h183 => (oC v_con fun r185 h186 => (rd2 h183 h186))))))))))))))))))
theorem qs__law_is_worth {d : Nat} {x_thing : T} {S S' : List Ob} {r : R T} (h : q__law_is_worth (m__law_is_worth d) x_thing S = some (r, S')) : m__law_is_worth (d + 1) [x_thing] S = some (r, S') := fn_sim (n := 1) (ts := [x_thing]) (sb__law_is_worth (m__law_is_worth d) x_thing) h
noncomputable def qb__law_bent (x_pot x_worth : T) : Q (F Unit Unit) :=
    (qB (m__law_pick [x_pot, (.int 6)]) fun way_1 => (qB (qB (qCall lenO [x_worth]) fun t4 => (m__law_pick [x_pot, t4])) fun at_5 => (qB (qB (qB (qOp2 mulU (.str [120]) (.int 21)) fun t14 => (qB (qB (qOp2 powO (.int 10) (.int 9)) fun t21 => (qOp2 addU t21 (.int 1))) fun t24 => (qP [(.bl true), (.bl false), (.int 0), (.int 1), (.int (-1)), .non, (.str []), (.str [97]), (.str [65]), (.str [97, 98, 99, 100, 101, 102, 103, 104]), (.str [97, 98, 99, 100, 101, 102, 103, 104, 105]), (.str [97, 49]), (.str [32, 97]), t14, t24]))) fun l25 => qP (.fz l25)) fun odd_26 => (qB (qB (qB (qB (qB (qB (qOp2 powO (.int 10) (.int 9)) fun t51 => (qOp2 subO (.int 0) t51)) fun t54 => (qOp2 subO t54 (.int 1))) fun t57 => (qB (qOp2 powO (.int 10) (.int 30)) fun t62 => (qP [t57, t62, (.tup []), (.tup [(.str [110, 111, 110, 101])]), (.fz []), (.fz [(.str [97])]), (.tup [(.str [116, 101, 120, 116]), (.str [97])]), (.tup [(.str [98, 111, 117, 110, 100]), (.str [97]), (.str [98]), (.tup [(.str [110, 111, 116])])])]))) fun l63 => qP (.fz l63)) fun t66 => (qOp2 addU odd_26 t66)) fun odd_67 => (qB (qB (qOp2 eqT way_1 (.int 0)) qTr) fun b72 => if b72 then (qB (qB (qB (qI at_5) fun i75 => (qSl slU x_worth none (some i75))) fun t78 => (qB (qB (qOp2 addU at_5 (.int 1)) fun t86 => qB (qI t86) fun i85 => (qSl slU x_worth (some i85) none)) fun t89 => (qOp2 addU t78 t89))) fun t90 => qP (.ret t90)) else (qB (qB (qOp2 eqT way_1 (.int 1)) qTr) fun b95 => if b95 then (qB (qB (qB (qB (qI at_5) fun i98 => (qSl slU x_worth none (some i98))) fun t101 => (qB (qB (qB (m__law_pick [x_pot, (.int 23)]) fun t111 => (qOp2 ixU odd_67 t111)) fun t112 => (qP (.tup [t112]))) fun t115 => (qOp2 addU t101 t115))) fun t118 => (qB (qB (qI at_5) fun i121 => (qSl slU x_worth (some i121) none)) fun t124 => (qOp2 addU t118 t124))) fun t125 => qP (.ret t125)) else (qB (qB (qOp2 eqT way_1 (.int 2)) qTr) fun b130 => if b130 then (qB (qB (qCall listO [x_worth]) fun l133 => qP (.fz l133)) fun t134 => qP (.ret t134)) else (qB (qB (qOp2 eqT way_1 (.int 3)) qTr) fun b139 => if b139 then (qB (qB (qB (qB (m__law_pick [x_pot, (.int 12)]) fun t150 => (qOp2 ixU (.fz [(.str [110, 111, 110, 101]), (.str [110, 111, 116]), (.str [116, 114, 117, 116, 104]), (.str [110, 117, 109, 98, 101, 114]), (.str [116, 101, 120, 116]), (.str [107, 105, 110, 100]), (.str [100, 101, 101, 100]), (.str [116, 104, 105, 110, 103]), (.str [103, 97, 116, 101]), (.str [98, 111, 117, 110, 100]), (.str [119, 111, 114, 116, 104]), (.str [75, 105, 110, 100])]) t150)) fun t151 => (qP (.tup [t151]))) fun t154 => (qB (qSl slU x_worth (some 1) none) fun t159 => (qOp2 addU t154 t159))) fun t160 => qP (.ret t160)) else (qB (qB (qB (qB (qI at_5) fun i163 => (qSl slU x_worth none (some i163))) fun t166 => (qB (qB (qB (m__law_pick [x_pot, (.int 23)]) fun t176 => (qOp2 ixU odd_67 t176)) fun t177 => (qP (.tup [t177]))) fun t180 => (qOp2 addU t166 t180))) fun t183 => (qB (qB (qOp2 addU at_5 (.int 1)) fun t191 => qB (qI t191) fun i190 => (qSl slU x_worth (some i190) none)) fun t194 => (qOp2 addU t183 t194))) fun t195 => qP (.ret t195))))))))))
noncomputable def q__law_bent (x_pot x_worth : T) : Q T := qFn (qb__law_bent x_pot x_worth)
theorem sb__law_bent (x_pot x_worth : T) : SC (fun _ => True) (b__law_bent) [.val x_pot, .val x_worth, .emp, .emp, .emp, .emp] (qb__law_bent x_pot x_worth) (fun (_ : Unit) _ => True) (fun (_ : Unit) _ => False) := by
  unfold b__law_bent qb__law_bent
  exact (c_let (sFn (aV (v_var (i := 0)) (aV v_con (aN fEnd)))) fun way_1 => (c_let (sFn (aV (v_var (i := 0)) (aE (sCall (rC (oV (i := 1) fun r2 h3 => (rN (rEnd (rdc h3 rdn)))))) fun t4 => (aN fEnd)))) fun at_5 => (c_let (sFz (sLst (aV v_con (aV v_con (aV v_con (aV v_con (aV (v_neg v_con) (aV v_con (aV v_con (aV v_con (aV v_con (aV v_con (aV v_con (aV v_con (aV v_con (aE (sOp2 (oC v_con fun r10 h11 => (oC v_con fun r12 h13 => (rd2 h11 h13)))) fun t14 => (aE (sOp2 (oG (sOp2 (oC v_con fun r15 h16 => (oC v_con fun r17 h18 => (rd2 h16 h18)))) fun t21 r19 h20 => (oC v_con fun r22 h23 => (rd2 h20 h23)))) fun t24 => (aN lEnd)))))))))))))))))) fun odd_26 => (c_let (sOp2 (oV (i := 4) fun r27 h28 => (oG (sFz (sLst (aE (sOp2 (oG (sOp2 (oC v_con fun r43 h44 => (oG (sOp2 (oC v_con fun r45 h46 => (oC v_con fun r47 h48 => (rd2 h46 h48)))) fun t51 r49 h50 => (rd2 h44 h50)))) fun t54 r52 h53 => (oC v_con fun r55 h56 => (rd2 h53 h56)))) fun t57 => (aE (sOp2 (oC v_con fun r58 h59 => (oC v_con fun r60 h61 => (rd2 h59 h61)))) fun t62 => (aV (v_tup v_aN) (aV (v_tup (v_aC v_con v_aN)) (aV (v_lst v_aN) (aV (v_lst (v_aC v_con v_aN)) (aV (v_tup (v_aC v_con (v_aC v_con v_aN))) (aV (v_tup (v_aC v_con (v_aC v_con (v_aC v_con (v_aC (v_tup (v_aC v_con v_aN)) v_aN))))) (aN lEnd))))))))))) fun t66 r64 h65 => (rd2 h28 h65)))) fun odd_67 => (c_ifr (tB (sOp2 (oV (i := 2) fun r68 h69 => (oC v_con fun r70 h71 => (rd2 h69 h71))))) (c_exit (c_ret (sOp2 (oG (sSlU (oV (i := 1) fun r73 h74 => (pN (pT (v_var (i := 3)) fun i75 => (slEnd h74))))) fun t78 r76 h77 => (oG (sSlU (oV (i := 1) fun r79 h80 => (pE (sOp2 (oV (i := 3) fun r81 h82 => (oC v_con fun r83 h84 => (rd2 h82 h84)))) fun i85 => (pN (slEnd h80))))) fun t89 r87 h88 => (rd2 h77 h88)))))) (c_skip (c_ifr (tB (sOp2 (oV (i := 2) fun r91 h92 => (oC v_con fun r93 h94 => (rd2 h92 h94))))) (c_exit (c_ret (sOp2 (oG (sOp2 (oG (sSlU (oV (i := 1) fun r96 h97 => (pN (pT (v_var (i := 3)) fun i98 => (slEnd h97))))) fun t101 r99 h100 => (oG (sTup (aE (sOp2 (oV (i := 4) fun r107 h108 => (oG (sFn (aV (v_var (i := 0)) (aV v_con (aN fEnd)))) fun t111 r109 h110 => (rd2 h108 h110)))) fun t112 => (aN tEndV))) fun t115 r113 h114 => (rd2 h100 h114)))) fun t118 r116 h117 => (oG (sSlU (oV (i := 1) fun r119 h120 => (pT (v_var (i := 3)) fun i121 => (pN (slEnd h120))))) fun t124 r122 h123 => (rd2 h117 h123)))))) (c_skip (c_ifr (tB (sOp2 (oV (i := 2) fun r126 h127 => (oC v_con fun r128 h129 => (rd2 h127 h129))))) (c_exit (c_ret (sFz (sCallL (rC (oV (i := 1) fun r131 h132 => (rN (rEndL (rdc h132 rdn))))))))) (c_skip (c_ifr (tB (sOp2 (oV (i := 2) fun r135 h136 => (oC v_con fun r137 h138 => (rd2 h136 h138))))) (c_exit (c_letV (v_lst (v_aC v_con (v_aC v_con (v_aC v_con (v_aC v_con (v_aC v_con (v_aC v_con (v_aC v_con (v_aC v_con (v_aC v_con (v_aC v_con (v_aC v_con (v_aC v_con v_aN))))))))))))) (c_ret (sOp2 (oG (sTup (aE (sOp2 (oV (i := 5) fun r146 h147 => (oG (sFn (aV (v_var (i := 0)) (aV v_con (aN fEnd)))) fun t150 r148 h149 => (rd2 h147 h149)))) fun t151 => (aN tEndV))) fun t154 r152 h153 => (oG (sSlU (oV (i := 1) fun r155 h156 => (pV v_con (pN (slEnd h156))))) fun t159 r157 h158 => (rd2 h153 h158))))))) (c_skip (c_ret (sOp2 (oG (sOp2 (oG (sSlU (oV (i := 1) fun r161 h162 => (pN (pT (v_var (i := 3)) fun i163 => (slEnd h162))))) fun t166 r164 h165 => (oG (sTup (aE (sOp2 (oV (i := 4) fun r172 h173 => (oG (sFn (aV (v_var (i := 0)) (aV v_con (aN fEnd)))) fun t176 r174 h175 => (rd2 h173 h175)))) fun t177 => (aN tEndV))) fun t180 r178 h179 => (rd2 h165 h179)))) fun t183 r181 h182 => (oG (sSlU (oV (i := 1) fun r184 h185 => (pE (sOp2 (oV (i := 3) fun r186 h187 => (oC v_con fun r188 h189 => (rd2 h187 h189)))) fun i190 => (pN (slEnd h185))))) fun t194 r192 h193 => (rd2 h182 h193)))))))))))))))))
theorem qs__law_bent {x_pot x_worth : T} {S S' : List Ob} {r : R T} (h : q__law_bent x_pot x_worth S = some (r, S')) : m__law_bent [x_pot, x_worth] S = some (r, S') := fn_sim (n := 6) (ts := [x_pot, x_worth]) (sb__law_bent x_pot x_worth) h
noncomputable def qb_law (x_script : T) : Q (F Unit Unit) :=
    (qB (m__law_pot [x_script]) fun pot_1 => (qB (m__law_names [pot_1, (.int 6)]) fun names_2 => (qB (qP [.non, (.tup []), (.int 0), (.str [110, 111, 110, 101]), (.fz []), (.tup [(.str [110, 111, 110, 101]), .non]), (.tup [(.tup [(.str [110, 111, 110, 101])])]), (.tup [(.str [116, 114, 117, 116, 104])]), (.tup [(.str [116, 101, 120, 116])]), (.tup [(.str [103, 97, 116, 101]), (.str [97])]), (.bl true), (.tup [(.tup [])])]) fun things_3 => (qSeq (qB (qRange (.int 10)) fun l98 => qFor (fun x6 a4 => (qB ((m__law_worth 3) [pot_1, names_2, (.bl true)]) fun worth_7 => (qB (qB (qB ((m_is_worth 14) [worth_7]) fun t10 => (qOp2 notBO t10 (.bl true))) qTr) fun b13 => if b13 then (qP (.ret (.bl false))) else (qB (m__law_bent [pot_1, worth_7]) fun bent_14 => (qB (qB (qB (qB (qB (qOp2 ixU names_2 (.int 0)) fun t39 => (qB (qOp2 ixU names_2 (.int 1)) fun t44 => (qP (.tup [(.str [98, 111, 117, 110, 100]), t39, t44, bent_14])))) fun t45 => (qB (m__law_bent [pot_1, worth_7]) fun t46 => (qP [worth_7, bent_14, t45, t46]))) fun l47 => qP (.fz l47)) fun t50 => (qOp2L catO (.fz a4) t50)) fun things_51 => (qB (qB (qB (qCall isiO [bent_14, (.ty "tuple")]) qTr) fun b63 => if b63 then (qB (qB (qCall lenO [bent_14]) fun t56 => (qOp2 gtO t56 (.int 0))) qTr) else qP false) fun b64 => if b64 then (qB (qB (m__law_bent [pot_1, bent_14]) fun t65 => (qO (appendF things_51 [t65]))) fun p66 => (qP (.nxt p66.1))) else (qP (.nxt things_51)))))))) l98 things_3) fun a5 => (qSeq (qB (qIt (.fz a5)) fun l97 => qFor (fun x69 _ => (qB (qCall reprO [x69]) fun before_72 => (qB (qB (qB (qB (qB ((m_is_worth 14) [x69]) fun t80 => (qB ((m__law_is_worth 14) [x69]) fun t81 => ((m__law_same 4) [t80, t81]))) qTr) fun b82 => qP (!b82)) fun b83 => if b83 then qP true else (qB (qB (qCall reprO [x69]) fun t77 => (qOp2 neS t77 before_72)) qTr)) fun b84 => if b84 then (qP (.ret (.bl false))) else (qB (qB (qB (qB (qB (m_is_plain [x69]) fun t92 => (qB (m__law_is_plain [x69]) fun t93 => ((m__law_same 4) [t92, t93]))) qTr) fun b94 => qP (!b94)) fun b95 => if b95 then qP true else (qB (qB (qCall reprO [x69]) fun t89 => (qOp2 neS t89 before_72)) qTr)) fun b96 => if b96 then (qP (.ret (.bl false))) else (qP (.nxt ())))))) l97 ()) fun _ => (qP (.ret (.bl true))))))))
noncomputable def q_law (x_script : T) : Q T := qFn (qb_law x_script)
theorem sb_law (x_script : T) : SC (fun _ => True) (b_law) [.val x_script, .emp, .emp, .emp, .emp, .emp, .emp, .emp, .emp] (qb_law x_script) (fun (_ : Unit) _ => True) (fun (_ : Unit) _ => False) := by
  unfold b_law qb_law
  exact (c_let (sFn (aV (v_var (i := 0)) (aN fEnd))) fun pot_1 => (c_let (sFn (aV (v_var (i := 1)) (aV v_con (aN fEnd)))) fun names_2 => (c_own (sLst (aV v_con (aV (v_tup v_aN) (aV v_con (aV v_con (aV (v_lst v_aN) (aV (v_tup (v_aC v_con (v_aC v_con v_aN))) (aV (v_tup (v_aC (v_tup (v_aC v_con v_aN)) v_aN)) (aV (v_tup (v_aC v_con v_aN)) (aV (v_tup (v_aC v_con v_aN)) (aV (v_tup (v_aC v_con (v_aC v_con v_aN))) (aV v_con (aV (v_tup (v_aC (v_tup v_aN) v_aN)) (aN lEnd)))))))))))))) fun things_3 => (c_seq (c_for (K := yes) (L := fun (a : List T) s => ∃ (j4 : Option T) (j5 : Option T) (j6 : Option T), s = [.val x_script, .val pot_1, .val names_2, .own (.lst a), jS j4, jS j5, jS j6, .emp, .emp]) (sRange (aV v_con (aN (rgEnd (t := (.int 10)))))) ⟨none, none, none, rfl⟩ (fun _ _ _ _ => trivial) (fun | x6, a4, _, ⟨j4, j5, j6, rfl⟩ => (sa_nm (sa_nil (c_let (sFn (aV (v_var (i := 1)) (aV (v_var (i := 2)) (aV v_con (aN fEnd))))) fun worth_7 => (c_ifr (tB (sOp2 (oG (sFn (aV (v_var (i := 5)) (aN fEnd))) fun t10 r8 h9 => (oC v_con fun r11 h12 => (rd2 h9 h12))))) (c_exit (c_retV v_con)) (c_skip (c_let (sFn (aV (v_var (i := 1)) (aV (v_var (i := 5)) (aN fEnd)))) fun bent_14 => (c_own (sOp2L (oW (i := 3) fun r15 h16 => (oG (sFz (sLst (aV (v_var (i := 5)) (aV (v_var (i := 6)) (aE (sTup (aV v_con (aE (sOp2 (oV (i := 2) fun r35 h36 => (oC v_con fun r37 h38 => (rd2 h36 h38)))) fun t39 => (aE (sOp2 (oV (i := 2) fun r40 h41 => (oC v_con fun r42 h43 => (rd2 h41 h43)))) fun t44 => (aV (v_var (i := 6)) (aN tEndV)))))) fun t45 => (aE (sFn (aV (v_var (i := 1)) (aV (v_var (i := 5)) (aN fEnd)))) fun t46 => (aN lEnd))))))) fun t50 r48 h49 => (rd2L h16 h49)))) fun things_51 => (c_if (tAnd (tB (sCall (rC (oV (i := 6) fun r59 h60 => (rC (oC v_con fun r61 h62 => (rN (rEnd (rdc h60 (rdc h62 rdn)))))))))) (tB (sOp2 (oG (sCall (rC (oV (i := 6) fun r52 h53 => (rN (rEnd (rdc h53 rdn)))))) fun t56 r54 h55 => (oC v_con fun r57 h58 => (rd2 h55 h58)))))) (c_end (c_ex (sLstO (aE (sFn (aV (v_var (i := 1)) (aV (v_var (i := 6)) (aN fEnd)))) fun t65 => (aN lstEnd))) fun p66 => (c_nxt ⟨(some x6), (some worth_7), (some bent_14), rfl⟩))) (c_nxt ⟨(some x6), (some worth_7), (some bent_14), rfl⟩))))))))))) (fun | a5, _, ⟨j4, j5, j6, rfl⟩ => (c_seq (c_for (K := yes) (L := fun (a : Unit) s => ∃ (j7 : Option T) (j8 : Option T), s = [.val x_script, .val pot_1, .val names_2, .val (.fz a5), jS j4, jS j5, jS j6, jS j7, jS j8]) (iUF (v_frz (i := 3))) ⟨none, none, rfl⟩ (fun _ _ _ _ => trivial) (fun | x69, _, _, ⟨j7, j8, rfl⟩ => (sa_nm (sa_nil (c_let (sCall (rC (oV (i := 7) fun r70 h71 => (rN (rEnd (rdc h71 rdn)))))) fun before_72 => (c_ifr (tOr (tNot (tB (sFn (aE (sFn (aV (v_var (i := 7)) (aN fEnd))) fun t80 => (aE (sFn (aV (v_var (i := 7)) (aN fEnd))) fun t81 => (aN fEnd)))))) (tB (sOp2 (oG (sCall (rC (oV (i := 7) fun r73 h74 => (rN (rEnd (rdc h74 rdn)))))) fun t77 r75 h76 => (oV (i := 8) fun r78 h79 => (rd2 h76 h79)))))) (c_exit (c_retV v_con)) (c_skip (c_if (tOr (tNot (tB (sFn (aE (sFn (aV (v_var (i := 7)) (aN fEnd))) fun t92 => (aE (sFn (aV (v_var (i := 7)) (aN fEnd))) fun t93 => (aN fEnd)))))) (tB (sOp2 (oG (sCall (rC (oV (i := 7) fun r85 h86 => (rN (rEnd (rdc h86 rdn)))))) fun t89 r87 h88 => (oV (i := 8) fun r90 h91 => (rd2 h88 h91)))))) (c_any (c_retV v_con)) (c_nxt ⟨(some x69), (some before_72), rfl⟩))))))))) (fun | _, _, ⟨j7, j8, rfl⟩ => (c_retV v_con))))))))
theorem qs_law {x_script : T} {S S' : List Ob} {r : R T} (h : q_law x_script S = some (r, S')) : m_law [x_script] S = some (r, S') := fn_sim (n := 9) (ts := [x_script]) (sb_law x_script) h
end Lw
namespace Lw
open PySem PySem.Spec PyProof.Rows L2 Sw Classical
theorem div_big {i j : Int} (h : 0 < j) (h2 : j ≤ 10000000000000000000000000000000000000000) : divO (.int i) (.int j) = some (.int (i / j)) := by
  have h3 : j.natAbs < 2 ^ 134 := by omega
  have : j.natAbs.log2 < 9000 := (Nat.log2_lt (by omega)).mpr (Nat.lt_of_lt_of_le h3 (Nat.pow_le_pow_right (n := 2) (by decide) (show 134 ≤ 9000 by decide)))
  simp [divO, iiO, divC, h, this]
def I31 (t : T) : Prop := ∃ r : Int, t = .int r ∧ 0 ≤ r ∧ r < 2147483648
theorem i31_mod {i j : Int} (h : 0 < j) (k : j < 2147483648) : I31 (.int (i % j)) := ⟨_, rfl, Int.emod_nonneg _ (by omega), by have := Int.emod_lt_of_pos i h; omega⟩
theorem blend_ok {S : List Ob} {cell at_ : Int} (ha : 0 ≤ at_) : Fw m__law_blend [.int cell, .int at_] S (fun t S' => S' = S ∧ ∃ r : Int, t = .int r ∧ 0 ≤ r) := by
  unfold m__law_blend
  rw [Fw_fnM]
  unfold b__law_blend
  rw [W_cSeq]
  simp only [W_cIf, W_asB, W_eOp2, W_oVar, W_oE, W_pure, List.getElem?_cons_zero, List.getElem?_cons_succ, List.getElem?_nil, List.set_cons_zero, List.set_cons_succ, List.map_cons, List.map_nil, List.cons_append, List.nil_append, List.length_cons, List.length_nil, Option.getD_some, Bool.and_true, Bool.and_self, Option.bind_some, Option.map_some, List.replicate_succ, List.replicate_zero, decide_eq_true_eq, Bool.not_true, Bool.not_false, Bool.not_eq_true', if_true, if_false, reduceIte, reduceCtorEq, Nat.reduceAdd, Nat.reduceSub, Nat.reduceLeDiff, true_and, and_true, ix_n, ix_0, ix_1, ix_2, ix_t0, ix_t1, ix_t2, set_1, set_2, add_i, sub_i, mod_i, div_i, lt_i, le_i, gt_i, ge_i, eq_i, ne_i, p1018, p1017, rVar, peekS, peekT, Op_some, Bw_bl, W_cRet, W_eVar, List.length_cons]
  split
  · rename_i h
    exact ⟨cell, rfl, by omega⟩
  refine W_let I31 ?_ ?_
  · simp (disch := decide) only [W_cIf, W_asB, W_eOp2, W_oVar, W_oE, W_pure, List.getElem?_cons_zero, List.getElem?_cons_succ, List.getElem?_nil, List.set_cons_zero, List.set_cons_succ, List.map_cons, List.map_nil, List.cons_append, List.nil_append, List.length_cons, List.length_nil, Option.getD_some, Bool.and_true, Bool.and_self, Option.bind_some, Option.map_some, List.replicate_succ, List.replicate_zero, decide_eq_true_eq, Bool.not_true, Bool.not_false, Bool.not_eq_true', if_true, if_false, reduceIte, reduceCtorEq, Nat.reduceAdd, Nat.reduceSub, Nat.reduceLeDiff, true_and, and_true, ix_n, ix_0, ix_1, ix_2, ix_t0, ix_t1, ix_t2, set_1, set_2, add_i, sub_i, mod_i, div_i, lt_i, le_i, gt_i, ge_i, eq_i, ne_i, p1018, p1017, rVar, peekS, peekT, Op_some, mul_r, mod_i]
    exact i31_mod (by decide) (by decide)
  rintro _ ⟨one, rfl, h1, h2⟩
  refine W_let I31 ?_ ?_
  · simp (disch := decide) only [W_cIf, W_asB, W_eOp2, W_oVar, W_oE, W_pure, List.getElem?_cons_zero, List.getElem?_cons_succ, List.getElem?_nil, List.set_cons_zero, List.set_cons_succ, List.map_cons, List.map_nil, List.cons_append, List.nil_append, List.length_cons, List.length_nil, Option.getD_some, Bool.and_true, Bool.and_self, Option.bind_some, Option.map_some, List.replicate_succ, List.replicate_zero, decide_eq_true_eq, Bool.not_true, Bool.not_false, Bool.not_eq_true', if_true, if_false, reduceIte, reduceCtorEq, Nat.reduceAdd, Nat.reduceSub, Nat.reduceLeDiff, true_and, and_true, ix_n, ix_0, ix_1, ix_2, ix_t0, ix_t1, ix_t2, set_1, set_2, add_i, sub_i, mod_i, div_i, lt_i, le_i, gt_i, ge_i, eq_i, ne_i, p1018, p1017, rVar, peekS, peekT, Op_some, mul_r, mod_i, @mul_r one one (by omega) (by omega)]
    exact i31_mod (by decide) (by decide)
  rintro _ ⟨two, rfl, h3, h4⟩
  refine W_let I31 ?_ ?_
  · simp (disch := decide) only [W_cIf, W_asB, W_eOp2, W_oVar, W_oE, W_pure, List.getElem?_cons_zero, List.getElem?_cons_succ, List.getElem?_nil, List.set_cons_zero, List.set_cons_succ, List.map_cons, List.map_nil, List.cons_append, List.nil_append, List.length_cons, List.length_nil, Option.getD_some, Bool.and_true, Bool.and_self, Option.bind_some, Option.map_some, List.replicate_succ, List.replicate_zero, decide_eq_true_eq, Bool.not_true, Bool.not_false, Bool.not_eq_true', if_true, if_false, reduceIte, reduceCtorEq, Nat.reduceAdd, Nat.reduceSub, Nat.reduceLeDiff, true_and, and_true, ix_n, ix_0, ix_1, ix_2, ix_t0, ix_t1, ix_t2, set_1, set_2, add_i, sub_i, mod_i, div_i, lt_i, le_i, gt_i, ge_i, eq_i, ne_i, p1018, p1017, rVar, peekS, peekT, Op_some, mul_r, mod_i, @mul_r two two (by omega) (by omega)]
    exact i31_mod (by decide) (by decide)
  rintro _ ⟨three, rfl, h5, h6⟩
  simp (disch := decide) only [W_cRet, W_cIf, W_asB, W_eOp2, W_oVar, W_oE, W_pure, List.getElem?_cons_zero, List.getElem?_cons_succ, List.getElem?_nil, List.set_cons_zero, List.set_cons_succ, List.map_cons, List.map_nil, List.cons_append, List.nil_append, List.length_cons, List.length_nil, Option.getD_some, Bool.and_true, Bool.and_self, Option.bind_some, Option.map_some, List.replicate_succ, List.replicate_zero, decide_eq_true_eq, Bool.not_true, Bool.not_false, Bool.not_eq_true', if_true, if_false, reduceIte, reduceCtorEq, Nat.reduceAdd, Nat.reduceSub, Nat.reduceLeDiff, true_and, and_true, ix_n, ix_0, ix_1, ix_2, ix_t0, ix_t1, ix_t2, set_1, set_2, add_i, sub_i, mod_i, div_i, lt_i, le_i, gt_i, ge_i, eq_i, ne_i, p1018, p1017, rVar, peekS, peekT, Op_some, mul_r]
  refine ⟨_, rfl, ?_⟩
  omega
def PickR (p : Nat) (n : Int) (S : List Ob) (t : T) (S' : List Ob) : Prop := Pt p S S' ∧ ∃ x : Int, t = .int x ∧ 0 ≤ x ∧ x < n
/-- a pot as it stands -/
def PotAt (p : Nat) (S S' : List Ob) (a r : Int) : Prop := Pt p S S' ∧ 0 ≤ a ∧ 0 ≤ r ∧ ∃ cs : List Int, S'[p]? = some (.lst [.fz (cs.map .int), .int a, .int r])
theorem PotAt.set {p : Nat} {S S' : List Ob} {a r a' r' : Int} {cs : List Int} (h : PotAt p S S' a r) (ha : 0 ≤ a') (hr : 0 ≤ r') : PotAt p S (S'.set p (.lst [.fz (cs.map .int), .int a', .int r'])) a' r' := by
  obtain ⟨h1, h2, h3, _⟩ := h
  refine ⟨h1.trans (.set h1.1 ⟨cs, a', r', rfl, ha, hr⟩), ha, hr, cs, ?_⟩
  rw [List.getElem?_set_self h1.1.lt]
theorem pick_ok {S : List Ob} {p : Nat} {n : Int} (h : IsPot S p) (hn : 0 < n) (hm : n ≤ 10000000000000000000000000000000000000000) : Fw m__law_pick [.ref p, .int n] S (PickR p n S) := by
  have hS := Pt.refl h
  obtain ⟨ob, hp, cs, at_, rest, rfl, ha, hr⟩ := h
  have h0 : PotAt p S S at_ rest := ⟨hS, ha, hr, cs, hp⟩
  unfold m__law_pick
  rw [Fw_fnM]
  unfold b__law_pick
  refine W_seq (fun st1 => ∃ s2 s3 S1 a r, st1 = ⟨[.val (.ref p), .val (.int n), s2, s3, .emp], S1⟩ ∧ PotAt p S S1 a r) ?_ ?_
  · simp only [W_cIf, W_asB, W_eOp2, W_oVar, W_oE, W_pure, List.getElem?_cons_zero, List.getElem?_cons_succ, List.getElem?_nil, List.set_cons_zero, List.set_cons_succ, List.map_cons, List.map_nil, List.cons_append, List.nil_append, List.length_cons, List.length_nil, Option.getD_some, Bool.and_true, Bool.and_self, Option.bind_some, Option.map_some, List.replicate_succ, List.replicate_zero, decide_eq_true_eq, Bool.not_true, Bool.not_false, Bool.not_eq_true', if_true, if_false, reduceIte, reduceCtorEq, Nat.reduceAdd, Nat.reduceSub, Nat.reduceLeDiff, true_and, and_true, ix_n, ix_0, ix_1, ix_2, ix_t0, ix_t1, ix_t2, set_1, set_2, add_i, sub_i, mod_i, div_i, lt_i, le_i, gt_i, ge_i, eq_i, ne_i, p1018, p1017, rVar, peekS, peekT, Op_some, Bw_bl, hp]
    split
    · refine W_let (fun t => t = .int at_) ?_ ?_
      · simp only [W_pure, W_ofO, W_eVar, W_oVar, W_eFrz, W_oE, W_eOp2, W_eChain, W_asB, W_bNot, W_bAnd, W_bOr, W_eNot, W_eAnd, W_eOr, W_eIf, W_eNeg, W_aNil, W_aCons, W_oNil, W_oCons, W_eTup, W_fLst, W_eFz, W_eBox, W_fDic, W_eCall, W_fCall, W_pNo, W_pSome, W_eSliceU, W_fSlice, W_fRev, W_eLst, W_eLst0, W_mVar, W_mRef, W_eMeth, W_eFn, W_cSeq, W_cRet, W_cExpr, W_cIf, W_cSet, W_cOwn, W_cUnp, W_cSetIx, W_cPut, W_iU, W_iVar, W_iRange, W_iEnumU, W_iZipU, W_cFor, W_bYes, Op_some, Op_none, Op_ite, Op_map, Op_bind, Op_rdAll, rdAll_nil, Bw_bl, rVar, peekS, peekT, pVar, pRef, Lw_lst, setS, lstAt_fz, lenO_fz, lenO_str, list_fz, wipe_1, wipe_2, rest_1, rest_2, List.all_cons, List.all_nil, notOwn, W_fComp, asg_2, asg_n, turn_n, turn_c, turn_b, turn_r, List.getElem?_cons_zero, List.getElem?_cons_succ, List.getElem?_nil, List.set_cons_zero, List.set_cons_succ, List.map_cons, List.map_nil, List.cons_append, List.nil_append, List.length_cons, List.length_nil, Option.getD_some, Bool.and_true, Bool.and_self, Option.bind_some, Option.map_some, List.replicate_succ, List.replicate_zero, decide_eq_true_eq, Bool.not_true, Bool.not_false, Bool.not_eq_true', if_true, if_false, reduceIte, reduceCtorEq, Nat.reduceAdd, Nat.reduceSub, Nat.reduceLeDiff, true_and, and_true, ix_n, ix_0, ix_1, ix_2, ix_t0, ix_t1, ix_t2, set_1, set_2, add_i, sub_i, mod_i, div_i, lt_i, le_i, gt_i, ge_i, eq_i, ne_i, p1018, p1017, hp]
      rintro _ rfl
      refine W_let (fun t => ∃ c : Int, t = .int c) ?_ ?_
      · simp (disch := decide) only [W_pure, W_ofO, W_eVar, W_oVar, W_eFrz, W_oE, W_eOp2, W_eChain, W_asB, W_bNot, W_bAnd, W_bOr, W_eNot, W_eAnd, W_eOr, W_eIf, W_eNeg, W_aNil, W_aCons, W_oNil, W_oCons, W_eTup, W_fLst, W_eFz, W_eBox, W_fDic, W_eCall, W_fCall, W_pNo, W_pSome, W_eSliceU, W_fSlice, W_fRev, W_eLst, W_eLst0, W_mVar, W_mRef, W_eMeth, W_eFn, W_cSeq, W_cRet, W_cExpr, W_cIf, W_cSet, W_cOwn, W_cUnp, W_cSetIx, W_cPut, W_iU, W_iVar, W_iRange, W_iEnumU, W_iZipU, W_cFor, W_bYes, Op_some, Op_none, Op_ite, Op_map, Op_bind, Op_rdAll, rdAll_nil, Bw_bl, rVar, peekS, peekT, pVar, pRef, Lw_lst, setS, lstAt_fz, lenO_fz, lenO_str, list_fz, wipe_1, wipe_2, rest_1, rest_2, List.all_cons, List.all_nil, notOwn, W_fComp, asg_2, asg_n, turn_n, turn_c, turn_b, turn_r, List.getElem?_cons_zero, List.getElem?_cons_succ, List.getElem?_nil, List.set_cons_zero, List.set_cons_succ, List.map_cons, List.map_nil, List.cons_append, List.nil_append, List.length_cons, List.length_nil, Option.getD_some, Bool.and_true, Bool.and_self, Option.bind_some, Option.map_some, List.replicate_succ, List.replicate_zero, decide_eq_true_eq, Bool.not_true, Bool.not_false, Bool.not_eq_true', if_true, if_false, reduceIte, reduceCtorEq, Nat.reduceAdd, Nat.reduceSub, Nat.reduceLeDiff, true_and, and_true, ix_n, ix_0, ix_1, ix_2, ix_t0, ix_t1, ix_t2, set_1, set_2, add_i, sub_i, mod_i, div_i, lt_i, le_i, gt_i, ge_i, eq_i, ne_i, p1018, p1017, hp, mul_l]
        exact ⟨_, rfl⟩
      rintro _ ⟨c, rfl⟩
      refine W_seq (fun st1 => ∃ c : Int, st1 = ⟨[.val (.ref p), .val (.int n), .val (.int at_), .val (.int c), .emp], S⟩) ?_ ?_
      · refine W_if (decide (at_ < (cs.length : Int))) ?_ ?_ ?_
        · simp only [W_pure, W_ofO, W_eVar, W_oVar, W_eFrz, W_oE, W_eOp2, W_eChain, W_asB, W_bNot, W_bAnd, W_bOr, W_eNot, W_eAnd, W_eOr, W_eIf, W_eNeg, W_aNil, W_aCons, W_oNil, W_oCons, W_eTup, W_fLst, W_eFz, W_eBox, W_fDic, W_eCall, W_fCall, W_pNo, W_pSome, W_eSliceU, W_fSlice, W_fRev, W_eLst, W_eLst0, W_mVar, W_mRef, W_eMeth, W_eFn, W_cSeq, W_cRet, W_cExpr, W_cIf, W_cSet, W_cOwn, W_cUnp, W_cSetIx, W_cPut, W_iU, W_iVar, W_iRange, W_iEnumU, W_iZipU, W_cFor, W_bYes, Op_some, Op_none, Op_ite, Op_map, Op_bind, Op_rdAll, rdAll_nil, Bw_bl, rVar, peekS, peekT, pVar, pRef, Lw_lst, setS, lstAt_fz, lenO_fz, lenO_str, list_fz, wipe_1, wipe_2, rest_1, rest_2, List.all_cons, List.all_nil, notOwn, W_fComp, asg_2, asg_n, turn_n, turn_c, turn_b, turn_r, List.getElem?_cons_zero, List.getElem?_cons_succ, List.getElem?_nil, List.set_cons_zero, List.set_cons_succ, List.map_cons, List.map_nil, List.cons_append, List.nil_append, List.length_cons, List.length_nil, Option.getD_some, Bool.and_true, Bool.and_self, Option.bind_some, Option.map_some, List.replicate_succ, List.replicate_zero, decide_eq_true_eq, Bool.not_true, Bool.not_false, Bool.not_eq_true', if_true, if_false, reduceIte, reduceCtorEq, Nat.reduceAdd, Nat.reduceSub, Nat.reduceLeDiff, true_and, and_true, ix_n, ix_0, ix_1, ix_2, ix_t0, ix_t1, ix_t2, set_1, set_2, add_i, sub_i, mod_i, div_i, lt_i, le_i, gt_i, ge_i, eq_i, ne_i, p1018, p1017, hp, List.length_map]
        · intro hl
          obtain ⟨k, rfl⟩ := Int.eq_ofNat_of_zero_le ha
          have hk : k < cs.length := by simpa using hl
          simp only [W_pure, W_ofO, W_eVar, W_oVar, W_eFrz, W_oE, W_eOp2, W_eChain, W_asB, W_bNot, W_bAnd, W_bOr, W_eNot, W_eAnd, W_eOr, W_eIf, W_eNeg, W_aNil, W_aCons, W_oNil, W_oCons, W_eTup, W_fLst, W_eFz, W_eBox, W_fDic, W_eCall, W_fCall, W_pNo, W_pSome, W_eSliceU, W_fSlice, W_fRev, W_eLst, W_eLst0, W_mVar, W_mRef, W_eMeth, W_eFn, W_cSeq, W_cRet, W_cExpr, W_cIf, W_cSet, W_cOwn, W_cUnp, W_cSetIx, W_cPut, W_iU, W_iVar, W_iRange, W_iEnumU, W_iZipU, W_cFor, W_bYes, Op_some, Op_none, Op_ite, Op_map, Op_bind, Op_rdAll, rdAll_nil, Bw_bl, rVar, peekS, peekT, pVar, pRef, Lw_lst, setS, lstAt_fz, lenO_fz, lenO_str, list_fz, wipe_1, wipe_2, rest_1, rest_2, List.all_cons, List.all_nil, notOwn, W_fComp, asg_2, asg_n, turn_n, turn_c, turn_b, turn_r, List.getElem?_cons_zero, List.getElem?_cons_succ, List.getElem?_nil, List.set_cons_zero, List.set_cons_succ, List.map_cons, List.map_nil, List.cons_append, List.nil_append, List.length_cons, List.length_nil, Option.getD_some, Bool.and_true, Bool.and_self, Option.bind_some, Option.map_some, List.replicate_succ, List.replicate_zero, decide_eq_true_eq, Bool.not_true, Bool.not_false, Bool.not_eq_true', if_true, if_false, reduceIte, reduceCtorEq, Nat.reduceAdd, Nat.reduceSub, Nat.reduceLeDiff, true_and, and_true, ix_n, ix_0, ix_1, ix_2, ix_t0, ix_t1, ix_t2, set_1, set_2, add_i, sub_i, mod_i, div_i, lt_i, le_i, gt_i, ge_i, eq_i, ne_i, p1018, p1017, hp, List.getElem?_map, List.getElem?_eq_getElem hk]
          exact ⟨_, rfl⟩
        · intro _
          refine W_if (!cs.isEmpty) ?_ ?_ ?_
          · simp only [W_pure, W_ofO, W_eVar, W_oVar, W_eFrz, W_oE, W_eOp2, W_eChain, W_asB, W_bNot, W_bAnd, W_bOr, W_eNot, W_eAnd, W_eOr, W_eIf, W_eNeg, W_aNil, W_aCons, W_oNil, W_oCons, W_eTup, W_fLst, W_eFz, W_eBox, W_fDic, W_eCall, W_fCall, W_pNo, W_pSome, W_eSliceU, W_fSlice, W_fRev, W_eLst, W_eLst0, W_mVar, W_mRef, W_eMeth, W_eFn, W_cSeq, W_cRet, W_cExpr, W_cIf, W_cSet, W_cOwn, W_cUnp, W_cSetIx, W_cPut, W_iU, W_iVar, W_iRange, W_iEnumU, W_iZipU, W_cFor, W_bYes, Op_some, Op_none, Op_ite, Op_map, Op_bind, Op_rdAll, rdAll_nil, Bw_bl, rVar, peekS, peekT, pVar, pRef, Lw_lst, setS, lstAt_fz, lenO_fz, lenO_str, list_fz, wipe_1, wipe_2, rest_1, rest_2, List.all_cons, List.all_nil, notOwn, W_fComp, asg_2, asg_n, turn_n, turn_c, turn_b, turn_r, List.getElem?_cons_zero, List.getElem?_cons_succ, List.getElem?_nil, List.set_cons_zero, List.set_cons_succ, List.map_cons, List.map_nil, List.cons_append, List.nil_append, List.length_cons, List.length_nil, Option.getD_some, Bool.and_true, Bool.and_self, Option.bind_some, Option.map_some, List.replicate_succ, List.replicate_zero, decide_eq_true_eq, Bool.not_true, Bool.not_false, Bool.not_eq_true', if_true, if_false, reduceIte, reduceCtorEq, Nat.reduceAdd, Nat.reduceSub, Nat.reduceLeDiff, true_and, and_true, ix_n, ix_0, ix_1, ix_2, ix_t0, ix_t1, ix_t2, set_1, set_2, add_i, sub_i, mod_i, div_i, lt_i, le_i, gt_i, ge_i, eq_i, ne_i, p1018, p1017, hp, ne_nil dat_ints, List.isEmpty_map]
          · intro he
            have hc : 0 < cs.length := by
              cases cs with
              | nil => simp at he
              | cons a b => simp
            simp (disch := decide) only [W_pure, W_ofO, W_eVar, W_oVar, W_eFrz, W_oE, W_eOp2, W_eChain, W_asB, W_bNot, W_bAnd, W_bOr, W_eNot, W_eAnd, W_eOr, W_eIf, W_eNeg, W_aNil, W_aCons, W_oNil, W_oCons, W_eTup, W_fLst, W_eFz, W_eBox, W_fDic, W_eCall, W_fCall, W_pNo, W_pSome, W_eSliceU, W_fSlice, W_fRev, W_eLst, W_eLst0, W_mVar, W_mRef, W_eMeth, W_eFn, W_cSeq, W_cRet, W_cExpr, W_cIf, W_cSet, W_cOwn, W_cUnp, W_cSetIx, W_cPut, W_iU, W_iVar, W_iRange, W_iEnumU, W_iZipU, W_cFor, W_bYes, Op_some, Op_none, Op_ite, Op_map, Op_bind, Op_rdAll, rdAll_nil, Bw_bl, rVar, peekS, peekT, pVar, pRef, Lw_lst, setS, lstAt_fz, lenO_fz, lenO_str, list_fz, wipe_1, wipe_2, rest_1, rest_2, List.all_cons, List.all_nil, notOwn, W_fComp, asg_2, asg_n, turn_n, turn_c, turn_b, turn_r, List.getElem?_cons_zero, List.getElem?_cons_succ, List.getElem?_nil, List.set_cons_zero, List.set_cons_succ, List.map_cons, List.map_nil, List.cons_append, List.nil_append, List.length_cons, List.length_nil, Option.getD_some, Bool.and_true, Bool.and_self, Option.bind_some, Option.map_some, List.replicate_succ, List.replicate_zero, decide_eq_true_eq, Bool.not_true, Bool.not_false, Bool.not_eq_true', if_true, if_false, reduceIte, reduceCtorEq, Nat.reduceAdd, Nat.reduceSub, Nat.reduceLeDiff, true_and, and_true, ix_n, ix_0, ix_1, ix_2, ix_t0, ix_t1, ix_t2, set_1, set_2, add_i, sub_i, mod_i, div_i, lt_i, le_i, gt_i, ge_i, eq_i, ne_i, p1018, p1017, hp, mul_r, mul_l, List.length_map]
            rw [mod_i (by omega)]
            simp only [Op_some]
            have h1 := Int.emod_nonneg (at_ * 7 + 1) (show (cs.length : Int) ≠ 0 by omega)
            have h2 := Int.emod_lt_of_pos (at_ * 7 + 1) (show (0 : Int) < cs.length by omega)
            rw [ix_i h1, List.getElem?_map, List.getElem?_eq_getElem (by omega)]
            simp only [Op_some, List.getElem?_cons_zero, List.getElem?_cons_succ, List.getElem?_nil, List.set_cons_zero, List.set_cons_succ, List.map_cons, List.map_nil, List.cons_append, List.nil_append, List.length_cons, List.length_nil, Option.getD_some, Bool.and_true, Bool.and_self, Option.bind_some, Option.map_some, List.replicate_succ, List.replicate_zero, decide_eq_true_eq, Bool.not_true, Bool.not_false, Bool.not_eq_true', if_true, if_false, reduceIte, reduceCtorEq, Nat.reduceAdd, Nat.reduceSub, Nat.reduceLeDiff, true_and, and_true]
            rw [mod_i (by omega)]
            simp only [Op_some, List.getElem?_cons_zero, List.getElem?_cons_succ, List.getElem?_nil, List.set_cons_zero, List.set_cons_succ, List.map_cons, List.map_nil, List.cons_append, List.nil_append, List.length_cons, List.length_nil, Option.getD_some, Bool.and_true, Bool.and_self, Option.bind_some, Option.map_some, List.replicate_succ, List.replicate_zero, decide_eq_true_eq, Bool.not_true, Bool.not_false, Bool.not_eq_true', if_true, if_false, reduceIte, reduceCtorEq, Nat.reduceAdd, Nat.reduceSub, Nat.reduceLeDiff, true_and, and_true]
            exact ⟨_, rfl⟩
          · intro _
            simp only [W_pure, W_ofO, W_eVar, W_oVar, W_eFrz, W_oE, W_eOp2, W_eChain, W_asB, W_bNot, W_bAnd, W_bOr, W_eNot, W_eAnd, W_eOr, W_eIf, W_eNeg, W_aNil, W_aCons, W_oNil, W_oCons, W_eTup, W_fLst, W_eFz, W_eBox, W_fDic, W_eCall, W_fCall, W_pNo, W_pSome, W_eSliceU, W_fSlice, W_fRev, W_eLst, W_eLst0, W_mVar, W_mRef, W_eMeth, W_eFn, W_cSeq, W_cRet, W_cExpr, W_cIf, W_cSet, W_cOwn, W_cUnp, W_cSetIx, W_cPut, W_iU, W_iVar, W_iRange, W_iEnumU, W_iZipU, W_cFor, W_bYes, Op_some, Op_none, Op_ite, Op_map, Op_bind, Op_rdAll, rdAll_nil, Bw_bl, rVar, peekS, peekT, pVar, pRef, Lw_lst, setS, lstAt_fz, lenO_fz, lenO_str, list_fz, wipe_1, wipe_2, rest_1, rest_2, List.all_cons, List.all_nil, notOwn, W_fComp, asg_2, asg_n, turn_n, turn_c, turn_b, turn_r, List.getElem?_cons_zero, List.getElem?_cons_succ, List.getElem?_nil, List.set_cons_zero, List.set_cons_succ, List.map_cons, List.map_nil, List.cons_append, List.nil_append, List.length_cons, List.length_nil, Option.getD_some, Bool.and_true, Bool.and_self, Option.bind_some, Option.map_some, List.replicate_succ, List.replicate_zero, decide_eq_true_eq, Bool.not_true, Bool.not_false, Bool.not_eq_true', if_true, if_false, reduceIte, reduceCtorEq, Nat.reduceAdd, Nat.reduceSub, Nat.reduceLeDiff, true_and, and_true]
            exact ⟨_, rfl⟩
      rintro _ ⟨c, rfl⟩
      simp only [W_pure, W_ofO, W_eVar, W_oVar, W_eFrz, W_oE, W_eOp2, W_eChain, W_asB, W_bNot, W_bAnd, W_bOr, W_eNot, W_eAnd, W_eOr, W_eIf, W_eNeg, W_aNil, W_aCons, W_oNil, W_oCons, W_eTup, W_fLst, W_eFz, W_eBox, W_fDic, W_eCall, W_fCall, W_pNo, W_pSome, W_eSliceU, W_fSlice, W_fRev, W_eLst, W_eLst0, W_mVar, W_mRef, W_eMeth, W_eFn, W_cSeq, W_cRet, W_cExpr, W_cIf, W_cSet, W_cOwn, W_cUnp, W_cSetIx, W_cPut, W_iU, W_iVar, W_iRange, W_iEnumU, W_iZipU, W_cFor, W_bYes, Op_some, Op_none, Op_ite, Op_map, Op_bind, Op_rdAll, rdAll_nil, Bw_bl, rVar, peekS, peekT, pVar, pRef, Lw_lst, setS, lstAt_fz, lenO_fz, lenO_str, list_fz, wipe_1, wipe_2, rest_1, rest_2, List.all_cons, List.all_nil, notOwn, W_fComp, asg_2, asg_n, turn_n, turn_c, turn_b, turn_r, List.getElem?_cons_zero, List.getElem?_cons_succ, List.getElem?_nil, List.set_cons_zero, List.set_cons_succ, List.map_cons, List.map_nil, List.cons_append, List.nil_append, List.length_cons, List.length_nil, Option.getD_some, Bool.and_true, Bool.and_self, Option.bind_some, Option.map_some, List.replicate_succ, List.replicate_zero, decide_eq_true_eq, Bool.not_true, Bool.not_false, Bool.not_eq_true', if_true, if_false, reduceIte, reduceCtorEq, Nat.reduceAdd, Nat.reduceSub, Nat.reduceLeDiff, true_and, and_true, ix_n, ix_0, ix_1, ix_2, ix_t0, ix_t1, ix_t2, set_1, set_2, add_i, sub_i, mod_i, div_i, lt_i, le_i, gt_i, ge_i, eq_i, ne_i, p1018, p1017, hp]
      have hp2 := (Pt.set (S := S) ⟨_, hp, cs, at_, rest, rfl, ha, hr⟩ ⟨cs, at_ + 1, rest, rfl, by omega, hr⟩)
      refine (blend_ok ha).mono fun t S' q => ?_
      obtain ⟨rfl, b, rfl, hb⟩ := q
      simp only [List.getElem?_set_self h0.1.1.lt, ix_n, ix_0, ix_1, ix_2, ix_t0, ix_t1, ix_t2, set_1, set_2, add_i, sub_i, mod_i, div_i, lt_i, le_i, gt_i, ge_i, eq_i, ne_i, p1018, p1017, Op_some]
      refine ⟨_, _, _, at_ + 1, b, rfl, ?_⟩
      exact (h0.set (cs := cs) (show 0 ≤ at_ + 1 by omega) hr).set (by omega) hb
    · exact ⟨_, _, _, _, _, rfl, h0⟩
  · rintro _ ⟨s2, s3, S1, a, r, rfl, h1⟩
    have h1' := h1
    obtain ⟨_, ha1, hr1, cs1, hp1⟩ := h1'
    simp only [W_pure, W_ofO, W_eVar, W_oVar, W_eFrz, W_oE, W_eOp2, W_eChain, W_asB, W_bNot, W_bAnd, W_bOr, W_eNot, W_eAnd, W_eOr, W_eIf, W_eNeg, W_aNil, W_aCons, W_oNil, W_oCons, W_eTup, W_fLst, W_eFz, W_eBox, W_fDic, W_eCall, W_fCall, W_pNo, W_pSome, W_eSliceU, W_fSlice, W_fRev, W_eLst, W_eLst0, W_mVar, W_mRef, W_eMeth, W_eFn, W_cSeq, W_cRet, W_cExpr, W_cIf, W_cSet, W_cOwn, W_cUnp, W_cSetIx, W_cPut, W_iU, W_iVar, W_iRange, W_iEnumU, W_iZipU, W_cFor, W_bYes, Op_some, Op_none, Op_ite, Op_map, Op_bind, Op_rdAll, rdAll_nil, Bw_bl, rVar, peekS, peekT, pVar, pRef, Lw_lst, setS, lstAt_fz, lenO_fz, lenO_str, list_fz, wipe_1, wipe_2, rest_1, rest_2, List.all_cons, List.all_nil, notOwn, W_fComp, asg_2, asg_n, turn_n, turn_c, turn_b, turn_r, List.getElem?_cons_zero, List.getElem?_cons_succ, List.getElem?_nil, List.set_cons_zero, List.set_cons_succ, List.map_cons, List.map_nil, List.cons_append, List.nil_append, List.length_cons, List.length_nil, Option.getD_some, Bool.and_true, Bool.and_self, Option.bind_some, Option.map_some, List.replicate_succ, List.replicate_zero, decide_eq_true_eq, Bool.not_true, Bool.not_false, Bool.not_eq_true', if_true, if_false, reduceIte, reduceCtorEq, Nat.reduceAdd, Nat.reduceSub, Nat.reduceLeDiff, true_and, and_true, ix_n, ix_0, ix_1, ix_2, ix_t0, ix_t1, ix_t2, set_1, set_2, add_i, sub_i, mod_i, div_i, lt_i, le_i, gt_i, ge_i, eq_i, ne_i, p1018, p1017, hp1]
    rw [mod_i hn, div_big hn hm]
    simp only [Op_some]
    exact ⟨(h1.set ha1 (Int.ediv_nonneg hr1 (by omega))).1, _, rfl, Int.emod_nonneg _ (by omega), Int.emod_lt_of_pos _ hn⟩
theorem pick_w {S : List Ob} {p : Nat} {n : Int} {Φ : T → List Ob → Prop} (h : IsPot S p) (hn : 0 < n) (hm : n ≤ 10000000000000000000000000000000000000000) (k : ∀ x S1, Pt p S S1 → 0 ≤ x → x < n → Φ (.int x) S1) : Fw m__law_pick [.ref p, .int n] S Φ := by
  refine (pick_ok h hn hm).mono fun t S1 q => ?_
  obtain ⟨h1, x, rfl, h2, h3⟩ := q
  exact k x S1 h1 h2 h3
def intsL (ks : List Nat) : List T := ks.map fun k : Nat => .int (k : Int)
theorem order_ok {S : List Ob} {p n : Nat} (h : IsPot S p) (hn : n ≤ 100) : Fw m__law_order [.ref p, .int n] S (fun t S' => Pt p S S' ∧ ∃ ks : List Nat, t = .fz (intsL ks) ∧ ks.Nodup ∧ (∀ k ∈ ks, k < n) ∧ ks.length = n) := by
  unfold m__law_order
  rw [Fw_fnM]
  unfold b__law_order
  refine W_seq (fun st1 => st1 = ⟨[.val (.ref p), .val (.int n), .own (.lst []), .emp], S⟩) ?_ ?_
  · simp only [W_pure, W_ofO, W_eVar, W_oVar, W_eFrz, W_oE, W_eOp2, W_eChain, W_asB, W_bNot, W_bAnd, W_bOr, W_eNot, W_eAnd, W_eOr, W_eIf, W_eNeg, W_aNil, W_aCons, W_oNil, W_oCons, W_eTup, W_fLst, W_eFz, W_eBox, W_fDic, W_eCall, W_fCall, W_pNo, W_pSome, W_eSliceU, W_fSlice, W_fRev, W_eLst, W_eLst0, W_mVar, W_mRef, W_eMeth, W_eFn, W_cSeq, W_cRet, W_cExpr, W_cIf, W_cSet, W_cOwn, W_cUnp, W_cSetIx, W_cPut, W_iU, W_iVar, W_iRange, W_iEnumU, W_iZipU, W_cFor, W_bYes, Op_some, Op_none, Op_ite, Op_map, Op_bind, Op_rdAll, rdAll_nil, Bw_bl, rVar, peekS, peekT, pVar, pRef, Lw_lst, setS, lstAt_fz, lenO_fz, lenO_str, list_fz, wipe_1, wipe_2, rest_1, rest_2, List.all_cons, List.all_nil, notOwn, W_fComp, asg_2, asg_n, turn_n, turn_c, turn_b, turn_r, List.getElem?_cons_zero, List.getElem?_cons_succ, List.getElem?_nil, List.set_cons_zero, List.set_cons_succ, List.map_cons, List.map_nil, List.cons_append, List.nil_append, List.length_cons, List.length_nil, Option.getD_some, Bool.and_true, Bool.and_self, Option.bind_some, Option.map_some, List.replicate_succ, List.replicate_zero, decide_eq_true_eq, Bool.not_true, Bool.not_false, Bool.not_eq_true', if_true, if_false, reduceIte, reduceCtorEq, Nat.reduceAdd, Nat.reduceSub, Nat.reduceLeDiff, true_and, and_true]
  rintro _ rfl
  refine W_seq (fun st1 => ∃ s3, ∃ ks : List Nat, ∃ S1, Pt p S S1 ∧ ks.Nodup ∧ (∀ k ∈ ks, k < n) ∧ ks.length = n ∧ st1 = ⟨[.val (.ref p), .val (.int n), .own (.lst (intsL ks)), s3], S1⟩) ?_ ?_
  · simp only [W_pure, W_ofO, W_eVar, W_oVar, W_eFrz, W_oE, W_eOp2, W_eChain, W_asB, W_bNot, W_bAnd, W_bOr, W_eNot, W_eAnd, W_eOr, W_eIf, W_eNeg, W_aNil, W_aCons, W_oNil, W_oCons, W_eTup, W_fLst, W_eFz, W_eBox, W_fDic, W_eCall, W_fCall, W_pNo, W_pSome, W_eSliceU, W_fSlice, W_fRev, W_eLst, W_eLst0, W_mVar, W_mRef, W_eMeth, W_eFn, W_cSeq, W_cRet, W_cExpr, W_cIf, W_cSet, W_cOwn, W_cUnp, W_cSetIx, W_cPut, W_iU, W_iVar, W_iRange, W_iEnumU, W_iZipU, W_cFor, W_bYes, Op_some, Op_none, Op_ite, Op_map, Op_bind, Op_rdAll, rdAll_nil, Bw_bl, rVar, peekS, peekT, pVar, pRef, Lw_lst, setS, lstAt_fz, lenO_fz, lenO_str, list_fz, wipe_1, wipe_2, rest_1, rest_2, List.all_cons, List.all_nil, notOwn, W_fComp, asg_2, asg_n, turn_n, turn_c, turn_b, turn_r, List.getElem?_cons_zero, List.getElem?_cons_succ, List.getElem?_nil, List.set_cons_zero, List.set_cons_succ, List.map_cons, List.map_nil, List.cons_append, List.nil_append, List.length_cons, List.length_nil, Option.getD_some, Bool.and_true, Bool.and_self, Option.bind_some, Option.map_some, List.replicate_succ, List.replicate_zero, decide_eq_true_eq, Bool.not_true, Bool.not_false, Bool.not_eq_true', if_true, if_false, reduceIte, reduceCtorEq, Nat.reduceAdd, Nat.reduceSub, Nat.reduceLeDiff, true_and, and_true]
    refine ⟨by omega, ?_⟩
    refine W_forL (fun j st1 => ∃ s3, ∃ ks : List Nat, ∃ S1, Pt p S S1 ∧ ks.Nodup ∧ (∀ k ∈ ks, k < j) ∧ ks.length = j ∧ st1 = ⟨[.val (.ref p), .val (.int n), .own (.lst (intsL ks)), s3], S1⟩) _ 0 _ ⟨_, [], _, .refl h, by simp, by simp, rfl, rfl⟩ ?_ ?_
    · rintro i t _ ht ⟨s3, ks, S1, h1, h2, h3, h4, rfl⟩
      obtain ⟨hi, rfl⟩ := range_get ht
      rw [Nat.zero_add] at h3 h4 ⊢
      refine ⟨trivial, ?_⟩
      simp only [W_pure, W_ofO, W_eVar, W_oVar, W_eFrz, W_oE, W_eOp2, W_eChain, W_asB, W_bNot, W_bAnd, W_bOr, W_eNot, W_eAnd, W_eOr, W_eIf, W_eNeg, W_aNil, W_aCons, W_oNil, W_oCons, W_eTup, W_fLst, W_eFz, W_eBox, W_fDic, W_eCall, W_fCall, W_pNo, W_pSome, W_eSliceU, W_fSlice, W_fRev, W_eLst, W_eLst0, W_mVar, W_mRef, W_eMeth, W_eFn, W_cSeq, W_cRet, W_cExpr, W_cIf, W_cSet, W_cOwn, W_cUnp, W_cSetIx, W_cPut, W_iU, W_iVar, W_iRange, W_iEnumU, W_iZipU, W_cFor, W_bYes, Op_some, Op_none, Op_ite, Op_map, Op_bind, Op_rdAll, rdAll_nil, Bw_bl, rVar, peekS, peekT, pVar, pRef, Lw_lst, setS, lstAt_fz, lenO_fz, lenO_str, list_fz, wipe_1, wipe_2, rest_1, rest_2, List.all_cons, List.all_nil, notOwn, W_fComp, asg_2, asg_n, turn_n, turn_c, turn_b, turn_r, List.getElem?_cons_zero, List.getElem?_cons_succ, List.getElem?_nil, List.set_cons_zero, List.set_cons_succ, List.map_cons, List.map_nil, List.cons_append, List.nil_append, List.length_cons, List.length_nil, Option.getD_some, Bool.and_true, Bool.and_self, Option.bind_some, Option.map_some, List.replicate_succ, List.replicate_zero, decide_eq_true_eq, Bool.not_true, Bool.not_false, Bool.not_eq_true', if_true, if_false, reduceIte, reduceCtorEq, Nat.reduceAdd, Nat.reduceSub, Nat.reduceLeDiff, true_and, and_true, ix_n, ix_0, ix_1, ix_2, ix_t0, ix_t1, ix_t2, set_1, set_2, add_i, sub_i, mod_i, div_i, lt_i, le_i, gt_i, ge_i, eq_i, ne_i, p1018, p1017]
      refine pick_w h1.1 (by omega) (by omega) fun x S2 h5 hx hx2 => ?_
      rw [insert_i hx (by omega) (by unfold intsL; rw [List.length_map]; omega)]
      rw [Op_some]
      have hni : i ∉ ks := fun z => by have := h3 _ z; omega
      refine ⟨.val (.int i), ks.take x.toNat ++ [i] ++ ks.drop x.toNat, S2, h1.trans h5, ?_, ?_, ?_, ?_⟩
      · have hp : (ks.take x.toNat ++ [i] ++ ks.drop x.toNat).Perm (i :: ks) := by
          have e : ks.take x.toNat ++ [i] ++ ks.drop x.toNat = ks.take x.toNat ++ i :: ks.drop x.toNat := by simp
          rw [e]
          refine List.perm_middle.trans ?_
          rw [List.take_append_drop]
        rw [hp.nodup_iff]
        exact List.nodup_cons.mpr ⟨hni, h2⟩
      · intro k hk
        simp only [List.mem_append, List.mem_singleton] at hk
        rcases hk with (hk | hk) | hk
        · have := h3 _ (List.mem_of_mem_take hk); omega
        · omega
        · have := h3 _ (List.mem_of_mem_drop hk); omega
      · simp only [List.length_append, List.length_take, List.length_drop, List.length_cons, List.length_nil]
        omega
      · simp only [intsL, List.map_append, List.map_take, List.map_drop, List.getElem?_cons_zero, List.getElem?_cons_succ, List.getElem?_nil, List.set_cons_zero, List.set_cons_succ, List.map_cons, List.map_nil, List.cons_append, List.nil_append, List.length_cons, List.length_nil, Option.getD_some, Bool.and_true, Bool.and_self, Option.bind_some, Option.map_some, List.replicate_succ, List.replicate_zero, decide_eq_true_eq, Bool.not_true, Bool.not_false, Bool.not_eq_true', if_true, if_false, reduceIte, reduceCtorEq, Nat.reduceAdd, Nat.reduceSub, Nat.reduceLeDiff, true_and, and_true]
    · rintro _ ⟨s3, ks, S1, h1, h2, h3, h4, rfl⟩
      have e : 0 + ((List.range (n : Int).toNat).map fun k : Nat => T.int (k : Int)).length = n := by simp
      rw [e] at h3 h4
      exact ⟨trivial, rfl, s3, ks, S1, h1, h2, h3, h4, rfl⟩
  rintro _ ⟨s3, ks, S1, h1, h2, h3, h4, rfl⟩
  simp only [W_pure, W_ofO, W_eVar, W_oVar, W_eFrz, W_oE, W_eOp2, W_eChain, W_asB, W_bNot, W_bAnd, W_bOr, W_eNot, W_eAnd, W_eOr, W_eIf, W_eNeg, W_aNil, W_aCons, W_oNil, W_oCons, W_eTup, W_fLst, W_eFz, W_eBox, W_fDic, W_eCall, W_fCall, W_pNo, W_pSome, W_eSliceU, W_fSlice, W_fRev, W_eLst, W_eLst0, W_mVar, W_mRef, W_eMeth, W_eFn, W_cSeq, W_cRet, W_cExpr, W_cIf, W_cSet, W_cOwn, W_cUnp, W_cSetIx, W_cPut, W_iU, W_iVar, W_iRange, W_iEnumU, W_iZipU, W_cFor, W_bYes, Op_some, Op_none, Op_ite, Op_map, Op_bind, Op_rdAll, rdAll_nil, Bw_bl, rVar, peekS, peekT, pVar, pRef, Lw_lst, setS, lstAt_fz, lenO_fz, lenO_str, list_fz, wipe_1, wipe_2, rest_1, rest_2, List.all_cons, List.all_nil, notOwn, W_fComp, asg_2, asg_n, turn_n, turn_c, turn_b, turn_r, List.getElem?_cons_zero, List.getElem?_cons_succ, List.getElem?_nil, List.set_cons_zero, List.set_cons_succ, List.map_cons, List.map_nil, List.cons_append, List.nil_append, List.length_cons, List.length_nil, Option.getD_some, Bool.and_true, Bool.and_self, Option.bind_some, Option.map_some, List.replicate_succ, List.replicate_zero, decide_eq_true_eq, Bool.not_true, Bool.not_false, Bool.not_eq_true', if_true, if_false, reduceIte, reduceCtorEq, Nat.reduceAdd, Nat.reduceSub, Nat.reduceLeDiff, true_and, and_true]
  exact ⟨h1, ks, rfl, h2, h3, h4⟩
end Lw
namespace Lw
open PySem PySem.Spec PyProof.Rows L2 Sw
open Classical
def alphaT : T := .str [97, 98, 99, 100, 101, 102, 103, 104, 105, 106, 107, 108, 109, 110, 111, 112, 113, 114, 115, 116, 117, 118, 119, 120, 121, 122]
theorem letter_at {k : Int} (h0 : 0 ≤ k) (h1 : k < 26) : ∃ c : Nat, (97 ≤ c ∧ c ≤ 122) ∧ qOp2 ixU alphaT (.int k) = qP (.str [c]) := by
  have : k = 0 ∨ k = 1 ∨ k = 2 ∨ k = 3 ∨ k = 4 ∨ k = 5 ∨ k = 6 ∨ k = 7 ∨ k = 8 ∨ k = 9 ∨ k = 10 ∨ k = 11 ∨ k = 12 ∨ k = 13 ∨ k = 14 ∨ k = 15 ∨ k = 16 ∨ k = 17 ∨ k = 18 ∨ k = 19 ∨ k = 20 ∨ k = 21 ∨ k = 22 ∨ k = 23 ∨ k = 24 ∨ k = 25 := by omega
  rcases this with rfl | rfl | rfl | rfl | rfl | rfl | rfl | rfl | rfl | rfl | rfl | rfl | rfl | rfl | rfl | rfl | rfl | rfl | rfl | rfl | rfl | rfl | rfl | rfl | rfl | rfl <;> exact ⟨_, ⟨by decide, by decide⟩, rfl⟩
theorem flat1 : ∀ {cs : List Nat}, (cs.map fun c => [c]).flatten = cs
  | [] => rfl
  | c :: cs => by rw [List.map_cons, List.flatten_cons, flat1]; rfl
theorem join_cs {cs : List Nat} (h : cs.length ≤ 1000) : qMeth joinF (.str []) [.fz (cs.map fun c => T.str [c])] = qP (.str cs) := by
  rw [qMeth_n nr_str]
  show qO (match strsOf (cs.map fun c => T.str [c]) with
    | some zs => if (zs.map (·.length)).sum + zs.length * ([] : List Nat).length ≤ 1000000 then some (T.str (TL.joinL [] zs)) else none
    | none => none) = _
  rw [show (cs.map fun c => T.str [c]) = (cs.map fun c => [c]).map .str by rw [List.map_map]; rfl, strsO_map]
  have hs : ((cs.map fun c => [c]).map (·.length)).sum = cs.length := by
    rw [List.map_map]
    clear h
    induction cs with
    | nil => rfl
    | cons c cs ih => rw [List.map_cons, List.sum_cons, ih]; simp; omega
  simp only [hs]
  rw [if_pos (by simp; omega), joinL_nil]
  rw [flat1]
  rfl
theorem list_fzq {l : List T} : qCall listO [.fz l] = qP l := by
  rw [qCall_1 nr_fz]
  rfl
theorem str_to {s : List Nat} {k : Nat} (h : s.length ≤ 1000) : qSl slU (.str s) none (some (k : Int)) = qP (.str (s.take k)) := by
  rw [qSl_n nr_str]
  unfold slU
  simp only
  rw [if_pos (by omega), cut_to (by omega), qO_some]
  simp
theorem str_from {s : List Nat} {k : Nat} (h : s.length ≤ 1000) : qSl slU (.str s) (some (k : Int)) none = qP (.str (s.drop k)) := by
  rw [qSl_n nr_str]
  unfold slU
  simp only
  rw [if_pos (by omega), cut_from (by omega), qO_some]
  simp
theorem tup_add {a b : List T} (h : a.length + b.length ≤ 1000000) : qOp2 addU (.tup a) (.tup b) = qP (.tup (a ++ b)) := by
  rw [qOp2_n nr_tup nr_tup]
  unfold addU
  simp only [h, if_true, qO_some]
theorem tup_to {l : List T} {k : Nat} : qSl slU (.tup l) none (some (k : Int)) = qP (.tup (l.take k)) := by
  rw [qSl_n nr_tup, slU_t, cut_to (by omega), qO_some]
  simp
theorem tup_from {l : List T} {k : Nat} : qSl slU (.tup l) (some (k : Int)) none = qP (.tup (l.drop k)) := by
  rw [qSl_n nr_tup, slU_t, cut_from (by omega), qO_some]
  simp
theorem len_tup {l : List T} : qCall lenO [.tup l] = qP (.int l.length) := by
  rw [qCall_1 nr_tup]
  rfl
theorem list_tup {l : List T} : qCall listO [.tup l] = qP l := by
  rw [qCall_1 nr_tup]
  rfl
def NameOk (n : List Nat) : Prop := 1 ≤ n.length ∧ n.length ≤ 8 ∧ ∀ c ∈ n, 97 ≤ c ∧ c ≤ 122
abbrev Nms : Type := List (List Nat)
def nL (l : Nms) : T := .fz (l.map .str)
def NmsOk (l : Nms) : Prop := (∀ x ∈ l, NameOk x) ∧ l.length ≤ 1000
theorem nr_nL {l : Nms} : nr (nL l) = true := nr_fz
theorem ix_nL {l : Nms} {k : Int} (h0 : 0 ≤ k) (h1 : k < l.length) : ∃ x ∈ l, qOp2 ixU (nL l) (.int k) = qP (.str x) := by
  obtain ⟨x, hx⟩ : ∃ x, l[k.toNat]? = some x := ⟨_, List.getElem?_eq_getElem (by omega)⟩
  refine ⟨x, List.mem_of_getElem? hx, ?_⟩
  unfold nL
  rw [qOp2_n nr_fz nr_int, ix_i h0, List.getElem?_map, hx]
  rfl
theorem len_nL {l : Nms} : qCall lenO [nL l] = qP (.int l.length) := by
  unfold nL
  rw [qCall_1 nr_fz, lenO_fz, List.length_map, qO_some]
/-! ### draws -/
section
variable {p : Nat} {S0 S : List Ob}
theorem Qw_pk {m : Int} {Φ : T → List Ob → Prop} (h : Pt p S0 S) (hm : 0 < m) (hm2 : m ≤ 10000000000000000000000000000000000000000) (k : ∀ (k : Int) (S' : List Ob), 0 ≤ k → k < m → Pt p S0 S' → Φ (.int k) S') : Qw (m__law_pick [.ref p, .int m]) S Φ := by
  rw [Qw_fn]
  exact pick_w h.1 hm hm2 fun x S1 h1 h2 h3 => k x S1 h2 h3 (h.trans h1)
theorem Qw_eqi {S : List Ob} {a b : Int} {Φ : Bool → List Ob → Prop} (q : Φ (a == b) S) : Qw (qB (qOp2 Sw.eqT (.int a) (.int b)) qTr) S Φ := by
  rw [qOp2_n nr_int nr_int, eq_i, qO_some, qB_P, qTr_b, Qw_P]
  exact q
theorem Qw_lti {S : List Ob} {a b : Int} {Φ : Bool → List Ob → Prop} (q : Φ (decide (a < b)) S) : Qw (qB (qOp2 ltO (.int a) (.int b)) qTr) S Φ := by
  rw [qOp2_n nr_int nr_int, lt_i, qO_some, qB_P, qTr_b, Qw_P]
  exact q
theorem len_str {s : List Nat} (h : s.length ≤ 1000000) : qCall lenO [.str s] = qP (.int s.length) := by rw [qCall_1 nr_str, lenO_str, if_pos h, qO_some]
theorem letters_w {n : Nat} (hn : n ≤ 100) (hp : IsPot S p) : Fw m__law_letters [.ref p, .int n] S fun t S' => (∃ l : Nms, t = nL l ∧ NmsOk l ∧ l.length = n) ∧ Pt p S S' := by
  refine fw_of (q := q__law_letters _ _) qs__law_letters ?_
  unfold q__law_letters qb__law_letters
  rw [Qw_qFn, Qw_B, show qTy "str" (.str []) = qP () from rfl, qB_P, Qw_B, Qw_B, qRange_i (by decide) (by decide), qB_P]
  refine Qw_comp (fun i done S6 => ∃ cs : List Nat, done = cs.map (fun c => T.str [c]) ∧ cs.length = i ∧ (∀ c ∈ cs, 97 ≤ c ∧ c ≤ 122) ∧ Pt p S S6) (by simp) ⟨[], rfl, rfl, fun r hr => (nomatch hr), .refl hp⟩ ?_ ?_
  · rintro i t done S6 hi ⟨cs, rfl, hl, hc, h⟩
    rw [Qw_B, Qw_B]
    refine Qw_pk h (by decide) (by decide) fun j S7 j0 j1 h => ?_
    obtain ⟨c, c1, e⟩ := letter_at j0 j1
    rw [show qOp2 ixU (.str [97, 98, 99, 100, 101, 102, 103, 104, 105, 106, 107, 108, 109, 110, 111, 112, 113, 114, 115, 116, 117, 118, 119, 120, 121, 122]) (.int j) = qP (.str [c]) from e, Qw_P, Qw_P]
    refine ⟨cs ++ [c], by simp, by simp [hl], fun x hx => ?_, h⟩
    rcases List.mem_append.mp hx with hx | hx
    · exact hc x hx
    · rw [List.mem_singleton.mp hx]; exact c1
  · rintro ys S6 ⟨stem, rfl, hl, hc, h⟩
    have hl7 : stem.length = 7 := by rw [hl]; rfl
    rw [Qw_P, join_cs (by omega), Qw_P, Qw_B]
    refine Qw_pk h (by decide) (by decide) fun spot S7 s0 s1 h => ?_
    rw [Qw_B]
    refine Qw_pk h (by decide) (by decide) fun turn S8 t0 t1 h => ?_
    rw [Qw_B]
    refine Qw_pk h (by decide) (by decide) fun size S9 z0 z1 h => ?_
    rw [qB_P, Qw_seq, qRange_i (by omega) (by omega), qB_P]
    refine Qw_for (fun i a S5 => ∃ l : Nms, a = l.map .str ∧ l.length = i ∧ (∀ x ∈ l, NameOk x) ∧ S5 = S9) _ 0 _ _ ⟨[], rfl, rfl, fun r hr => (nomatch hr), rfl⟩ ?_ ?_
    · rintro i t a S5 hi ⟨l, rfl, hl2, hx, rfl⟩
      obtain ⟨hi2, rfl⟩ := range_get hi
      rw [Nat.zero_add] at hl2 ⊢
      obtain ⟨c, c1, e⟩ := letter_at (Int.emod_nonneg (turn + 5 * (i : Int)) (show (26 : Int) ≠ 0 by decide)) (Int.emod_lt_of_pos (turn + 5 * (i : Int)) (by decide))
      have m0 := Int.emod_nonneg (size + (i : Int) * (spot % 2)) (show (8 : Int) ≠ 0 by decide)
      have m1 := Int.emod_lt_of_pos (size + (i : Int) * (spot % 2)) (show (0 : Int) < 8 by decide)
      have b0 := Int.emod_nonneg spot (show (2 : Int) ≠ 0 by decide)
      have b1 := Int.emod_lt_of_pos spot (show (0 : Int) < 2 by decide)
      rw [qOp2_n nr_int nr_int, mod_i (by decide), qO_some, qB_P, qOp2_n nr_int nr_int, mul_r (by omega) (by omega), qO_some, qB_P, qOp2_n nr_int nr_int, add_i, qO_some, qB_P, qOp2_n nr_int nr_int, mod_i (by decide), qO_some, qB_P, qI_i, qB_P]
      obtain ⟨q, hq⟩ : ∃ q : Nat, (size + (i : Int) * (spot % 2)) % 8 = q := ⟨((size + (i : Int) * (spot % 2)) % 8).toNat, by omega⟩
      rw [hq, str_to (by omega), qB_P]
      have hp7 : (stem.take q).length ≤ 7 := by simp; omega
      have hpc : ∀ c ∈ stem.take q, 97 ≤ c ∧ c ≤ 122 := fun c hc' => hc c (List.mem_of_mem_take hc')
      generalize stem.take q = part at hp7 hpc
      have key : ∃ at_ : Nat, (qB (qB (qB (qB (qCall lenO [.str part]) fun t49 => (qB (qB (qCall lenO [.str part]) fun t54 => (qOp2 divO t54 (.int 2))) fun t57 => (qP [(.int 0), t49, t57]))) fun l58 => qP (T.fz l58)) fun t61 => (qOp2 ixU t61 (.int spot)))) = fun f : T → Q (F (List T) (List T)) => f (.int at_) := by
        rw [len_str (by omega), qB_P, qB_P, qOp2_n nr_int nr_int, div_i (by decide) (by decide), qO_some, qB_P, qB_P, qB_P]
        have : spot = 0 ∨ spot = 1 ∨ spot = 2 := by omega
        rcases this with rfl | rfl | rfl
        · exact ⟨0, rfl⟩
        · exact ⟨part.length, rfl⟩
        · refine ⟨part.length / 2, ?_⟩
          rw [show (qOp2 ixU (.fz [(.int 0), .int (part.length : Int), .int ((part.length : Int) / 2)]) (.int 2)) = qP (.int ((part.length : Int) / 2)) from rfl, show ((part.length : Int) / 2) = ((part.length / 2 : Nat) : Int) by omega]
          funext f
          rw [qB_P]
      obtain ⟨at_, ea⟩ := key
      rw [ea]
      simp only
      rw [qI_i, qB_P, qB_P, str_to (by omega), qB_P, qOp2_n nr_int nr_int, mul_l (by decide) (by decide), qO_some, qB_P, qOp2_n nr_int nr_int, add_i, qO_some, qB_P, qOp2_n nr_int nr_int, mod_i (by decide), qO_some, qB_P]
      rw [show qOp2 ixU (.str [97, 98, 99, 100, 101, 102, 103, 104, 105, 106, 107, 108, 109, 110, 111, 112, 113, 114, 115, 116, 117, 118, 119, 120, 121, 122]) (.int ((turn + 5 * (i : Int)) % 26)) = qP (.str [c]) from e, qB_P, qOp2_n nr_str nr_str, add_s (by simp; omega), qO_some, qB_P, str_from (by omega), qB_P, qOp2_n nr_str nr_str, add_s (by simp; omega), qO_some, qB_P, append_i (by simp; omega), qO_some, qB_P, Qw_P]
      refine ⟨l ++ [part.take at_ ++ [c] ++ part.drop at_], by simp, by simp [hl2], fun x hx' => ?_, rfl⟩
      rcases List.mem_append.mp hx' with hx' | hx'
      · exact hx x hx'
      · rw [List.mem_singleton.mp hx']
        refine ⟨by simp; omega, by simp; omega, fun y hy => ?_⟩
        rcases List.mem_append.mp hy with hy | hy
        · rcases List.mem_append.mp hy with hy | hy
          · exact hpc y (List.mem_of_mem_take hy)
          · rw [List.mem_singleton.mp hy]; exact c1
        · exact hpc y (List.mem_of_mem_drop hy)
    · rintro a S5 ⟨l, rfl, hl2, hx, rfl⟩
      simp only
      rw [Qw_P]
      rw [Nat.zero_add, List.length_map, List.length_range, Int.toNat_natCast] at hl2
      exact ⟨⟨l, rfl, ⟨hx, by omega⟩, hl2⟩, h⟩
theorem pot_w (ns : List Int) : Fw m__law_pot [.scr ns] [] fun t S' => t = .ref 0 ∧ IsPot S' 0 := by
  refine fw_of (q := q__law_pot _) qs__law_pot ?_
  unfold q__law_pot qb__law_pot
  rw [Qw_qFn, qSl_n nr_scr, qSl_n nr_scr]
  unfold slU
  simp only
  rw [qO_some, qB_P, list_fzq, qB_P, qO_some, qB_P, qEnumX_f, qB_P, Qw_seq, cut_to (show (0 : Int) ≤ 12 by decide)]
  refine Qw_for (fun _ a S1 => S1 = [] ∧ ∃ cs : List Int, a = cs.map .int ∧ cs.length = min 12 ns.length) _ 0 _ _ ⟨rfl, _, rfl, by simp⟩ ?_ ?_
  · rintro i t a S1 ht ⟨rfl, cs, rfl, hc⟩
    obtain ⟨u, hu, rfl⟩ := enum_get ht
    rw [List.getElem?_map] at hu
    obtain ⟨c, hc', rfl⟩ := Option.map_eq_some_iff.mp hu
    have h12 : 12 ≤ ns.length := by
      have := (List.getElem?_eq_some_iff.mp hc').1
      simp only [cutL, List.length_take, List.length_drop, sIx_n (show (0 : Int) ≤ 12 by decide)] at this
      simp at this
      omega
    have h2 := Nat.mod_lt i (show 0 < 12 by decide)
    obtain ⟨x, hx⟩ : ∃ x, cs[i % 12]? = some x := ⟨_, List.getElem?_eq_getElem (by omega)⟩
    rw [un2_t, qOp2_n nr_int nr_int, mod_i (by decide), show ((i : Int) % 12) = ((i % 12 : Nat) : Int) by omega, qO_some, qB_P, qOp2_n nr_fz nr_int, ix_n, List.getElem?_map, hx, Option.map_some, qO_some, qB_P, qOp2_n nr_int nr_int, add_i, qO_some, qB_P, qB_P]
    rw [show setL (cs.map T.int) (.int ((i % 12 : Nat) : Int)) (.int (x + c)) = some ((cs.set (i % 12) (x + c)).map .int) by
      show (ixN (cs.map T.int).length ((i % 12 : Nat) : Int)).map (fun j => (cs.map T.int).set j (.int (x + c))) = _
      rw [ixN_nat (by simp; omega), List.map_set]
      rfl, qO_some, qB_P, Qw_P]
    exact ⟨rfl, _, rfl, by simp [hc]⟩
  · rintro a S1 ⟨rfl, cs, rfl, hc⟩
    simp only
    rw [qB_P, Qw_B]
    refine Qw.of (t := .ref 0) (S' := [.lst [.fz (cs.map .int), .int 0, .int 0]]) rfl ?_
    rw [Qw_P]
    exact ⟨rfl, _, rfl, cs, 0, 0, rfl, by decide, by decide⟩
end
end Lw
namespace Lw
open PySem PySem.Spec PyProof.Rows L2 Sw
open Classical
theorem mulS_i {c : Nat} {n : Int} (h : 0 ≤ n) (h2 : n ≤ 1000) : mulU (.str [c]) (.int n) = some (.str (List.replicate n.toNat c)) := by
  unfold mulU mulSO
  simp only
  rw [if_pos ⟨h, h2, by simp⟩, List.flatten_replicate_singleton]
section
variable {p : Nat} {S0 S : List Ob}
theorem names_w {n : Nat} (hn : n ≤ 100) (hp : IsPot S p) : Fw m__law_names [.ref p, .int n] S fun t S' => (∃ l : Nms, t = nL l ∧ NmsOk l ∧ l.length = n) ∧ Pt p S S' := by
  refine fw_of (q := q__law_names _ _) qs__law_names ?_
  unfold q__law_names qb__law_names
  rw [Qw_qFn, Qw_B]
  refine Qw_pk (.refl hp) (by decide) (by decide) fun way S1 w0 w1 h => ?_
  rw [Qw_B]
  refine Qw_pk h (by decide) (by decide) fun turn S2 t0 t1 h => ?_
  have fin : ∀ (l : Nms) (S3 : List Ob), Pt p S S3 → NmsOk l → l.length = n → Qw (qB (qB (qB (qB (m__law_order [.ref p, .int n]) qIt) (qComp fun x49 => (qB (qOp2 ixU (nL l) x49) fun y54 => qP (some y54)))) fun l55 => qP (T.fz l55)) fun t56 => (qP (.ret t56) : Q (F Unit Unit))) S3 fun f S1 => match f with
      | .nxt _ => (∃ l : Nms, T.non = nL l ∧ NmsOk l ∧ l.length = n) ∧ Pt p S S1
      | .ret t => (∃ l : Nms, t = nL l ∧ NmsOk l ∧ l.length = n) ∧ Pt p S S1
      | _ => False := by
    intro l S3 h hl hln
    rw [Qw_B, Qw_B, Qw_B, Qw_B, Qw_fn]
    refine (order_ok h.1 hn).mono ?_
    rintro t S4 ⟨h2, ks, rfl, hk1, hk2, hk3⟩
    rw [show qIt (.fz (intsL ks)) = qP (ks.map fun k : Nat => T.int (k : Int)) from rfl, Qw_P]
    rw [qComp_a (en := fun k : Nat => T.int (k : Int)) (f := fun k => T.str (l.getD k [])) (by omega) fun k hk => by
      have hkl : k < l.length := by have := hk2 k hk; omega
      unfold nL
      rw [qOp2_n nr_fz nr_int, ix_n, List.getElem?_map, List.getElem?_eq_getElem hkl, Option.map_some, qO_some, qB_P, List.getD_eq_getElem?_getD, List.getElem?_eq_getElem hkl]
      rfl, Qw_P, Qw_P, Qw_P]
    refine ⟨⟨ks.map fun k => l.getD k [], by unfold nL; rw [List.map_map]; rfl, ⟨fun x hx => ?_, by simp; omega⟩, by simp [hk3]⟩, h.trans h2⟩
    obtain ⟨k, hk, rfl⟩ := List.mem_map.mp hx
    have hkl : k < l.length := by have := hk2 k hk; omega
    rw [List.getD_eq_getElem?_getD, List.getElem?_eq_getElem hkl]
    exact hl.1 _ (List.getElem_mem hkl)
  rw [Qw_seq, Qw_B]
  refine Qw_eqi ?_
  by_cases c3 : way = 3
  · subst c3
    rw [show ((3 : Int) == 3) = true from rfl, if_pos rfl, qRange_i (by omega) (by omega), qB_P]
    rw [qComp_a (en := fun k : Nat => T.int (k : Int)) (f := fun k : Nat => T.str (List.replicate (1 + (k : Int) % 8).toNat (97 + ((turn + (k : Int) / 8) % 26).toNat))) (by simp; omega) fun k hk => by
      have m0 := Int.emod_nonneg (k : Int) (show (8 : Int) ≠ 0 by decide)
      have m1 := Int.emod_lt_of_pos (k : Int) (show (0 : Int) < 8 by decide)
      have e : qOp2 ixU alphaT (.int ((turn + (k : Int) / 8) % 26)) = qP (.str [97 + ((turn + (k : Int) / 8) % 26).toNat]) := by
        have a0 := Int.emod_nonneg (turn + (k : Int) / 8) (show (26 : Int) ≠ 0 by decide)
        have a1 := Int.emod_lt_of_pos (turn + (k : Int) / 8) (show (0 : Int) < 26 by decide)
        generalize (turn + (k : Int) / 8) % 26 = z at a0 a1
        have : z = 0 ∨ z = 1 ∨ z = 2 ∨ z = 3 ∨ z = 4 ∨ z = 5 ∨ z = 6 ∨ z = 7 ∨ z = 8 ∨ z = 9 ∨ z = 10 ∨ z = 11 ∨ z = 12 ∨ z = 13 ∨ z = 14 ∨ z = 15 ∨ z = 16 ∨ z = 17 ∨ z = 18 ∨ z = 19 ∨ z = 20 ∨ z = 21 ∨ z = 22 ∨ z = 23 ∨ z = 24 ∨ z = 25 := by omega
        rcases this with rfl | rfl | rfl | rfl | rfl | rfl | rfl | rfl | rfl | rfl | rfl | rfl | rfl | rfl | rfl | rfl | rfl | rfl | rfl | rfl | rfl | rfl | rfl | rfl | rfl | rfl <;> rfl
      rw [qOp2_n nr_int nr_int, div_i (by decide) (by decide), qO_some, qB_P, qOp2_n nr_int nr_int, add_i, qO_some, qB_P, qOp2_n nr_int nr_int, mod_i (by decide), qO_some, qB_P, show (.str [97, 98, 99, 100, 101, 102, 103, 104, 105, 106, 107, 108, 109, 110, 111, 112, 113, 114, 115, 116, 117, 118, 119, 120, 121, 122] : T) = alphaT from rfl, e, qB_P, qOp2_n nr_int nr_int, mod_i (by decide), qO_some, qB_P, qOp2_n nr_int nr_int, add_i, qO_some, qB_P, qOp2_n nr_str nr_int, mulS_i (by omega) (by omega), qO_some, qB_P]]
    rw [qB_P, qB_P, Qw_P]
    simp only
    rw [show T.fz ((List.range (n : Int).toNat).map fun k : Nat => T.str (List.replicate (1 + (k : Int) % 8).toNat (97 + ((turn + (k : Int) / 8) % 26).toNat))) = nL ((List.range (n : Int).toNat).map fun k : Nat => List.replicate (1 + (k : Int) % 8).toNat (97 + ((turn + (k : Int) / 8) % 26).toNat)) by unfold nL; rw [List.map_map]; rfl]
    refine fin _ S2 h ⟨fun x hx => ?_, by simp; omega⟩ (by simp)
    obtain ⟨k, _, rfl⟩ := List.mem_map.mp hx
    have m0 := Int.emod_nonneg (k : Int) (show (8 : Int) ≠ 0 by decide)
    have m1 := Int.emod_lt_of_pos (k : Int) (show (0 : Int) < 8 by decide)
    have a0 := Int.emod_nonneg (turn + (k : Int) / 8) (show (26 : Int) ≠ 0 by decide)
    have a1 := Int.emod_lt_of_pos (turn + (k : Int) / 8) (show (0 : Int) < 26 by decide)
    refine ⟨by rw [List.length_replicate]; omega, by rw [List.length_replicate]; omega, fun c hc => ?_⟩
    rw [(List.mem_replicate.mp hc).2]
    omega
  · rw [show (way == 3) = false from beq_eq_false_iff_ne.mpr c3, if_neg (by simp), Qw_B, Qw_fn]
    refine (letters_w hn h.1).mono ?_
    rintro t S3 ⟨⟨l, rfl, hl, hln⟩, h2⟩
    rw [Qw_P]
    exact fin l S3 (h.trans h2) hl hln
theorem ix_small {x : Int} {cs : List Nat} (hz : cs.length ≤ 1000000) (h : 0 ≤ x) (h2 : x < cs.length) : ∃ c ∈ cs, qOp2 ixU (.str cs) (.int x) = qP (.str [c]) := by
  obtain ⟨k, rfl⟩ := Int.eq_ofNat_of_zero_le h
  have hk : k < cs.length := by omega
  refine ⟨cs[k], List.getElem_mem hk, ?_⟩
  rw [qOp2_n nr_str nr_int]
  show qO (if cs.length ≤ 1000000 then (atI cs (k : Int)).map fun c => T.str [c] else none) = _
  rw [if_pos hz, atI_k, List.getElem?_eq_getElem hk]
  rfl
def signsL : List Nat := [32, 33, 34, 35, 36, 38, 39, 40, 41, 42, 43, 44, 45, 46, 47, 48, 49, 50, 51, 52, 53, 54, 55, 56, 57, 58, 59, 60, 61, 62, 63, 64, 65, 66, 67, 68, 69, 70, 71, 72, 73, 74, 75, 76, 77, 78, 79, 80, 81, 82, 83, 84, 85, 86, 87, 88, 89, 90, 91, 92, 93, 94, 95, 96, 97, 98, 99, 100, 101, 102, 103, 104, 105, 106, 107, 108, 109, 110, 111, 112, 113, 114, 115, 116, 117, 118, 119, 120, 121, 122, 123, 124, 125, 126, 10, 9]
def TextOk (s : List Nat) : Prop := s.length ≤ 20 ∧ ∀ c ∈ s, c < 128
theorem text_w (hp : IsPot S p) : Fw m__law_text [.ref p, .int 20] S fun t S' => (∃ s, t = .str s ∧ TextOk s) ∧ Pt p S S' := by
  refine fw_of (q := q__law_text _ _) qs__law_text ?_
  unfold q__law_text qb__law_text
  rw [Qw_qFn, Qw_B, show qTy "str" (.str []) = qP () from rfl, qB_P, Qw_B, Qw_B, qOp2_n nr_int nr_int, add_i, qO_some, qB_P, Qw_B, Qw_B]
  refine Qw_pk (.refl hp) (by decide) (by decide) fun k S1 k0 k1 h => ?_
  rw [qRange_i (by omega) (by omega), Qw_P]
  refine Qw_comp (fun i done S6 => ∃ cs : List Nat, done = cs.map (fun c => T.str [c]) ∧ cs.length = i ∧ (∀ c ∈ cs, c < 128) ∧ Pt p S S6) (by simp; omega) ⟨[], rfl, rfl, fun r hr => (nomatch hr), h⟩ ?_ ?_
  · rintro i t done S6 hi ⟨cs, rfl, hl, hc, h⟩
    rw [show (.str [32, 33, 34, 35, 36, 38, 39, 40, 41, 42, 43, 44, 45, 46, 47, 48, 49, 50, 51, 52, 53, 54, 55, 56, 57, 58, 59, 60, 61, 62, 63, 64, 65, 66, 67, 68, 69, 70, 71, 72, 73, 74, 75, 76, 77, 78, 79, 80, 81, 82, 83, 84, 85, 86, 87, 88, 89, 90, 91, 92, 93, 94, 95, 96, 97, 98, 99, 100, 101, 102, 103, 104, 105, 106, 107, 108, 109, 110, 111, 112, 113, 114, 115, 116, 117, 118, 119, 120, 121, 122, 123, 124, 125, 126, 10, 9] : T) = .str signsL from rfl]
    rw [Qw_B, len_str (by decide), qB_P, Qw_B]
    refine Qw_pk h (by decide) (by decide) fun j S7 j0 j1 h => ?_
    obtain ⟨c, c1, e⟩ := ix_small (by decide) j0 j1
    have all : ∀ c ∈ signsL, c < 128 := by decide
    rw [e, Qw_P, Qw_P]
    refine ⟨cs ++ [c], by simp, by simp [hl], fun x hx => ?_, h⟩
    rcases List.mem_append.mp hx with hx | hx
    · exact hc x hx
    · rw [List.mem_singleton.mp hx]; exact all c c1
  · rintro ys S6 ⟨stem, rfl, hl, hc, h⟩
    have hl20 : stem.length ≤ 20 := by rw [hl]; simp; omega
    rw [Qw_P, join_cs (by omega), Qw_P, Qw_P]
    exact ⟨⟨stem, rfl, hl20, hc⟩, h⟩
end
end Lw
namespace Lw
open PySem PySem.Spec PyProof.Rows L2 Sw
open Classical
theorem qCh_b {b : Bool} {q : Q T} : qCh (.bl b) q = if b then q else qP (.bl false) := by cases b <;> rfl
theorem whole_q (k : Int) : m_is_whole [.int k] = qP (.bl true) := fn_pure (q := q_is_whole _) qs_is_whole rfl
theorem in_q (k a b : Int) : m_is_in [.int k, .int a, .int b] = qP (.bl (decide (a ≤ k) && decide (k ≤ b))) := fn_pure (q := q_is_in _ _ _) qs_is_in (by
  unfold q_is_in qb_is_in
  rw [whole_q]
  show qFn (qB (qCh (.bl (decide (a ≤ k))) (qP (.bl (decide (k ≤ b))))) fun t => qP (.ret t)) = _
  rw [qCh_b]
  cases decide (a ≤ k) <;> rfl)
variable {k b : Nat} {x y : T}
def kTup : T → Bool
  | .tup _ => true
  | _ => false
def kStr : T → Bool
  | .str _ => true
  | _ => false
def kBool : T → Bool
  | .bl _ => true
  | _ => false
def kInt : T → Bool
  | .int _ => true
  | .bl _ => true
  | _ => false
theorem Da.nr (h : Da k b x) : nr x = true := by
  cases h <;> first | exact nr_non | exact nr_bl | exact nr_int | exact nr_str | exact nr_tup | exact nr_fz
theorem isi_tup (h : Da k b x) : qCall isiO [x, .ty "tuple"] = qP (.bl (kTup x)) := by cases h <;> rfl
theorem isi_str (h : Da k b x) : qCall isiO [x, .ty "str"] = qP (.bl (kStr x)) := by cases h <;> rfl
theorem isi_bool (h : Da k b x) : qCall isiO [x, .ty "bool"] = qP (.bl (kBool x)) := by cases h <;> rfl
theorem isi_int (h : Da k b x) : qCall isiO [x, .ty "int"] = qP (.bl (kInt x)) := by cases h <;> rfl
def inV (lo hi : Int) : T → Bool
  | .int k => decide (lo ≤ k) && decide (k ≤ hi)
  | _ => false
theorem in_d (h : Da k b x) (lo hi : Int) : m_is_in [x, .int lo, .int hi] = qP (.bl (inV lo hi x)) := by
  have hw : m_is_whole [x] = qP (.bl (match x with | .int _ => true | _ => false)) := fn_pure (q := q_is_whole _) qs_is_whole (by
    unfold q_is_whole qb_is_whole
    rw [isi_int h, isi_bool h]
    cases h <;> rfl)
  cases x with
  | int k => exact in_q k lo hi
  | _ =>
    refine fn_pure (q := q_is_in _ _ _) qs_is_in ?_
    unfold q_is_in qb_is_in
    rw [hw]
    rfl
def abc : List Nat := [97, 98, 99, 100, 101, 102, 103, 104, 105, 106, 107, 108, 109, 110, 111, 112, 113, 114, 115, 116, 117, 118, 119, 120, 121, 122]
def letB (c : Nat) : Bool := decide (c ∈ abc)
def nameV : T → Bool
  | .str s => decide (1 ≤ s.length) && decide (s.length ≤ 8) && s.all letB
  | _ => false
theorem bls_map : ∀ {bs : List Bool}, blsOf (bs.map T.bl) = some bs
  | [] => rfl
  | b :: bs => by
    rw [List.map_cons]
    unfold blsOf
    rw [bls_map]
    rfl
theorem all_b {bs : List Bool} : allO [.fz (bs.map T.bl)] = some (.bl (bs.all id)) := by
  show (blsOf (bs.map T.bl)).map _ = _
  rw [bls_map]
  rfl
theorem it_str {s : List Nat} : qIt (.str s) = qP (s.map fun c => .str [c]) := Eq.trans rfl rfl
theorem name_d (h : Da k b x) (hb : b ≤ 100000) : m_is_name [x] = qP (.bl (nameV x)) := fn_pure (q := q_is_name _) qs_is_name (by
  unfold q_is_name qb_is_name
  rw [isi_str h, qB_P, qTr_b, qB_P]
  cases h with
  | @str k b s hs hl =>
    rw [show kStr (.str s) = true from rfl, if_pos rfl, len_str (by omega), qB_P, qOp2_n nr_int nr_int, le_i, qO_some, qB_P, qCh_b, qOp2_n nr_int nr_int, le_i, qO_some]
    rw [it_str, qB_P, qComp_a (en := fun c => T.str [c]) (f := fun c => T.bl (letB c)) (by omega) fun c _ => by
      rw [qOp2_n nr_str (show nr c_LETTERS = true from nr_str), show inU (.str [c]) c_LETTERS = some (.bl (letB c)) from rfl, qO_some, qB_P], qB_P, qB_P, qCall_1 nr_fz, show (s.map fun c => T.bl (letB c)) = (s.map letB).map T.bl by rw [List.map_map]; rfl, all_b, qO_some]
    have e1 : decide ((1 : Int) ≤ (s.length : Int)) = decide (1 ≤ s.length) := by rw [decide_eq_decide]; omega
    have e2 : decide ((s.length : Int) ≤ 8) = decide (s.length ≤ 8) := by rw [decide_eq_decide]; omega
    have e3 : (s.map letB).all id = s.all letB := by rw [List.all_map]; rfl
    rw [e1, e2, e3]
    show _ = qP (T.bl (decide (1 ≤ s.length) && decide (s.length ≤ 8) && s.all letB))
    cases decide (1 ≤ s.length) <;> cases decide (s.length ≤ 8) <;> rfl
  | _ => rfl)
def smallS : T → Bool
  | .str s => decide (s.length ≤ 20)
  | _ => false
def plainV : T → Bool
  | .tup [a] => isS [110, 111, 110, 101] a || isS [110, 111, 116] a
  | .tup [a, c] => if isS [116, 114, 117, 116, 104] a then kBool c else if isS [110, 117, 109, 98, 101, 114] a then inV (-1000000000) 1000000000 c else isS [116, 101, 120, 116] a && smallS c
  | _ => false
theorem text_d (h : Da k b y) (hb : b ≤ 100000) : (qB (qB (qCall isiO [y, (.ty "str")]) qTr) fun b67 => if b67 then (qB (qCall lenO [y]) fun t60 => (qOp2 leO t60 (.int 20))) else qP (.bl false)) = qP (.bl (smallS y)) := by
  rw [isi_str h, qB_P, qTr_b, qB_P]
  cases h with
  | @str k b s hs hl =>
    rw [show kStr (.str s) = true from rfl, if_pos rfl, len_str (by omega), qB_P, qOp2_n nr_int nr_int, le_i, qO_some]
    show qP (T.bl (decide ((s.length : Int) ≤ 20))) = qP (T.bl (decide (s.length ≤ 20)))
    rw [show decide ((s.length : Int) ≤ 20) = decide (s.length ≤ 20) by rw [decide_eq_decide]; omega]
  | _ => rfl
theorem eqT_s {s : List Nat} (h : Da k b x) (hk : k ≤ 50) (hs : s.all (· < 0x110000) = true) : (qB (qOp2 Sw.eqT x (.str s)) qTr) = qP (isS s x) := by
  rw [qOp2_n (Da.nr h) nr_str, eq_s h hk hs, qO_some, qB_P, qTr_b]
theorem eq_one {s : List Nat} (h : Da k b x) (hk : k ≤ 40) (hs : s.all (· < 0x110000) = true) : Sw.eqT (.tup [x]) (.tup [.str s]) = some (.bl (isS s x)) := by
  unfold Sw.eqT Sw.eqO
  have e1 : (T.tup [x]).dat 60 = true := by
    show T.dats 59 [x] = true
    exact dats_of fun t ht => by rw [List.mem_singleton.mp ht]; exact h.dat (by omega)
  have e2 : (T.tup [.str s]).dat 60 = true := by
    show (s.all (· < 0x110000) && true) = true
    rw [hs]
    rfl
  rw [e1, e2]
  simp only [Bool.and_self, if_true, Option.map_some]
  show some (T.bl (T.eqv x (.str s) && true)) = _
  rw [eqv_s, Bool.and_true]
theorem plain_d (h : Da k b x) (hk : k ≤ 40) (hb : b ≤ 100000) : m_is_plain [x] = qP (.bl (plainV x)) := fn_pure (q := q_is_plain _) qs_is_plain (by
  unfold q_is_plain qb_is_plain
  rw [isi_tup h, qB_P, qTr_b, qB_P, qB_P]
  cases h with
  | @tup k b c l hl he =>
    rw [show kTup (.tup l) = true from rfl, if_neg (by simp)]
    match l, hl with
    | [], _ => rfl
    | [a], hl =>
      have ha := hl a (by simp)
      show qFn (qB (qB (qB (qOp2 Sw.eqT (.tup [a]) c_NONE) qTr) fun b31 => if b31 = true then qP (.bl true) else (qOp2 Sw.eqT (.tup [a]) c_NOT)) fun t32 => qP (.ret t32)) = _
      rw [qOp2_n nr_tup (show Sw.nr c_NONE = true from nr_tup), show Sw.eqT (.tup [a]) c_NONE = _ from eq_one ha (by omega) (by decide), qO_some, qB_P, qTr_b, qB_P, qOp2_n nr_tup (show Sw.nr c_NOT = true from nr_tup), show Sw.eqT (.tup [a]) c_NOT = _ from eq_one ha (by omega) (by decide), qO_some]
      show _ = qP (T.bl (isS [110, 111, 110, 101] a || isS [110, 111, 116] a))
      cases isS [110, 111, 110, 101] a <;> rfl
    | [a, d], hl =>
      have ha := hl a (by simp)
      have hd := hl d (by simp)
      have hc : c ≤ 100000 := by simp at he; omega
      show qFn (qB (qB (qOp2 Sw.eqT a (.str [116, 114, 117, 116, 104])) qTr) fun b39 => if b39 = true then (qB (qCall isiO [d, (.ty "bool")]) fun t44 => qP (.ret t44)) else (qB (qB (qOp2 Sw.eqT a (.str [110, 117, 109, 98, 101, 114])) qTr) fun b49 => if b49 = true then (qB (qB (qOp2 subO (.int 0) (.int 1000000000)) fun t54 => (m_is_in [d, t54, (.int 1000000000)])) fun t55 => qP (.ret t55)) else (qB (qB (qB (qOp2 Sw.eqT a (.str [116, 101, 120, 116])) qTr) fun b72 => if b72 = true then (qB (qB (qCall isiO [d, (.ty "str")]) qTr) fun b67 => if b67 = true then (qB (qCall lenO [d]) fun t60 => (qOp2 leO t60 (.int 20))) else qP (.bl false)) else qP (.bl false)) fun t73 => qP (.ret t73)))) = _
      rw [eqT_s ha (by omega) (by decide), qB_P, isi_bool hd, qB_P, eqT_s ha (by omega) (by decide), qB_P, qOp2_n nr_int nr_int, sub_i, qO_some, qB_P, in_d hd, qB_P, eqT_s ha (by omega) (by decide), qB_P, text_d hd hc]
      show _ = qP (T.bl (if isS [116, 114, 117, 116, 104] a then kBool d else if isS [110, 117, 109, 98, 101, 114] a then inV (-1000000000) 1000000000 d else isS [116, 101, 120, 116] a && smallS d))
      cases isS [116, 114, 117, 116, 104] a <;> cases isS [110, 117, 109, 98, 101, 114] a <;> cases isS [116, 101, 120, 116] a <;> rfl
    | a :: d :: e :: r, hl =>
      have : (qB (qB (qCall lenO [.tup (a :: d :: e :: r)]) fun t5 => (qOp2 ninU t5 (.tup [(.int 1), (.int 2)]))) qTr) = qP true := by
        show qB (qOp2 ninU (.int ((a :: d :: e :: r).length : Nat)) (.tup [(.int 1), (.int 2)])) qTr = _
        rw [qOp2_n nr_int nr_tup]
        show qB (qO (some (T.bl (!((((1 : Int) == (((a :: d :: e :: r).length : Nat) : Int)) || (((2 : Int) == (((a :: d :: e :: r).length : Nat) : Int)) || false))))))) qTr = _
        have e1 : ((1 : Int) == (((a :: d :: e :: r).length : Nat) : Int)) = false := beq_eq_false_iff_ne.mpr (by simp only [List.length_cons]; omega)
        have e2 : ((2 : Int) == (((a :: d :: e :: r).length : Nat) : Int)) = false := beq_eq_false_iff_ne.mpr (by simp only [List.length_cons]; omega)
        rw [e1, e2]
        rfl
      rw [this, qB_P, if_pos rfl]
      rfl
  | _ => rfl)
theorem eqv_nil {l : List T} : T.eqvs l [] = l.isEmpty := by cases l <;> rfl
theorem eqf_nil {l : List T} (h : ∀ x ∈ l, Da k b x) (hk : k ≤ 40) : Sw.eqT (.fz l) (.fz []) = some (.bl l.isEmpty) := by
  unfold Sw.eqT Sw.eqO
  rw [show (T.fz l).dat 60 = true from dats_of (n := 59) fun x hx => (h x hx).dat (by omega), show (T.fz []).dat 60 = true from rfl]
  simp only [Bool.and_self, if_true, Option.map_some]
  show some (T.bl (T.eqvs l [])) = _
  rw [eqv_nil]
theorem nin_abc {c : Nat} (hc : c < 128) : qOp2 ninU (.str [c]) (.str abc) = qP (.bl (!letB c)) := by
  rw [qOp2_n nr_str nr_str]
  rfl
theorem filter_all {α : Type} {p : α → Bool} : ∀ {l : List α}, (l.filter fun x => !p x).isEmpty = l.all p
  | [] => rfl
  | a :: l => by
    rw [List.filter_cons, List.all_cons]
    cases p a with
    | true => simpa using filter_all (l := l)
    | false => rfl
theorem lname_d (h : Da k b x) (hb : b ≤ 100000) : m__law_is_name [x] = qP (.bl (nameV x)) := fn_pure (q := q__law_is_name _) qs__law_is_name (by
  unfold q__law_is_name qb__law_is_name
  rw [isi_str h, qB_P, qTr_b, qB_P, qB_P]
  cases h with
  | @str k b s hs hl =>
    rw [show kStr (.str s) = true from rfl, show (!true) = false from rfl, if_neg (by simp), len_str (by omega), qB_P, qOp2_n nr_int nr_int, lt_i, qO_some, qB_P, qCh_b, qOp2_n nr_int nr_int, lt_i, qO_some]
    have e1 : decide ((0 : Int) < (s.length : Int)) = decide (1 ≤ s.length) := by rw [decide_eq_decide]; omega
    have e2 : decide ((s.length : Int) < 9) = decide (s.length ≤ 8) := by rw [decide_eq_decide]; omega
    rw [e1, e2, it_str, qB_P, qComp_f (en := fun c => T.str [c]) (f := fun c => T.str [c]) (p := fun c => !letB c) (by omega) fun c hc => by
      rw [show (.str [97, 98, 99, 100, 101, 102, 103, 104, 105, 106, 107, 108, 109, 110, 111, 112, 113, 114, 115, 116, 117, 118, 119, 120, 121, 122] : T) = .str abc from rfl, nin_abc (hs c hc), qB_P, qTr_b, qB_P]
      cases letB c <;> rfl, qB_P, qB_P, qOp2_n nr_fz nr_fz, eqf_nil (k := 0) (b := 1) (fun x hx => by
      obtain ⟨c, hc, rfl⟩ := List.mem_map.mp hx
      exact .str (fun d hd => by rw [List.mem_singleton.mp hd]; exact hs c (List.mem_filter.mp hc).1) (by simp)) (by decide), qO_some, qB_P]
    have e3 : ((s.filter fun c => !letB c).map fun c => T.str [c]).isEmpty = s.all letB := by
      rw [← filter_all]
      cases s.filter fun c => !letB c <;> rfl
    rw [e3]
    show _ = qP (T.bl (decide (1 ≤ s.length) && decide (s.length ≤ 8) && s.all letB))
    cases decide (1 ≤ s.length) <;> cases decide (s.length ≤ 8) <;> rfl
  | _ => rfl)
theorem ix0_t {a : T} {l : List T} : qOp2 ixU (.tup (a :: l)) (.int 0) = qP a := by
  rw [qOp2_n nr_tup nr_int, ix_t0]
  rfl
theorem ix1_t {a c : T} {l : List T} : qOp2 ixU (.tup (a :: c :: l)) (.int 1) = qP c := by
  rw [qOp2_n nr_tup nr_int, ix_t1]
  rfl
theorem ix2_t {a c d : T} {l : List T} : qOp2 ixU (.tup (a :: c :: d :: l)) (.int 2) = qP d := by
  rw [qOp2_n nr_tup nr_int, show ixU (.tup (a :: c :: d :: l)) (.int 2) = (a :: c :: d :: l)[2]? from atI_k (k := 2)]
  rfl
theorem ix3_t {a c d e : T} {l : List T} : qOp2 ixU (.tup (a :: c :: d :: e :: l)) (.int 3) = qP e := by
  rw [qOp2_n nr_tup nr_int, show ixU (.tup (a :: c :: d :: e :: l)) (.int 3) = (a :: c :: d :: e :: l)[3]? from atI_k (k := 3)]
  rfl
theorem beq_sw (s z : List Nat) : (s == z) = (z == s) := by rw [Bool.eq_iff_iff, beq_iff_eq, beq_iff_eq]; exact ⟨Eq.symm, Eq.symm⟩
theorem eqv_sl {s : List Nat} (a : T) : T.eqv (.str s) a = isS s a := by
  cases a <;> first | rfl | exact beq_sw _ _
theorem in2_q {s z : List Nat} (h : Da k b x) (hk : k ≤ 50) (hs : s.all (· < 0x110000) = true) (hz : z.all (· < 0x110000) = true) : qOp2 inTD x (.tup [.str s, .str z]) = qP (.bl (isS s x || isS z x)) := by
  rw [qOp2_n (Da.nr h) nr_tup]
  have e : inTD x (.tup [.str s, .str z]) = some (.bl (isS s x || isS z x)) := by
    show (if x.dat 60 && T.dats 59 [.str s, .str z] then some (T.bl ([T.str s, T.str z].any fun z => T.eqv z x)) else none) = _
    rw [h.dat (by omega), show T.dats 59 [T.str s, .str z] = true from by
      show (s.all (· < 0x110000) && (z.all (· < 0x110000) && true)) = true
      rw [hs, hz]
      rfl]
    show some (T.bl (T.eqv (.str s) x || (T.eqv (.str z) x || false))) = _
    rw [eqv_sl, eqv_sl, Bool.or_false]
  rw [e, qO_some]
theorem len_12 {a d e : T} {r : List T} : (qB (qB (qCall lenO [.tup (a :: d :: e :: r)]) fun t5 => (qOp2 ninU t5 (.tup [(.int 1), (.int 2)]))) qTr) = qP true := by
  show qB (qOp2 ninU (.int ((a :: d :: e :: r).length : Nat)) (.tup [(.int 1), (.int 2)])) qTr = _
  rw [qOp2_n nr_int nr_tup]
  show qB (qO (some (T.bl (!((((1 : Int) == (((a :: d :: e :: r).length : Nat) : Int)) || (((2 : Int) == (((a :: d :: e :: r).length : Nat) : Int)) || false))))))) qTr = _
  have e1 : ((1 : Int) == (((a :: d :: e :: r).length : Nat) : Int)) = false := beq_eq_false_iff_ne.mpr (by simp only [List.length_cons]; omega)
  have e2 : ((2 : Int) == (((a :: d :: e :: r).length : Nat) : Int)) = false := beq_eq_false_iff_ne.mpr (by simp only [List.length_cons]; omega)
  rw [e1, e2]
  rfl
theorem lnum_d (h : Da k b y) : (qB (qB (qB (qCall isiO [y, (.ty "int")]) qTr) fun b94 => if b94 = true then (qB (qCall isiO [y, (.ty "bool")]) fun t83 => qB (qTr t83) fun b84 => qP (.bl (!b84))) else qP (.bl false)) fun whole_95 => (qB (qB (qB (qP whole_95) qTr) fun b123 => if b123 = true then (qB (qB (qOp2 powO (.int 10) (.int 9)) fun t104 => (qOp2 subO (.int 0) t104)) fun t107 => (qB (qOp2 leO t107 y) fun t122 => qCh t122 (qB (qOp2 powO (.int 10) (.int 9)) fun t121 => (qOp2 leO y t121)))) else qP (.bl false)) fun t124 => (qP (.ret t124) : Q (F Unit Unit)))) = qP (.ret (.bl (inV (-1000000000) 1000000000 y))) := by
  rw [isi_int h, isi_bool h]
  cases y with
  | int i =>
    show (qB (qCh (.bl (decide ((-1000000000 : Int) ≤ i))) (qP (.bl (decide (i ≤ 1000000000))))) fun t97 => (qP (.ret t97) : Q (F Unit Unit))) = _
    rw [qCh_b]
    show _ = qP (F.ret (T.bl (decide ((-1000000000 : Int) ≤ i) && decide (i ≤ 1000000000))))
    cases decide ((-1000000000 : Int) ≤ i) <;> rfl
  | _ => rfl
theorem ltext_d (h : Da k b y) (hb : b ≤ 100000) : (qB (qB (qCall isiO [y, (.ty "str")]) qTr) fun b119 => if b119 = true then (qB (qCall lenO [y]) fun t107 => (qOp2 ltO t107 (.int 21))) else qP (.bl false)) = qP (.bl (smallS y)) := by
  rw [isi_str h, qB_P, qTr_b, qB_P]
  cases h with
  | @str k b s hs hl =>
    rw [show kStr (.str s) = true from rfl, if_pos rfl, len_str (by omega), qB_P, qOp2_n nr_int nr_int, lt_i, qO_some]
    show qP (T.bl (decide ((s.length : Int) < 21))) = qP (T.bl (decide (s.length ≤ 20)))
    rw [show decide ((s.length : Int) < 21) = decide (s.length ≤ 20) by rw [decide_eq_decide]; omega]
  | _ => rfl
theorem isS_kStr {s : List Nat} {a : T} (h : kStr a = false) : isS s a = false := by
  cases a <;> first | rfl | cases h
theorem lplain_d (h : Da k b x) (hk : k ≤ 40) (hb : b ≤ 100000) : m__law_is_plain [x] = qP (.bl (plainV x)) := fn_pure (q := q__law_is_plain _) qs__law_is_plain (by
  unfold q__law_is_plain qb__law_is_plain
  rw [isi_tup h, qB_P, qTr_b, qB_P, qB_P]
  cases h with
  | @tup k b c l hl he =>
    rw [show kTup (.tup l) = true from rfl, show (!true) = false from rfl, if_neg (by simp)]
    match l, hl with
    | [], _ => rfl
    | [a], hl =>
      have ha := hl a (by simp)
      rw [show (qB (qB (qCall lenO [.tup [a]]) fun t15 => (qOp2 ninU t15 (.tup [(.int 1), (.int 2)]))) qTr) = qP false from rfl, qB_P, if_neg (by simp)]
      simp only [ix0_t, qB_P]
      rw [isi_str ha, qB_P, qTr_b, qB_P, qB_P]
      cases hs : kStr a with
      | false =>
        show qP (T.bl false) = qP (T.bl (isS [110, 111, 110, 101] a || isS [110, 111, 116] a))
        rw [isS_kStr hs, isS_kStr hs]
        rfl
      | true =>
        rw [show (!true) = false from rfl, if_neg (by simp), show (qB (qB (qCall lenO [.tup [a]]) fun t30 => (qOp2 Sw.eqT t30 (.int 1))) qTr) = qP true from rfl, qB_P, if_pos rfl, in2_q ha (by omega) (by decide) (by decide), qB_P]
        rfl
    | [a, d], hl =>
      have ha := hl a (by simp)
      have hd := hl d (by simp)
      have hc : c ≤ 100000 := by simp at he; omega
      rw [show (qB (qB (qCall lenO [.tup [a, d]]) fun t15 => (qOp2 ninU t15 (.tup [(.int 1), (.int 2)]))) qTr) = qP false from rfl, qB_P, if_neg (by simp)]
      simp only [ix0_t, ix1_t, qB_P]
      rw [isi_str ha, qB_P, qTr_b, qB_P, qB_P]
      cases hs : kStr a with
      | false =>
        show qP (T.bl false) = qP (T.bl (if isS [116, 114, 117, 116, 104] a then kBool d else if isS [110, 117, 109, 98, 101, 114] a then inV (-1000000000) 1000000000 d else isS [116, 101, 120, 116] a && smallS d))
        rw [isS_kStr hs, isS_kStr hs, isS_kStr hs]
        rfl
      | true =>
        rw [show (!true) = false from rfl, if_neg (by simp), show (qB (qB (qCall lenO [.tup [a, d]]) fun t30 => (qOp2 Sw.eqT t30 (.int 1))) qTr) = qP false from rfl, qB_P, if_neg (by simp)]
        rw [eqT_s ha (by omega) (by decide), qB_P, isi_bool hd, qB_P, eqT_s ha (by omega) (by decide), qB_P, eqT_s ha (by omega) (by decide), qB_P]
        rw [ltext_d hd hc]
        have e := lnum_d hd
        rw [isi_bool hd] at e
        simp only [qB_P] at e
        rw [e]
        show _ = qP (T.bl (if isS [116, 114, 117, 116, 104] a then kBool d else if isS [110, 117, 109, 98, 101, 114] a then inV (-1000000000) 1000000000 d else isS [116, 101, 120, 116] a && smallS d))
        cases isS [116, 114, 117, 116, 104] a <;> cases isS [110, 117, 109, 98, 101, 114] a <;> cases isS [116, 101, 120, 116] a <;> rfl
    | a :: d :: e :: r, hl =>
      rw [len_12, qB_P, if_pos rfl]
      rfl
  | _ => rfl)
end Lw
namespace Lw
open PySem PySem.Spec PyProof.Rows L2 Sw
open Classical
variable {k b : Nat} {x y : T}
abbrev KIND_ : List Nat := [107, 105, 110, 100]
abbrev DEED_ : List Nat := [100, 101, 101, 100]
abbrev THING_ : List Nat := [116, 104, 105, 110, 103]
abbrev GATE_ : List Nat := [103, 97, 116, 101]
abbrev BOUND_ : List Nat := [98, 111, 117, 110, 100]
def natV : T → Bool
  | .int i => decide (0 ≤ i)
  | _ => false
def kNon : T → Bool
  | .non => true
  | _ => false
def headV (s : List Nat) : T → Bool
  | .tup (a :: _) => isS s a
  | _ => false
def boundV (W : T → Bool) : T → Bool
  | .tup [a, c, d, e] => isS BOUND_ a && (nameV c && (nameV d && (W e && !(headV BOUND_ e))))
  | _ => false
def restV : T → Bool
  | .tup [a, c] => if isS KIND_ a || isS DEED_ a then nameV c else isS THING_ a && natV c
  | .tup [a, c, d] => isS GATE_ a && (nameV c && (kNon d || nameV d))
  | _ => false
def wV : Nat → T → Bool
  | 0, _ => false
  | n + 1, x => plainV x || (boundV (wV n) x || restV x)
theorem wV_tup : ∀ {n : Nat} {x : T}, wV n x = true → ∃ a r, x = .tup (a :: r)
  | 0, x, h => by cases h
  | n + 1, x, h => by
    have h : (plainV x || (boundV (wV n) x || restV x)) = true := h
    cases x with
    | tup l =>
      cases l with
      | nil => cases h
      | cons a r => exact ⟨a, r, rfl⟩
    | _ => cases h
theorem Da.parts {l : List T} (h : Da k b (.tup l)) : ∃ j c, k = j + 1 ∧ (∀ x ∈ l, Da j c x) ∧ l.length * (c + 1) ≤ b := by
  cases h with
  | @tup k b c l hl he => exact ⟨k, c, rfl, hl, he⟩
theorem le_mul_s {n c b : Nat} (h : n * (c + 1) ≤ b) (hn : 0 < n) : c ≤ b := by
  have : c + 1 ≤ n * (c + 1) := Nat.le_mul_of_pos_left _ hn
  omega
theorem leneq_q {l : List T} {n : Int} : (qB (qB (qCall lenO [.tup l]) fun t => qOp2 Sw.eqT t (.int n)) qTr) = qP (((l.length : Nat) : Int) == n) := by
  rw [len_tup, qB_P, qOp2_n nr_int nr_int, eq_i, qO_some, qB_P, qTr_b]
theorem lenne_q {l : List T} {n : Int} : (qB (qB (qCall lenO [.tup l]) fun t => qOp2 Sw.neT t (.int n)) qTr) = qP (!(((l.length : Nat) : Int) == n)) := by
  rw [len_tup, qB_P, qOp2_n nr_int nr_int, ne_i, qO_some, qB_P, qTr_b]
theorem ne_q {s : List Nat} (h : Da k b x) (hk : k ≤ 50) (hs : s.all (· < 0x110000) = true) : qOp2 Sw.neT x (.str s) = qP (.bl (!(isS s x))) := by
  rw [qOp2_n (Da.nr h) nr_str]
  have : Sw.neT x (.str s) = some (.bl (!(isS s x))) := by
    unfold Sw.neT Sw.neO
    rw [h.dat (by omega), show (T.str s).dat 60 = true from hs]
    simp only [Bool.and_self, if_true, Option.map_some, eqv_s]
  rw [this, qO_some]
theorem eq_q {s : List Nat} (h : Da k b x) (hk : k ≤ 50) (hs : s.all (· < 0x110000) = true) : qOp2 Sw.eqT x (.str s) = qP (.bl (isS s x)) := by
  rw [qOp2_n (Da.nr h) nr_str, eq_s h hk hs, qO_some]
theorem isN_q (h : Da k b x) : qOp2 isNO x .non = qP (.bl (kNon x)) := by
  rw [qOp2_n (Da.nr h) nr_non]
  cases h <;> rfl
theorem nat_d (h : Da k b x) : (qB (qB (m_is_whole [x]) qTr) fun b73 => if b73 = true then (qOp2 geO x (.int 0)) else qP (.bl false)) = qP (.bl (natV x)) := by
  have hw : m_is_whole [x] = qP (.bl (match x with | .int _ => true | _ => false)) := fn_pure (q := q_is_whole _) qs_is_whole (by
    unfold q_is_whole qb_is_whole
    rw [isi_int h, isi_bool h]
    cases h <;> rfl)
  rw [hw]
  cases x with
  | int i =>
    show qOp2 geO (.int i) (.int 0) = qP (T.bl (decide (0 ≤ i)))
    rw [qOp2_n nr_int nr_int, ge_i, qO_some]
  | _ => rfl
theorem lnat_d (h : Da k b x) : (qB (qB (qCall isiO [x, (.ty "int")]) qTr) fun b99 => if b99 = true then (qB (qB (qB (qCall isiO [x, (.ty "bool")]) fun t87 => qB (qTr t87) fun b88 => qP (.bl (!b88))) qTr) fun b89 => if b89 = true then (qOp2 geO x (.int 0)) else qP (.bl false)) else qP (.bl false)) = qP (.bl (natV x)) := by
  rw [isi_int h, isi_bool h]
  cases x with
  | int i =>
    show qOp2 geO (.int i) (.int 0) = qP (T.bl (decide (0 ≤ i)))
    rw [qOp2_n nr_int nr_int, ge_i, qO_some]
  | _ => rfl
section
variable {n d c : Nat} {l : List T}
theorem bound_q (hW : ∀ e ∈ l, m_is_worth d [e] = qP (.bl (wV n e))) (hl : ∀ e ∈ l, Da k c e) (hk : k ≤ 40) (hc : c ≤ 100000) : m_is_bound (d + 1) [.tup l] = qP (.bl (boundV (wV n) (.tup l))) := fn_pure (q := q_is_bound (m_is_bound d) (m_is_worth d) _) qs_is_bound (by
  unfold q_is_bound qb_is_bound
  rw [lenne_q, qB_P]
  match l, hl, hW with
  | [], _, _ => rfl
  | [_], _, _ => rfl
  | [_, _], _, _ => rfl
  | [_, _, _], _, _ => rfl
  | [a, f, g, e], hl, hW =>
    have ha := hl a (by simp)
    have hf := hl f (by simp)
    have hg := hl g (by simp)
    have he := hl e (by simp)
    rw [show (!((([a, f, g, e].length : Nat) : Int) == 4)) = false from rfl, if_neg (by simp)]
    simp only [ix0_t, ix1_t, ix2_t, ix3_t, qB_P, qTr_b, ne_q ha (show k ≤ 50 by omega) (show BOUND_.all (· < 0x110000) = true by decide), name_d hf hc, name_d hg hc, hW e (by simp)]
    show _ = qP (T.bl (isS BOUND_ a && (nameV f && (nameV g && (wV n e && !(headV BOUND_ e))))))
    cases hw : wV n e with
    | false => cases isS BOUND_ a <;> cases nameV f <;> cases nameV g <;> rfl
    | true =>
      obtain ⟨z, r, rfl⟩ := wV_tup hw
      obtain ⟨j, c2, rfl, hz, _⟩ := Da.parts he
      simp only [ix0_t, qB_P, if_true, ne_q (hz z (by simp)) (show j ≤ 50 by omega) (show BOUND_.all (· < 0x110000) = true by decide)]
      show _ = qP (T.bl (isS BOUND_ a && (nameV f && (nameV g && (true && !(isS BOUND_ z))))))
      cases isS BOUND_ a <;> cases nameV f <;> cases nameV g <;> cases isS BOUND_ z <;> rfl
  | _ :: _ :: _ :: _ :: _ :: r, _, _ =>
    rw [show (!((((_ :: _ :: _ :: _ :: _ :: r : List T).length : Nat) : Int) == 4)) = true from by
      rw [show ((((_ :: _ :: _ :: _ :: _ :: r : List T).length : Nat) : Int) == 4) = false from beq_eq_false_iff_ne.mpr (by simp only [List.length_cons]; omega)]
      rfl, if_pos rfl]
    rfl)
end
theorem worth_d : ∀ (k : Nat) {d b : Nat} {x : T}, Da k b x → k ≤ 40 → b ≤ 100000 → 2 * k + 1 ≤ d → m_is_worth d [x] = qP (.bl (wV k x)) := by
  intro k
  induction k with
  | zero =>
    intro d b x h _ _ hd
    obtain ⟨d, rfl⟩ : ∃ e, d = e + 1 := ⟨d - 1, by omega⟩
    refine fn_pure (q := q_is_worth (m_is_bound d) (m_is_worth d) _) qs_is_worth ?_
    unfold q_is_worth qb_is_worth
    cases h <;> rfl
  | succ k ih =>
    intro d b x h hk hb hd
    obtain ⟨d, rfl⟩ : ∃ e, d = e + 2 := ⟨d - 2, by omega⟩
    refine fn_pure (q := q_is_worth (m_is_bound (d + 1)) (m_is_worth (d + 1)) _) qs_is_worth ?_
    unfold q_is_worth qb_is_worth
    rw [isi_tup h, qB_P, qTr_b, qB_P, qB_P]
    cases x with
    | tup l =>
      rw [show kTup (.tup l) = true from rfl, show (!true) = false from rfl, if_neg (by simp), leneq_q, qB_P]
      rw [plain_d h (by omega) hb]
      obtain ⟨j, c, ej, hl, he⟩ := Da.parts h
      obtain rfl : k = j := by omega
      by_cases hz : l = []
      · subst hz; rfl
      have hc : c ≤ 100000 := Nat.le_trans (le_mul_s he (List.length_pos_iff.mpr hz)) hb
      rw [bound_q (n := k) (d := d) (fun e he => ih (hl e he) (by omega) hc (by omega)) hl (by omega) hc]
      rw [show (((l.length : Nat) : Int) == 0) = false from beq_eq_false_iff_ne.mpr (by have := List.length_pos_iff.mpr hz; omega), if_neg (by simp), qB_P, qTr_b, qB_P]
      show _ = qP (T.bl (plainV (.tup l) || (boundV (wV k) (.tup l) || restV (.tup l))))
      simp only [leneq_q, lenne_q, qB_P, qTr_b]
      cases plainV (.tup l) with
      | true => rfl
      | false =>
        cases boundV (wV k) (.tup l) with
        | true => rfl
        | false =>
          simp only [Bool.false_eq_true, if_false, qB_P]
          match l, hl with
          | [], _ => exact absurd rfl hz
          | [a], _ => rfl
          | [a, f], hl =>
            have ha := hl a (by simp)
            have hf := hl f (by simp)
            rw [show ((([a, f].length : Nat) : Int) == 2) = true from rfl, if_pos rfl]
            simp only [ix0_t, ix1_t, qB_P, qTr_b, in2_q ha (show k ≤ 50 by omega) (show KIND_.all (· < 0x110000) = true by decide) (show DEED_.all (· < 0x110000) = true by decide), eq_q ha (show k ≤ 50 by omega) (show THING_.all (· < 0x110000) = true by decide), name_d hf hc, nat_d hf, if_true]
            show _ = qP (T.bl (if isS KIND_ a || isS DEED_ a then nameV f else isS THING_ a && natV f))
            cases isS KIND_ a <;> cases isS DEED_ a <;> cases isS THING_ a <;> rfl
          | [a, f, g], hl =>
            have ha := hl a (by simp)
            have hf := hl f (by simp)
            have hg := hl g (by simp)
            simp only [ix0_t, ix1_t, ix2_t, qB_P, qTr_b, ne_q ha (show k ≤ 50 by omega) (show GATE_.all (· < 0x110000) = true by decide), name_d hf hc, name_d hg hc, isN_q hg]
            show _ = qP (T.bl (isS GATE_ a && (nameV f && (kNon g || nameV g))))
            cases isS GATE_ a <;> cases nameV f <;> cases kNon g <;> rfl
          | a :: f :: g :: e :: r, hl =>
            rw [show ((((a :: f :: g :: e :: r).length : Nat) : Int) == 2) = false from beq_eq_false_iff_ne.mpr (by simp only [List.length_cons]; omega), show ((((a :: f :: g :: e :: r).length : Nat) : Int) == 3) = false from beq_eq_false_iff_ne.mpr (by simp only [List.length_cons]; omega)]
            rfl
    | _ => rfl
end Lw
namespace Lw
open PySem PySem.Spec PyProof.Rows L2 Sw
open Classical
variable {k b : Nat} {x y : T}
theorem lenlt_q {l : List T} {n : Int} : (qB (qB (qCall lenO [.tup l]) fun t => qOp2 ltO t (.int n)) qTr) = qP (decide (((l.length : Nat) : Int) < n)) := by
  rw [len_tup, qB_P, qOp2_n nr_int nr_int, lt_i, qO_some, qB_P, qTr_b]
theorem lworth_d : ∀ (k : Nat) {d b : Nat} {x : T}, Da k b x → k ≤ 40 → b ≤ 100000 → k + 1 ≤ d → m__law_is_worth d [x] = qP (.bl (wV k x)) := by
  intro k
  induction k with
  | zero =>
    intro d b x h _ hb hd
    obtain ⟨d, rfl⟩ : ∃ e, d = e + 1 := ⟨d - 1, by omega⟩
    refine fn_pure (q := q__law_is_worth (m__law_is_worth d) _) qs__law_is_worth ?_
    unfold q__law_is_worth qb__law_is_worth
    rw [lplain_d h (by omega) hb, show plainV x = false by cases h <;> rfl]
    cases h <;> rfl
  | succ k ih =>
    intro d b x h hk hb hd
    obtain ⟨d, rfl⟩ : ∃ e, d = e + 1 := ⟨d - 1, by omega⟩
    refine fn_pure (q := q__law_is_worth (m__law_is_worth d) _) qs__law_is_worth ?_
    unfold q__law_is_worth qb__law_is_worth
    rw [lplain_d h (by omega) hb, qB_P, qTr_b, qB_P]
    show _ = qP (T.bl (plainV x || (boundV (wV k) x || restV x)))
    cases plainV x with
    | true => rfl
    | false =>
      rw [if_neg (by simp), isi_tup h, qB_P, qTr_b, qB_P, qB_P]
      cases x with
      | tup l =>
        obtain ⟨j, c, ej, hl, he⟩ := Da.parts h
        obtain rfl : k = j := by omega
        rw [show kTup (.tup l) = true from rfl, show (!true) = false from rfl, if_neg (by simp), lenlt_q, qB_P]
        by_cases hz : l = []
        · subst hz; rfl
        have hc : c ≤ 100000 := Nat.le_trans (le_mul_s he (List.length_pos_iff.mpr hz)) hb
        match l, hl with
        | [], _ => exact absurd rfl hz
        | [a], _ => rfl
        | a :: f :: r, hl =>
          have ha := hl a (by simp)
          have hf := hl f (by simp)
          rw [show decide ((((a :: f :: r).length : Nat) : Int) < 2) = false from decide_eq_false (by simp only [List.length_cons]; omega), if_neg (by simp)]
          simp only [ix0_t, ix1_t, qB_P]
          rw [isi_str ha, qB_P, qTr_b, qB_P, qB_P]
          cases hs : kStr a with
          | false =>
            have n1 : ∀ s, isS s a = false := fun s => isS_kStr hs
            match r with
            | [] => show qP (T.bl false) = qP (T.bl (if isS KIND_ a || isS DEED_ a then nameV f else isS THING_ a && natV f)); rw [n1, n1, n1]; rfl
            | [g] => show qP (T.bl false) = qP (T.bl (isS GATE_ a && (nameV f && (kNon g || nameV g)))); rw [n1]; rfl
            | [g, e] => show qP (T.bl false) = qP (T.bl (isS BOUND_ a && (nameV f && (nameV g && (wV k e && !(headV BOUND_ e)))) || false)); rw [n1]; rfl
            | _ :: _ :: _ :: _ => rfl
          | true =>
            rw [show (!true) = false from rfl, if_neg (by simp)]
            match r, hl with
            | [], hl =>
              rw [leneq_q, qB_P, show ((([a, f].length : Nat) : Int) == 2) = true from rfl, if_pos rfl, in2_q ha (by omega) (by decide) (by decide), qB_P, qTr_b, qB_P, lname_d hf hc, qB_P]
              simp only [leneq_q, lenne_q, qB_P]
              simp only [if_true, eq_q ha (show k ≤ 50 by omega) (show THING_.all (· < 0x110000) = true by decide), qTr_b, qB_P, lnat_d hf]
              show _ = qP (T.bl (if isS KIND_ a || isS DEED_ a then nameV f else isS THING_ a && natV f))
              cases isS KIND_ a <;> cases isS DEED_ a <;> cases isS THING_ a <;> rfl
            | [g], hl =>
              have hg := hl g (by simp)
              simp only [leneq_q, lenne_q, qB_P]
              simp only [ix0_t, ix1_t, ix2_t, qB_P, qTr_b, eq_q ha (show k ≤ 50 by omega) (show GATE_.all (· < 0x110000) = true by decide), lname_d hf hc, lname_d hg hc, isN_q hg]
              show _ = qP (T.bl (isS GATE_ a && (nameV f && (kNon g || nameV g))))
              cases isS GATE_ a <;> cases nameV f <;> cases kNon g <;> rfl
            | [g, e], hl =>
              have hg := hl g (by simp)
              have he := hl e (by simp)
              simp only [leneq_q, lenne_q, qB_P]
              simp only [ix0_t, ix1_t, ix2_t, ix3_t, qB_P, qTr_b, ne_q ha (show k ≤ 50 by omega) (show BOUND_.all (· < 0x110000) = true by decide), lname_d hf hc, lname_d hg hc, ih he (by omega) hc (show k + 1 ≤ d by omega)]
              show _ = qP (T.bl (isS BOUND_ a && (nameV f && (nameV g && (wV k e && !(headV BOUND_ e)))) || false))
              rw [Bool.or_false]
              cases hw : wV k e with
              | false => cases isS BOUND_ a <;> cases nameV f <;> cases nameV g <;> rfl
              | true =>
                obtain ⟨z, r, rfl⟩ := wV_tup hw
                obtain ⟨j, c2, rfl, hz, _⟩ := Da.parts he
                simp only [ix0_t, qB_P, if_true, ne_q (hz z (by simp)) (show j ≤ 50 by omega) (show BOUND_.all (· < 0x110000) = true by decide)]
                show _ = qP (T.bl (isS BOUND_ a && (nameV f && (nameV g && (true && !(isS BOUND_ z))))))
                cases isS BOUND_ a <;> cases nameV f <;> cases nameV g <;> cases isS BOUND_ z <;> rfl
            | g :: e :: u :: r, _ =>
              simp only [leneq_q, lenne_q, qB_P]
              rw [show ((((a :: f :: g :: e :: u :: r).length : Nat) : Int) == 2) = false from beq_eq_false_iff_ne.mpr (by simp only [List.length_cons]; omega), show ((((a :: f :: g :: e :: u :: r).length : Nat) : Int) == 3) = false from beq_eq_false_iff_ne.mpr (by simp only [List.length_cons]; omega), show ((((a :: f :: g :: e :: u :: r).length : Nat) : Int) == 4) = false from beq_eq_false_iff_ne.mpr (by simp only [List.length_cons]; omega)]
              rfl
      | _ => rfl
theorem same_q (a b : Bool) : (m__law_same 4) [.bl a, .bl b] = qP (.bl (a == b)) := fn_pure (q := q__law_same (m__law_same 3) _ _) qs__law_same (by cases a <;> cases b <;> rfl)
end Lw
namespace Lw
open PySem PySem.Spec PyProof.Rows L2 Sw
open Classical
theorem all0 {P : T → Prop} : ∀ x ∈ ([] : List T), P x := fun x hx => nomatch hx
theorem all1 {P : T → Prop} {a : T} {l : List T} (h : P a) (k : ∀ x ∈ l, P x) : ∀ x ∈ a :: l, P x := fun x hx => (List.mem_cons.mp hx).elim (fun e => e ▸ h) (k x)
theorem mul_le' {n m c b : Nat} (h : n ≤ m) (k : m * (c + 1) ≤ b) : n * (c + 1) ≤ b := Nat.le_trans (Nat.mul_le_mul_right _ h) k
theorem da_i {k b : Nat} {i : Int} (h : i.natAbs < 10 ^ 40) : Da k b (.int i) := .int h
theorem da_small {k b : Nat} {i : Int} (h : -1000000000000000000000000000000 ≤ i) (h2 : i ≤ 1000000000000000000000000000000) : Da k b (.int i) := .int (Nat.lt_of_le_of_lt (m := 1000000000000000000000000000000) (by omega) (by decide))
theorem da_s {k b : Nat} {s : List Nat} (h : ∀ c ∈ s, c < 128) (h2 : s.length ≤ b) : Da k b (.str s) := .str h h2
theorem letB_ok {c : Nat} (h : 97 ≤ c ∧ c ≤ 122) : letB c = true := by
  have : c = 97 ∨ c = 98 ∨ c = 99 ∨ c = 100 ∨ c = 101 ∨ c = 102 ∨ c = 103 ∨ c = 104 ∨ c = 105 ∨ c = 106 ∨ c = 107 ∨ c = 108 ∨ c = 109 ∨ c = 110 ∨ c = 111 ∨ c = 112 ∨ c = 113 ∨ c = 114 ∨ c = 115 ∨ c = 116 ∨ c = 117 ∨ c = 118 ∨ c = 119 ∨ c = 120 ∨ c = 121 ∨ c = 122 := by omega
  rcases this with rfl | rfl | rfl | rfl | rfl | rfl | rfl | rfl | rfl | rfl | rfl | rfl | rfl | rfl | rfl | rfl | rfl | rfl | rfl | rfl | rfl | rfl | rfl | rfl | rfl | rfl <;> rfl
theorem nameV_ok {s : List Nat} (h : NameOk s) : nameV (.str s) = true := by
  show (decide (1 ≤ s.length) && decide (s.length ≤ 8) && s.all letB) = true
  rw [decide_eq_true h.1, decide_eq_true h.2.1, List.all_eq_true.mpr fun c hc => letB_ok (h.2.2 c hc)]
  rfl
theorem name_da {k : Nat} {s : List Nat} (h : NameOk s) : Da k 20 (.str s) := .str (fun c hc => by have := h.2.2 c hc; omega) (by have := h.2.1; omega)
/-- a worth that is none bound -/
def U (t : T) : Prop := ∃ l, t = .tup l ∧ 1 ≤ l.length ∧ l.length ≤ 3 ∧ (plainV t || restV t) = true ∧ headV BOUND_ t = false ∧ ∀ x ∈ l, Da 0 20 x
def Bd (t : T) : Prop := ∃ n o w, t = .tup [.str BOUND_, .str n, .str o, w] ∧ NameOk n ∧ NameOk o ∧ U w
theorem U.w {t : T} (h : U t) (n : Nat) : wV (n + 1) t = true := by
  obtain ⟨l, _, _, _, h, _, _⟩ := h
  show (plainV t || (boundV (wV n) t || restV t)) = true
  cases hp : plainV t with
  | true => rfl
  | false =>
    rw [hp] at h
    rw [show restV t = true from h]
    cases boundV (wV n) t <;> rfl
theorem Bd.w {t : T} (h : Bd t) (n : Nat) : wV (n + 2) t = true := by
  obtain ⟨m, o, w, rfl, hm, ho, hw⟩ := h
  have hb : headV BOUND_ w = false := by
    obtain ⟨_, _, _, _, _, h, _⟩ := hw
    exact h
  show (false || ((isS BOUND_ (.str BOUND_) && (nameV (.str m) && (nameV (.str o) && (wV (n + 1) w && !(headV BOUND_ w))))) || false)) = true
  rw [nameV_ok hm, nameV_ok ho, hw.w n, hb]
  rfl
section
variable {p : Nat} {S0 S : List Ob}
theorem plainw_w {way : Int} (w0 : 0 ≤ way) (w4 : way < 4) (hp : IsPot S p) : Fw m__law_plain_worth [.ref p, .int way] S fun t S' => U t ∧ Pt p S S' := by
  refine fw_of (q := q__law_plain_worth _ _) qs__law_plain_worth ?_
  unfold q__law_plain_worth qb__law_plain_worth
  rw [Qw_qFn, Qw_B]
  refine Qw_eqi ?_
  by_cases c0 : way = 0
  · subst c0
    rw [show ((0 : Int) == 0) = true from rfl, if_pos rfl, Qw_B, Qw_B]
    refine Qw_pk (.refl hp) (by decide) (by decide) fun k S1 k0 k1 h => ?_
    have : k = 0 ∨ k = 1 := by omega
    rcases this with rfl | rfl
    · rw [show (qOp2 ixU (.fz [(.tup [(.str [110, 111, 110, 101])]), (.tup [(.str [110, 111, 116])])]) (.int 0)) = qP (.tup [(.str [110, 111, 110, 101])]) from rfl, Qw_P, Qw_P]
      exact ⟨⟨_, rfl, by decide, by decide, rfl, rfl, all1 (da_s (by decide) (by decide)) all0⟩, h⟩
    · rw [show (qOp2 ixU (.fz [(.tup [(.str [110, 111, 110, 101])]), (.tup [(.str [110, 111, 116])])]) (.int 1)) = qP (.tup [(.str [110, 111, 116])]) from rfl, Qw_P, Qw_P]
      exact ⟨⟨_, rfl, by decide, by decide, rfl, rfl, all1 (da_s (by decide) (by decide)) all0⟩, h⟩
  rw [show (way == 0) = false from beq_eq_false_iff_ne.mpr c0, if_neg (by simp), Qw_B]
  refine Qw_eqi ?_
  by_cases c1 : way = 1
  · subst c1
    rw [show ((1 : Int) == 1) = true from rfl, if_pos rfl, Qw_B, Qw_B, Qw_B]
    refine Qw_pk (.refl hp) (by decide) (by decide) fun k S1 k0 k1 h => ?_
    rw [qOp2_n nr_int nr_int, eq_i, qO_some, Qw_P, Qw_P, Qw_P]
    exact ⟨⟨_, rfl, by simp, by simp, rfl, rfl, all1 (da_s (by decide) (by decide)) (all1 .bl all0)⟩, h⟩
  rw [show (way == 1) = false from beq_eq_false_iff_ne.mpr c1, if_neg (by simp), Qw_B]
  refine Qw_eqi ?_
  by_cases c2 : way = 2
  · subst c2
    rw [show ((2 : Int) == 2) = true from rfl, if_pos rfl]
    rw [show qOp2 powO (.int 10) (.int 9) = qP (.int 1000000000) from rfl, qB_P, qB_P, qI_i, qB_P, qB_P, qB_P, qOp2_n nr_int nr_int, mul_l (by decide) (by decide), qO_some, qB_P, qOp2_n nr_int nr_int, add_i, qO_some, qB_P, Qw_B, Qw_B, Qw_B, Qw_B]
    refine Qw_pk (.refl hp) (by decide) (by decide) fun j S1 j0 j1 h => ?_
    have j1 : j < 2000000001 := j1
    rw [qB_P, qOp2_n nr_int nr_int, sub_i, qO_some, Qw_P, Qw_P, Qw_P, Qw_B, Qw_B, Qw_B]
    refine Qw_pk h (by decide) (by decide) fun k S2 k0 k1 h => ?_
    have all : ∀ x ∈ [T.int 0, .int 1, .int (-1), .int 1000000000, .int (-1000000000), .int (j - 1000000000)], ∃ i : Int, x = .int i ∧ -1000000000 ≤ i ∧ i ≤ 1000000000 := all1 ⟨_, rfl, by decide, by decide⟩ (all1 ⟨_, rfl, by decide, by decide⟩ (all1 ⟨_, rfl, by decide, by decide⟩ (all1 ⟨_, rfl, by decide, by decide⟩ (all1 ⟨_, rfl, by decide, by decide⟩ (all1 ⟨_, rfl, by omega, by omega⟩ all0)))))
    obtain ⟨x, hx⟩ : ∃ x, [T.int 0, .int 1, .int (-1), .int 1000000000, .int (-1000000000), .int (j - 1000000000)][k.toNat]? = some x := ⟨_, List.getElem?_eq_getElem (by simp; omega)⟩
    rw [qOp2_n nr_fz nr_int, ix_i k0, hx, qO_some, Qw_P, Qw_P, Qw_P]
    obtain ⟨i, rfl, i0, i1⟩ := all x (List.mem_of_getElem? hx)
    refine ⟨⟨_, rfl, by simp, by simp, ?_, rfl, all1 (da_s (by decide) (by decide)) (all1 (da_small (by omega) (by omega)) all0)⟩, h⟩
    show ((decide (-1000000000 ≤ i) && decide (i ≤ 1000000000)) || _) = true
    rw [decide_eq_true i0, decide_eq_true i1]
    rfl
  rw [show (way == 2) = false from beq_eq_false_iff_ne.mpr c2, if_neg (by simp)]
  rw [show (qOp2 mulU (.str [120]) (.int 20)) = qP (.str [120, 120, 120, 120, 120, 120, 120, 120, 120, 120, 120, 120, 120, 120, 120, 120, 120, 120, 120, 120]) from rfl, qB_P, Qw_B, Qw_B, Qw_B, Qw_B, Qw_B, Qw_fn]
  refine (text_w hp).mono ?_
  rintro t S1 ⟨⟨s, rfl, hs⟩, h⟩
  rw [Qw_P, Qw_P, Qw_B]
  refine Qw_pk h (by decide) (by decide) fun k S2 k0 k1 h => ?_
  have all : ∀ x ∈ [T.str [], .str [120, 120, 120, 120, 120, 120, 120, 120, 120, 120, 120, 120, 120, 120, 120, 120, 120, 120, 120, 120], .str s], ∃ z, x = .str z ∧ TextOk z := all1 ⟨_, rfl, by decide, by decide⟩ (all1 ⟨_, rfl, by decide, by decide⟩ (all1 ⟨_, rfl, hs⟩ all0))
  obtain ⟨x, hx⟩ : ∃ x, [T.str [], .str [120, 120, 120, 120, 120, 120, 120, 120, 120, 120, 120, 120, 120, 120, 120, 120, 120, 120, 120, 120], .str s][k.toNat]? = some x := ⟨_, List.getElem?_eq_getElem (by simp; omega)⟩
  rw [qOp2_n nr_fz nr_int, ix_i k0, hx, qO_some, Qw_P, Qw_P, Qw_P]
  obtain ⟨z, rfl, hz⟩ := all x (List.mem_of_getElem? hx)
  refine ⟨⟨_, rfl, by simp, by simp, ?_, rfl, all1 (da_s (by decide) (by decide)) (all1 (da_s hz.2 hz.1) all0)⟩, h⟩
  show (decide (z.length ≤ 20) || _) = true
  rw [decide_eq_true hz.1]
  rfl
/-- one of the names, drawn -/
theorem Qw_one {l : Nms} {Φ : T → List Ob → Prop} (h : Pt p S0 S) (hl : NmsOk l) (hne : l ≠ []) (k : ∀ (x : List Nat) (S' : List Ob), NameOk x → Pt p S0 S' → Φ (.str x) S') :
    Qw (qB (qB (qCall lenO [nL l]) fun t36 => (m__law_pick [.ref p, t36])) fun t39 => (qOp2 ixU (nL l) t39)) S Φ := by
  have := List.length_pos_iff.mpr hne
  have hl2 := hl.2
  rw [len_nL, qB_P, Qw_B]
  refine Qw_pk h (by omega) (by omega) fun i S1 i0 i1 h => ?_
  obtain ⟨x, hx, e⟩ := ix_nL i0 i1
  rw [e, Qw_P]
  exact k x S1 (hl.1 x hx) h
theorem body_w {m : FnM} {l : Nms} {bd : Bool} (hl : NmsOk l) (hne : l ≠ []) (hp : IsPot S p) (hin : bd = true → ∀ S, IsPot S p → Fw m [.ref p, nL l, .bl false] S fun t S' => U t ∧ Pt p S S') : Qw (q__law_worth m (.ref p) (nL l) (.bl bd)) S fun t S' => (U t ∨ (bd = true ∧ Bd t)) ∧ Pt p S S' := by
  unfold q__law_worth qb__law_worth
  rw [Qw_qFn, show qCall intO [T.bl bd] = qP (.int (if bd then 1 else 0)) by cases bd <;> rfl, qB_P, qOp2_n nr_int nr_int, add_i, qO_some, qB_P, Qw_B]
  refine Qw_pk (.refl hp) (by cases bd <;> decide) (by cases bd <;> decide) fun way S1 w0 w1 h => ?_
  rw [Qw_B]
  refine Qw_lti ?_
  by_cases c4 : way < 4
  · rw [decide_eq_true c4, if_pos rfl, Qw_B, Qw_fn]
    refine (plainw_w w0 c4 h.1).mono ?_
    rintro t S2 ⟨hu, q⟩
    rw [Qw_P]
    exact ⟨.inl hu, h.trans q⟩
  rw [decide_eq_false c4, if_neg (by simp), Qw_B]
  refine Qw_one h hl hne fun name S2 hn h => ?_
  rw [Qw_B]
  refine Qw_lti ?_
  by_cases c6 : way < 6
  · rw [decide_eq_true c6, if_pos rfl, qOp2_n nr_int nr_int, sub_i, qO_some, qB_P]
    have : way = 4 ∨ way = 5 := by omega
    rcases this with rfl | rfl
    · rw [show (qOp2 ixU (.fz [(.str [107, 105, 110, 100]), (.str [100, 101, 101, 100])]) (.int (4 - 4))) = qP (.str KIND_) from rfl, qB_P, qB_P, Qw_P]
      refine ⟨.inl ⟨_, rfl, by simp, by simp, ?_, rfl, all1 (da_s (by decide) (by decide)) (all1 (name_da hn) all0)⟩, h⟩
      show (_ || nameV (.str name)) = true
      rw [nameV_ok hn, Bool.or_true]
    · rw [show (qOp2 ixU (.fz [(.str [107, 105, 110, 100]), (.str [100, 101, 101, 100])]) (.int (5 - 4))) = qP (.str DEED_) from rfl, qB_P, qB_P, Qw_P]
      refine ⟨.inl ⟨_, rfl, by simp, by simp, ?_, rfl, all1 (da_s (by decide) (by decide)) (all1 (name_da hn) all0)⟩, h⟩
      show (_ || nameV (.str name)) = true
      rw [nameV_ok hn, Bool.or_true]
  rw [decide_eq_false c6, if_neg (by simp), Qw_B]
  refine Qw_eqi ?_
  by_cases c7 : way = 6
  · subst c7
    rw [show ((6 : Int) == 6) = true from rfl, if_pos rfl, Qw_B, Qw_B, Qw_B, Qw_B, Qw_B]
    refine Qw_pk h (by decide) (by decide) fun i S3 i0 i1 h => ?_
    rw [show qOp2 powO (.int 10) (.int 30) = qP (.int 1000000000000000000000000000000) from rfl, qB_P, Qw_B]
    refine Qw_pk h (by decide) (by decide) fun j S4 j0 j1 h => ?_
    rw [Qw_P, Qw_P, Qw_B]
    refine Qw_pk h (by decide) (by decide) fun k S5 k0 k1 h => ?_
    have all : ∀ x ∈ [T.int 0, .int 59, .int i, .int j], ∃ i : Int, x = .int i ∧ 0 ≤ i ∧ i ≤ 1000000000000000000000000000000 := all1 ⟨_, rfl, by decide, by decide⟩ (all1 ⟨_, rfl, by decide, by decide⟩ (all1 ⟨_, rfl, by omega, by omega⟩ (all1 ⟨_, rfl, by omega, by omega⟩ all0)))
    obtain ⟨x, hx⟩ : ∃ x, [T.int 0, .int 59, .int i, .int j][k.toNat]? = some x := ⟨_, List.getElem?_eq_getElem (by simp; omega)⟩
    rw [qOp2_n nr_fz nr_int, ix_i k0, hx, qO_some, Qw_P, Qw_P, Qw_P]
    obtain ⟨z, rfl, z0, z1⟩ := all x (List.mem_of_getElem? hx)
    refine ⟨.inl ⟨_, rfl, by simp, by simp, ?_, rfl, all1 (da_s (by decide) (by decide)) (all1 (da_small (by omega) (by omega)) all0)⟩, h⟩
    show (_ || decide (0 ≤ z)) = true
    rw [decide_eq_true z0, Bool.or_true]
  rw [show (way == 6) = false from beq_eq_false_iff_ne.mpr c7, if_neg (by simp), Qw_B]
  refine Qw_one h hl hne fun other S3 ho h => ?_
  rw [Qw_B]
  refine Qw_eqi ?_
  by_cases c8 : way = 7
  · subst c8
    rw [show ((7 : Int) == 7) = true from rfl, if_pos rfl, Qw_B, Qw_B, Qw_B]
    refine Qw_pk h (by decide) (by decide) fun k S4 k0 k1 h => ?_
    have : k = 0 ∨ k = 1 := by omega
    rcases this with rfl | rfl
    · rw [show (qOp2 ixU (.fz [.non, (.str other)]) (.int 0)) = qP .non from rfl, Qw_P, Qw_P, Qw_P]
      refine ⟨.inl ⟨_, rfl, by simp, by simp, ?_, rfl, all1 (da_s (by decide) (by decide)) (all1 (name_da hn) (all1 .non all0))⟩, h⟩
      show (_ || (isS GATE_ (.str GATE_) && (nameV (.str name) && (kNon .non || nameV .non)))) = true
      rw [nameV_ok hn]
      rfl
    · rw [show (qOp2 ixU (.fz [.non, (.str other)]) (.int 1)) = qP (.str other) from rfl, Qw_P, Qw_P, Qw_P]
      refine ⟨.inl ⟨_, rfl, by simp, by simp, ?_, rfl, all1 (da_s (by decide) (by decide)) (all1 (name_da hn) (all1 (name_da ho) all0))⟩, h⟩
      show (_ || (isS GATE_ (.str GATE_) && (nameV (.str name) && (kNon (.str other) || nameV (.str other))))) = true
      rw [nameV_ok hn, nameV_ok ho]
      rfl
  rw [show (way == 7) = false from beq_eq_false_iff_ne.mpr c8, if_neg (by simp), Qw_B, Qw_B, Qw_fn]
  have hb : bd = true := by
    cases bd with
    | true => rfl
    | false =>
      have : way < 8 + 0 := w1
      omega
  refine (hin hb S3 h.1).mono ?_
  rintro w S4 ⟨hw, q⟩
  rw [Qw_P, Qw_P]
  exact ⟨.inr ⟨hb, name, other, w, rfl, hn, ho, hw⟩, h.trans q⟩
theorem unb_w {d : Nat} {l : Nms} (hl : NmsOk l) (hne : l ≠ []) (hp : IsPot S p) : Fw (m__law_worth (d + 1)) [.ref p, nL l, .bl false] S fun t S' => U t ∧ Pt p S S' := by
  refine fw_of (q := q__law_worth (m__law_worth d) _ _ _) qs__law_worth ((body_w hl hne hp (fun h => by cases h)).mono ?_)
  rintro t S' ⟨h | ⟨h, _⟩, q⟩
  · exact ⟨h, q⟩
  · cases h
theorem worth_w {l : Nms} (hl : NmsOk l) (hne : l ≠ []) (hp : IsPot S p) : Fw (m__law_worth 3) [.ref p, nL l, .bl true] S fun t S' => (U t ∨ Bd t) ∧ Pt p S S' := by
  refine fw_of (q := q__law_worth (m__law_worth 2) _ _ _) qs__law_worth ((body_w hl hne hp (fun _ S hS => unb_w (d := 1) hl hne hS)).mono ?_)
  rintro t S' ⟨h | ⟨_, h⟩, q⟩
  · exact ⟨.inl h, q⟩
  · exact ⟨.inr h, q⟩
end
end Lw
namespace Lw
open PySem PySem.Spec PyProof.Rows L2 Sw
open Classical
def BentOk (n : Nat) (t : T) : Prop := ∃ l, (t = .tup l ∨ t = .fz l) ∧ l.length ≤ n ∧ ∀ x ∈ l, Da 2 400 x
def oddA : List T := [(.bl true), (.bl false), (.int 0), (.int 1), (.int (-1)), .non, (.str []), (.str [97]), (.str [65]), (.str [97, 98, 99, 100, 101, 102, 103, 104]), (.str [97, 98, 99, 100, 101, 102, 103, 104, 105]), (.str [97, 49]), (.str [32, 97]), .str [120, 120, 120, 120, 120, 120, 120, 120, 120, 120, 120, 120, 120, 120, 120, 120, 120, 120, 120, 120, 120], .int 1000000001]
def oddB : List T := [.int (-1000000001), .int 1000000000000000000000000000000, (.tup []), (.tup [(.str [110, 111, 110, 101])]), (.fz []), (.fz [(.str [97])]), (.tup [(.str [116, 101, 120, 116]), (.str [97])]), (.tup [(.str [98, 111, 117, 110, 100]), (.str [97]), (.str [98]), (.tup [(.str [110, 111, 116])])])]
theorem dt {k b c : Nat} {l : List T} (h : ∀ x ∈ l, Da k c x) (e : l.length * (c + 1) ≤ b) : Da (k + 1) b (.tup l) := .tup h e
theorem df {k b c : Nat} {l : List T} (h : ∀ x ∈ l, Da k c x) (e : l.length * (c + 1) ≤ b) : Da (k + 1) b (.fz l) := .fz h e
theorem odd_ok : ∀ x ∈ oddA ++ oddB, Da 2 400 x := by
  intro x hx
  have s : ∀ {s : List Nat}, (∀ c ∈ s, c < 128) → s.length ≤ 400 → Da 2 400 (.str s) := fun a b => da_s a b
  have z : ∀ {k c : Nat} {s : List Nat}, (∀ c ∈ s, c < 128) → s.length ≤ c → Da k c (.str s) := fun a b => da_s a b
  rcases List.mem_append.mp hx with hx | hx
  · exact all1 .bl (all1 .bl (all1 (da_small (by decide) (by decide)) (all1 (da_small (by decide) (by decide)) (all1 (da_small (by decide) (by decide)) (all1 .non (all1 (s (by decide) (by decide)) (all1 (s (by decide) (by decide)) (all1 (s (by decide) (by decide)) (all1 (s (by decide) (by decide)) (all1 (s (by decide) (by decide)) (all1 (s (by decide) (by decide)) (all1 (s (by decide) (by decide)) (all1 (s (by decide) (by decide)) (all1 (da_small (by decide) (by decide)) all0)))))))))))))) x hx
  · exact all1 (da_small (by decide) (by decide)) (all1 (da_small (by decide) (by decide)) (all1 (dt (c := 0) all0 (by decide)) (all1 (dt (c := 20) (all1 (z (by decide) (by decide)) all0) (by decide)) (all1 (df (c := 0) all0 (by decide)) (all1 (df (c := 20) (all1 (z (by decide) (by decide)) all0) (by decide)) (all1 (dt (c := 20) (all1 (z (by decide) (by decide)) (all1 (z (by decide) (by decide)) all0)) (by decide)) (all1 (dt (c := 50) (all1 (z (by decide) (by decide)) (all1 (z (by decide) (by decide)) (all1 (z (by decide) (by decide)) (all1 (dt (c := 20) (all1 (z (by decide) (by decide)) all0) (by decide)) all0)))) (by decide)) all0))))))) x hx
section
variable {p : Nat} {S0 S : List Ob}
theorem Qw_odd {Φ : T → List Ob → Prop} (h : Pt p S0 S) (k : ∀ (x : T) (S' : List Ob), Da 2 400 x → Pt p S0 S' → Φ (.tup [x]) S') : Qw (qB (qB (m__law_pick [.ref p, (.int 23)]) fun t111 => (qOp2 ixU (.fz (oddA ++ oddB)) t111)) fun t112 => (qP (T.tup [t112]))) S Φ := by
  rw [Qw_B, Qw_B]
  refine Qw_pk h (by decide) (by decide) fun i S1 i0 i1 h => ?_
  obtain ⟨x, hx⟩ : ∃ x, (oddA ++ oddB)[i.toNat]? = some x := ⟨_, List.getElem?_eq_getElem (by show i.toNat < 23; omega)⟩
  rw [qOp2_n nr_fz nr_int, ix_i i0, hx, qO_some, Qw_P, Qw_P]
  exact k x S1 (odd_ok x (List.mem_of_getElem? hx)) h
theorem bent_w {l : List T} (h1 : 1 ≤ l.length) (h2 : l.length ≤ 10) (hd : ∀ x ∈ l, Da 2 400 x) (hp : IsPot S p) : Fw m__law_bent [.ref p, .tup l] S fun t S' => BentOk (l.length + 1) t ∧ Pt p S S' := by
  refine fw_of (q := q__law_bent _ _) qs__law_bent ?_
  unfold q__law_bent qb__law_bent
  rw [Qw_qFn, Qw_B]
  refine Qw_pk (.refl hp) (by decide) (by decide) fun way S1 w0 w1 h => ?_
  rw [Qw_B, len_tup, qB_P]
  refine Qw_pk h (by omega) (by omega) fun at_ S2 a0 a1 h => ?_
  obtain ⟨a, rfl⟩ : ∃ a : Nat, at_ = a := ⟨at_.toNat, by omega⟩
  rw [show (qB (qB (qOp2 mulU (.str [120]) (.int 21)) fun t14 => (qB (qB (qOp2 powO (.int 10) (.int 9)) fun t21 => (qOp2 addU t21 (.int 1))) fun t24 => (qP [(.bl true), (.bl false), (.int 0), (.int 1), (.int (-1)), .non, (.str []), (.str [97]), (.str [65]), (.str [97, 98, 99, 100, 101, 102, 103, 104]), (.str [97, 98, 99, 100, 101, 102, 103, 104, 105]), (.str [97, 49]), (.str [32, 97]), t14, t24]))) fun l25 => qP (T.fz l25)) = qP (.fz oddA) from rfl, qB_P]
  rw [show (qB (qB (qB (qB (qOp2 powO (.int 10) (.int 9)) fun t51 => (qOp2 subO (.int 0) t51)) fun t54 => (qOp2 subO t54 (.int 1))) fun t57 => (qB (qOp2 powO (.int 10) (.int 30)) fun t62 => (qP [t57, t62, (.tup []), (.tup [(.str [110, 111, 110, 101])]), (.fz []), (.fz [(.str [97])]), (.tup [(.str [116, 101, 120, 116]), (.str [97])]), (.tup [(.str [98, 111, 117, 110, 100]), (.str [97]), (.str [98]), (.tup [(.str [110, 111, 116])])])]))) fun l63 => qP (T.fz l63)) = qP (.fz oddB) from rfl, qB_P]
  rw [show qOp2 addU (.fz oddA) (.fz oddB) = qP (.fz (oddA ++ oddB)) from rfl, qB_P, Qw_B]
  have tk : ∀ {j : Nat}, ∀ x ∈ l.take j, Da 2 400 x := fun x hx => hd x (List.mem_of_mem_take hx)
  have dr : ∀ {j : Nat}, ∀ x ∈ l.drop j, Da 2 400 x := fun x hx => hd x (List.mem_of_mem_drop hx)
  have ap : ∀ {a b : List T}, (∀ x ∈ a, Da 2 400 x) → (∀ x ∈ b, Da 2 400 x) → ∀ x ∈ a ++ b, Da 2 400 x := fun ha hb x hx => (List.mem_append.mp hx).elim (ha x) (hb x)
  refine Qw_eqi ?_
  by_cases c0 : way = 0
  · subst c0
    rw [show ((0 : Int) == 0) = true from rfl, if_pos rfl, qI_i, qB_P, tup_to, qB_P, qOp2_n nr_int nr_int, add_i, qO_some, qB_P, qI_i, qB_P, show ((a : Int) + 1) = ((a + 1 : Nat) : Int) by omega, tup_from, qB_P, tup_add (by simp; omega), qB_P, Qw_P]
    exact ⟨⟨_, .inl rfl, by simp <;> omega, ap tk dr⟩, h⟩
  rw [show (way == 0) = false from beq_eq_false_iff_ne.mpr c0, if_neg (by simp), Qw_B]
  refine Qw_eqi ?_
  by_cases c1 : way = 1
  · subst c1
    rw [show ((1 : Int) == 1) = true from rfl, if_pos rfl, qI_i, qB_P, tup_to, qB_P, Qw_B, Qw_B, Qw_B]
    refine Qw_odd h fun x S3 hx h => ?_
    rw [tup_add (by simp; omega), Qw_P, qB_P, tup_from, qB_P, tup_add (by simp; omega), Qw_P, Qw_P]
    exact ⟨⟨_, .inl rfl, by simp <;> omega, ap (ap tk (all1 hx all0)) dr⟩, h⟩
  rw [show (way == 1) = false from beq_eq_false_iff_ne.mpr c1, if_neg (by simp), Qw_B]
  refine Qw_eqi ?_
  by_cases c2 : way = 2
  · subst c2
    rw [show ((2 : Int) == 2) = true from rfl, if_pos rfl, list_tup, qB_P, qB_P, Qw_P]
    exact ⟨⟨_, .inr rfl, by omega, hd⟩, h⟩
  rw [show (way == 2) = false from beq_eq_false_iff_ne.mpr c2, if_neg (by simp), Qw_B]
  refine Qw_eqi ?_
  by_cases c3 : way = 3
  · subst c3
    rw [show ((3 : Int) == 3) = true from rfl, if_pos rfl, Qw_B, Qw_B, Qw_B, Qw_B]
    refine Qw_pk h (by decide) (by decide) fun i S3 i0 i1 h => ?_
    have all : ∀ x ∈ [(T.str [110, 111, 110, 101]), (.str [110, 111, 116]), (.str [116, 114, 117, 116, 104]), (.str [110, 117, 109, 98, 101, 114]), (.str [116, 101, 120, 116]), (.str [107, 105, 110, 100]), (.str [100, 101, 101, 100]), (.str [116, 104, 105, 110, 103]), (.str [103, 97, 116, 101]), (.str [98, 111, 117, 110, 100]), (.str [119, 111, 114, 116, 104]), (.str [75, 105, 110, 100])], Da 2 400 x := by
      have s : ∀ {s : List Nat}, (∀ c ∈ s, c < 128) → s.length ≤ 400 → Da 2 400 (.str s) := fun a b => da_s a b
      exact all1 (s (by decide) (by decide)) (all1 (s (by decide) (by decide)) (all1 (s (by decide) (by decide)) (all1 (s (by decide) (by decide)) (all1 (s (by decide) (by decide)) (all1 (s (by decide) (by decide)) (all1 (s (by decide) (by decide)) (all1 (s (by decide) (by decide)) (all1 (s (by decide) (by decide)) (all1 (s (by decide) (by decide)) (all1 (s (by decide) (by decide)) (all1 (s (by decide) (by decide)) all0)))))))))))
    obtain ⟨x, hx⟩ : ∃ x, [(T.str [110, 111, 110, 101]), (.str [110, 111, 116]), (.str [116, 114, 117, 116, 104]), (.str [110, 117, 109, 98, 101, 114]), (.str [116, 101, 120, 116]), (.str [107, 105, 110, 100]), (.str [100, 101, 101, 100]), (.str [116, 104, 105, 110, 103]), (.str [103, 97, 116, 101]), (.str [98, 111, 117, 110, 100]), (.str [119, 111, 114, 116, 104]), (.str [75, 105, 110, 100])][i.toNat]? = some x := ⟨_, List.getElem?_eq_getElem (by simp; omega)⟩
    rw [qOp2_n nr_fz nr_int, ix_i i0, hx, qO_some, Qw_P, Qw_P, show ((1 : Int)) = ((1 : Nat) : Int) from rfl, tup_from, qB_P, tup_add (by simp; omega), Qw_P, Qw_P]
    exact ⟨⟨_, .inl rfl, by simp <;> omega, ap (all1 (all x (List.mem_of_getElem? hx)) all0) dr⟩, h⟩
  rw [show (way == 3) = false from beq_eq_false_iff_ne.mpr c3, if_neg (by simp), qI_i, qB_P, tup_to, qB_P, Qw_B, Qw_B, Qw_B]
  refine Qw_odd h fun x S3 hx h => ?_
  rw [tup_add (by simp; omega), Qw_P, qOp2_n nr_int nr_int, add_i, qO_some, qB_P, qI_i, qB_P, show ((a : Int) + 1) = ((a + 1 : Nat) : Int) by omega, tup_from, qB_P, tup_add (by simp; omega), Qw_P, Qw_P]
  exact ⟨⟨_, .inl rfl, by simp <;> omega, ap (ap tk (all1 hx all0)) dr⟩, h⟩
end
def Thg (x : T) : Prop := Da 4 70000 x
theorem bent_da {n : Nat} {t : T} (h : BentOk n t) (hn : n ≤ 7) : Da 3 3000 t := by
  obtain ⟨l, rfl | rfl, hl, hx⟩ := h
  · exact .tup (c := 400) hx (mul_le' (m := 7) (by omega) (by decide))
  · exact .fz (c := 400) hx (mul_le' (m := 7) (by omega) (by decide))
theorem repr_q {x : T} (h : Thg x) : qCall reprO [x] = qP (.str (rpr x)) := by
  rw [qCall_1 (Da.nr h)]
  show qO (if ShOk x then some (T.str (rpr x)) else none) = _
  rw [if_pos (h.ok (by decide) (by decide)), qO_some]
theorem one_q {x : T} (h : Thg x) : (qB (qCall reprO [x]) fun before_72 => (qB (qB (qB (qB (qB ((m_is_worth 14) [x]) fun t80 => (qB ((m__law_is_worth 14) [x]) fun t81 => ((m__law_same 4) [t80, t81]))) qTr) fun b82 => qP (!b82)) fun b83 => if b83 = true then qP true else (qB (qB (qCall reprO [x]) fun t77 => (qOp2 neS t77 before_72)) qTr)) fun b84 => if b84 = true then (qP (.ret (.bl false))) else (qB (qB (qB (qB (qB (m_is_plain [x]) fun t92 => (qB (m__law_is_plain [x]) fun t93 => ((m__law_same 4) [t92, t93]))) qTr) fun b94 => qP (!b94)) fun b95 => if b95 = true then qP true else (qB (qB (qCall reprO [x]) fun t89 => (qOp2 neS t89 before_72)) qTr)) fun b96 => if b96 = true then (qP (.ret (.bl false))) else (qP (.nxt ()) : Q (F Unit Unit))))) = qP (.nxt ()) := by
  rw [worth_d 4 h (by decide) (by decide) (by decide), lworth_d 4 h (by decide) (by decide) (by decide), plain_d h (by decide) (by decide), lplain_d h (by decide) (by decide), repr_q h]
  have s : ∀ b : Bool, (b == b) = true := fun b => by cases b <;> rfl
  simp only [qB_P, same_q, s, qTr_b, Bool.not_true, Bool.false_eq_true, if_false]
  rw [qOp2_n nr_str nr_str, neS_self, qO_some]
  simp only [qB_P, qTr_b, Bool.false_eq_true, if_false]
end Lw
namespace Lw
open PySem PySem.Spec PyProof.Rows L2 Sw
open Classical
/-- a worth as it was drawn -/
theorem drawn {t : T} (h : U t ∨ Bd t) : ∃ l, t = .tup l ∧ 1 ≤ l.length ∧ l.length ≤ 4 ∧ (∀ x ∈ l, Da 2 400 x) ∧ wV 4 t = true := by
  rcases h with h | h
  · have hw := h.w 3
    obtain ⟨l, rfl, h1, h2, _, _, h3⟩ := h
    exact ⟨l, rfl, h1, by omega, fun x hx => (h3 x hx).mono (by decide) (by decide), hw⟩
  · have hw := h.w 2
    obtain ⟨n, o, w, rfl, hn, ho, ⟨l, rfl, h1, h2, _, _, h3⟩⟩ := h
    refine ⟨_, rfl, by simp, by simp, all1 (da_s (by decide) (by decide)) (all1 ((name_da (k := 0) hn).mono (by decide) (by decide)) (all1 ((name_da (k := 0) ho).mono (by decide) (by decide)) (all1 ?_ all0))), hw⟩
    have : Da 1 100 (.tup l) := .tup (c := 20) h3 (mul_le' (m := 3) h2 (by decide))
    exact this.mono (by decide) (by decide)
theorem whole_thg {l : List T} (h : ∀ x ∈ l, Da 2 400 x) (hl : l.length ≤ 7) : Thg (.tup l) := by
  have : Da 3 3000 (.tup l) := .tup (c := 400) h (mul_le' (m := 7) hl (by decide))
  exact this.mono (by decide) (by decide)
theorem bent_thg {n : Nat} {t : T} (h : BentOk n t) (hn : n ≤ 7) : Thg t := (bent_da h hn).mono (by decide) (by decide)
def startL : List T := [.non, (.tup []), (.int 0), (.str [110, 111, 110, 101]), (.fz []), (.tup [(.str [110, 111, 110, 101]), .non]), (.tup [(.tup [(.str [110, 111, 110, 101])])]), (.tup [(.str [116, 114, 117, 116, 104])]), (.tup [(.str [116, 101, 120, 116])]), (.tup [(.str [103, 97, 116, 101]), (.str [97])]), (.bl true), (.tup [(.tup [])])]
theorem start_ok : ∀ x ∈ startL, Thg x := by
  have s : ∀ {k : Nat} {s : List Nat}, (∀ c ∈ s, c < 128) → s.length ≤ 20 → Da k 20 (.str s) := fun a b => da_s a b
  have w : ∀ {x : T}, Da 2 400 x → Thg x := fun h => h.mono (by decide) (by decide)
  exact all1 .non (all1 (w (dt (c := 0) all0 (by decide))) (all1 (da_small (by decide) (by decide)) (all1 (da_s (by decide) (by decide)) (all1 (w (df (c := 0) all0 (by decide))) (all1 (w (dt (c := 20) (all1 (s (by decide) (by decide)) (all1 .non all0)) (by decide))) (all1 (w (dt (c := 100) (all1 (dt (c := 20) (all1 (s (by decide) (by decide)) all0) (by decide)) all0) (by decide))) (all1 (w (dt (c := 20) (all1 (s (by decide) (by decide)) all0) (by decide))) (all1 (w (dt (c := 20) (all1 (s (by decide) (by decide)) all0) (by decide))) (all1 (w (dt (c := 20) (all1 (s (by decide) (by decide)) (all1 (s (by decide) (by decide)) all0)) (by decide))) (all1 .bl (all1 (w (dt (c := 100) (all1 (dt (c := 0) all0 (by decide)) all0) (by decide))) all0)))))))))))
theorem law_w (ns : List Int) : Fw m_law [.scr ns] [] fun t _ => t = .bl true := by
  refine fw_of (q := q_law _) qs_law ?_
  unfold q_law qb_law
  rw [Qw_qFn, Qw_B, Qw_fn]
  refine (pot_w ns).mono ?_
  rintro t S0 ⟨rfl, hp⟩
  rw [Qw_B, show ((6 : Int)) = ((6 : Nat) : Int) from rfl, Qw_fn]
  refine (names_w (n := 6) (by decide) hp).mono ?_
  rintro t S1 ⟨⟨l, rfl, hl, hln⟩, h⟩
  have hne : l ≠ [] := fun z => by rw [z] at hln; cases hln
  obtain ⟨n0, m0, e0⟩ := ix_nL (l := l) (k := 0) (by decide) (by omega)
  obtain ⟨n1, m1, e1⟩ := ix_nL (l := l) (k := 1) (by decide) (by omega)
  rw [qB_P, Qw_seq, qRange_i (by decide) (by decide), qB_P]
  refine Qw_for (fun i a S2 => (∀ x ∈ a, Thg x) ∧ a.length ≤ 12 + 5 * i ∧ Pt 0 S0 S2) _ 0 _ _ ⟨start_ok, by decide, h⟩ ?_ ?_
  · rintro i t a S2 hi ⟨hA, hAl, h⟩
    have hi2 : i < 10 := (range_get hi).1
    rw [Nat.zero_add] at hAl ⊢
    rw [Qw_B, Qw_fn]
    refine (worth_w hl hne h.1).mono ?_
    rintro w S3 ⟨hw, q⟩
    have h := h.trans q
    obtain ⟨r, rfl, r1, r4, rd, rw_⟩ := drawn hw
    rw [worth_d 4 (whole_thg rd (by omega)) (by decide) (by decide) (by decide), rw_, show (qB (qB (qP (T.bl true)) fun t10 => (qOp2 notBO t10 (.bl true))) qTr) = qP false from rfl, qB_P, if_neg (by simp), Qw_B, Qw_fn]
    refine (bent_w r1 (by omega) rd h.1).mono ?_
    rintro b S4 ⟨hb, q⟩
    have h := h.trans q
    rw [Qw_B, e0, qB_P, e1, qB_P, qB_P, Qw_B, Qw_B, Qw_B, Qw_fn]
    refine (bent_w r1 (by omega) rd h.1).mono ?_
    rintro b2 S5 ⟨hb2, q⟩
    have h := h.trans q
    rw [Qw_P, Qw_P, cat_f (by simp; omega), Qw_P]
    have hB : ∀ x ∈ a ++ [T.tup r, b, .tup [.str [98, 111, 117, 110, 100], .str n0, .str n1, b], b2], Thg x := by
      intro x hx
      rcases List.mem_append.mp hx with hx | hx
      · exact hA x hx
      · refine all1 (whole_thg rd (by omega)) (all1 (bent_thg hb (by omega)) (all1 ?_ (all1 (bent_thg hb2 (by omega)) all0))) x hx
        have : Da 4 20000 (.tup [.str [98, 111, 117, 110, 100], .str n0, .str n1, b]) := .tup (c := 3000) (all1 (da_s (by decide) (by decide)) (all1 ((name_da (k := 0) (hl.1 _ m0)).mono (by decide) (by decide)) (all1 ((name_da (k := 0) (hl.1 _ m1)).mono (by decide) (by decide)) (all1 (bent_da hb (by omega)) all0)))) (by simp)
        exact this.mono (by decide) (by decide)
    have hBl : (a ++ [T.tup r, b, .tup [.str [98, 111, 117, 110, 100], .str n0, .str n1, b], b2]).length ≤ 12 + 5 * i + 4 := by simp; omega
    generalize a ++ [T.tup r, b, .tup [.str [98, 111, 117, 110, 100], .str n0, .str n1, b], b2] = B at hB hBl ⊢
    obtain ⟨z, ez, hz, hzd⟩ := hb
    have skip : ∀ (S6 : List Ob), Pt 0 S0 S6 → Qw (qP (F.nxt B) : Q (F (List T) (List T))) S6 fun f S7 => match f with
        | .nxt a' => (∀ x ∈ a', Thg x) ∧ a'.length ≤ 12 + 5 * (i + 1) ∧ Pt 0 S0 S7
        | .cnt a' => (∀ x ∈ a', Thg x) ∧ a'.length ≤ 12 + 5 * (i + 1) ∧ Pt 0 S0 S7
        | .brk _ => False
        | .ret _ => False := by
      intro S6 h
      rw [Qw_P]
      exact ⟨hB, by omega, h⟩
    rcases ez with rfl | rfl
    · rw [show qCall isiO [(T.tup z), (.ty "tuple")] = qP (.bl true) from rfl, qB_P, qTr_b, qB_P, if_pos rfl, len_tup, qB_P, qOp2_n nr_int nr_int, gt_i, qO_some, qB_P, qTr_b, qB_P]
      by_cases hz0 : z = []
      · subst hz0
        rw [show decide ((0 : Int) < ((([] : List T).length : Nat) : Int)) = false from rfl, if_neg (by simp)]
        refine (skip S5 h).mono fun f S7 q => ?_
        cases f <;> first | exact q | exact q.elim
      · have hpos := List.length_pos_iff.mpr hz0
        rw [decide_eq_true (by omega), if_pos rfl, Qw_B, Qw_B, Qw_fn]
        refine (bent_w (by omega) (by omega) hzd h.1).mono ?_
        rintro b3 S6 ⟨hb3, q⟩
        have h := h.trans q
        rw [append_i (by omega), Qw_O, Op_some, Qw_P]
        refine ⟨fun x hx => ?_, by simp; omega, h⟩
        rcases List.mem_append.mp hx with hx | hx
        · exact hB x hx
        · rw [List.mem_singleton.mp hx]
          exact bent_thg hb3 (by omega)
    · rw [show qCall isiO [(T.fz z), (.ty "tuple")] = qP (.bl false) from rfl, qB_P, qTr_b, qB_P, if_neg (by simp), qB_P, if_neg (by simp)]
      refine (skip S5 h).mono fun f S7 q => ?_
      cases f <;> first | exact q | exact q.elim
  · rintro a S2 ⟨hA, hAl, h⟩
    simp only
    rw [Qw_seq, qIt_f, qB_P]
    refine Qw_forI (fun _ S3 => S3 = S2) rfl ?_ ?_
    · rintro x _ S3 hx rfl
      rw [one_q (hA x hx), Qw_P]
    · rintro _ S3 rfl
      simp only
      rw [Qw_P]
theorem law_eq (ns : List Int) (h : ns.length ≤ 63) : ∃ S', m_law [.scr ns] [] = some (.ok (.bl true), S') := by
  obtain ⟨t, S', e, rfl⟩ := (law_w ns).ex
  exact ⟨S', e⟩
end Lw
set_option maxHeartbeats 4000000
namespace Lw
open PySem PySem.Spec PyProof.Rows L2 Sw
open Classical
def topS (i : Nat) : Stmt := PySem.Challenge.pw_swiftkin_k01_what_is_a_worth.main.body.getD i (.Pass ⟨0, 0, 0, 0⟩)
abbrev s_is_whole : Stmt := topS 6
abbrev N_is_whole : List Str := ["thing"]
theorem sc_is_whole : FnScope N_is_whole ["thing"] (defScope s_is_whole) := ⟨rfl, rfl, rfl, by decide +kernel, rfl, by decide +kernel, by decide +kernel⟩
abbrev s_is_in : Stmt := topS 7
abbrev N_is_in : List Str := ["thing", "low", "high"]
theorem sc_is_in : FnScope N_is_in ["thing", "low", "high"] (defScope s_is_in) := ⟨rfl, rfl, rfl, by decide +kernel, rfl, by decide +kernel, by decide +kernel⟩
abbrev s_is_name : Stmt := topS 8
abbrev N_is_name : List Str := ["thing", "sign"]
theorem sc_is_name : FnScope N_is_name ["thing"] (defScope s_is_name) := ⟨rfl, rfl, rfl, by decide +kernel, rfl, by decide +kernel, by decide +kernel⟩
abbrev s_is_plain : Stmt := topS 9
abbrev N_is_plain : List Str := ["thing", "word", "told"]
theorem sc_is_plain : FnScope N_is_plain ["thing"] (defScope s_is_plain) := ⟨rfl, rfl, rfl, by decide +kernel, rfl, by decide +kernel, by decide +kernel⟩
abbrev s_is_bound : Stmt := topS 10
abbrev N_is_bound : List Str := ["thing"]
theorem sc_is_bound : FnScope N_is_bound ["thing"] (defScope s_is_bound) := ⟨rfl, rfl, rfl, by decide +kernel, rfl, by decide +kernel, by decide +kernel⟩
abbrev s_is_worth : Stmt := topS 11
abbrev N_is_worth : List Str := ["thing"]
theorem sc_is_worth : FnScope N_is_worth ["thing"] (defScope s_is_worth) := ⟨rfl, rfl, rfl, by decide +kernel, rfl, by decide +kernel, by decide +kernel⟩
abbrev s__law_blend : Stmt := topS 13
abbrev N__law_blend : List Str := ["cell", "at", "one", "two", "three"]
theorem sc__law_blend : FnScope N__law_blend ["cell", "at"] (defScope s__law_blend) := ⟨rfl, rfl, rfl, by decide +kernel, rfl, by decide +kernel, by decide +kernel⟩
abbrev s__law_pot : Stmt := topS 14
abbrev N__law_pot : List Str := ["script", "cells", "k", "cell"]
theorem sc__law_pot : FnScope N__law_pot ["script"] (defScope s__law_pot) := ⟨rfl, rfl, rfl, by decide +kernel, rfl, by decide +kernel, by decide +kernel⟩
abbrev s__law_pick : Stmt := topS 15
abbrev N__law_pick : List Str := ["pot", "many", "at", "cell", "found"]
theorem sc__law_pick : FnScope N__law_pick ["pot", "many"] (defScope s__law_pick) := ⟨rfl, rfl, rfl, by decide +kernel, rfl, by decide +kernel, by decide +kernel⟩
abbrev s__law_same : Stmt := topS 16
abbrev N__law_same : List Str := ["found", "due", "one", "other"]
theorem sc__law_same : FnScope N__law_same ["found", "due"] (defScope s__law_same) := ⟨rfl, rfl, rfl, by decide +kernel, rfl, by decide +kernel, by decide +kernel⟩
abbrev s__law_order : Stmt := topS 17
abbrev N__law_order : List Str := ["pot", "many", "order", "k"]
theorem sc__law_order : FnScope N__law_order ["pot", "many"] (defScope s__law_order) := ⟨rfl, rfl, rfl, by decide +kernel, rfl, by decide +kernel, by decide +kernel⟩
abbrev s__law_letters : Stmt := topS 18
abbrev N__law_letters : List Str := ["pot", "many", "small", "rest", "k", "spot", "turn", "size", "found", "part", "at"]
theorem sc__law_letters : FnScope N__law_letters ["pot", "many"] (defScope s__law_letters) := ⟨rfl, rfl, rfl, by decide +kernel, rfl, by decide +kernel, by decide +kernel⟩
abbrev s__law_names : Stmt := topS 19
abbrev N__law_names : List Str := ["pot", "many", "way", "turn", "small", "found", "k"]
theorem sc__law_names : FnScope N__law_names ["pot", "many"] (defScope s__law_names) := ⟨rfl, rfl, rfl, by decide +kernel, rfl, by decide +kernel, by decide +kernel⟩
abbrev s__law_text : Stmt := topS 20
abbrev N__law_text : List Str := ["pot", "most", "signs", "k"]
theorem sc__law_text : FnScope N__law_text ["pot", "most"] (defScope s__law_text) := ⟨rfl, rfl, rfl, by decide +kernel, rfl, by decide +kernel, by decide +kernel⟩
abbrev s__law_plain_worth : Stmt := topS 21
abbrev N__law_plain_worth : List Str := ["pot", "way", "far"]
theorem sc__law_plain_worth : FnScope N__law_plain_worth ["pot", "way"] (defScope s__law_plain_worth) := ⟨rfl, rfl, rfl, by decide +kernel, rfl, by decide +kernel, by decide +kernel⟩
abbrev s__law_worth : Stmt := topS 22
abbrev N__law_worth : List Str := ["pot", "names", "bound", "way", "name", "other"]
theorem sc__law_worth : FnScope N__law_worth ["pot", "names", "bound"] (defScope s__law_worth) := ⟨rfl, rfl, rfl, by decide +kernel, rfl, by decide +kernel, by decide +kernel⟩
abbrev s__law_is_name : Stmt := topS 23
abbrev N__law_is_name : List Str := ["thing", "sign"]
theorem sc__law_is_name : FnScope N__law_is_name ["thing"] (defScope s__law_is_name) := ⟨rfl, rfl, rfl, by decide +kernel, rfl, by decide +kernel, by decide +kernel⟩
abbrev s__law_is_plain : Stmt := topS 24
abbrev N__law_is_plain : List Str := ["thing", "whole"]
theorem sc__law_is_plain : FnScope N__law_is_plain ["thing"] (defScope s__law_is_plain) := ⟨rfl, rfl, rfl, by decide +kernel, rfl, by decide +kernel, by decide +kernel⟩
abbrev s__law_is_worth : Stmt := topS 25
abbrev N__law_is_worth : List Str := ["thing"]
theorem sc__law_is_worth : FnScope N__law_is_worth ["thing"] (defScope s__law_is_worth) := ⟨rfl, rfl, rfl, by decide +kernel, rfl, by decide +kernel, by decide +kernel⟩
abbrev s__law_bent : Stmt := topS 26
abbrev N__law_bent : List Str := ["pot", "worth", "way", "at", "odd", "words"]
theorem sc__law_bent : FnScope N__law_bent ["pot", "worth"] (defScope s__law_bent) := ⟨rfl, rfl, rfl, by decide +kernel, rfl, by decide +kernel, by decide +kernel⟩
abbrev s_law : Stmt := topS 27
abbrev N_law : List Str := ["script", "pot", "names", "things", "turn", "worth", "bent", "thing", "before"]
theorem sc_law : FnScope N_law ["script"] (defScope s_law) := ⟨rfl, rfl, rfl, by decide +kernel, rfl, by decide +kernel, by decide +kernel⟩
structure Tx (w : World) (K : PySem.W.Frag) (mg : Str → Option Value) where
  v_GREATEST : V
  u_GREATEST : Value
  g_GREATEST : mg "GREATEST" = some u_GREATEST
  r_GREATEST : RelV v_GREATEST u_GREATEST
  t_GREATEST : ∀ g, RepT K g (.int 1000000000) v_GREATEST
  v_LETTERS : V
  u_LETTERS : Value
  g_LETTERS : mg "LETTERS" = some u_LETTERS
  r_LETTERS : RelV v_LETTERS u_LETTERS
  t_LETTERS : ∀ g, RepT K g c_LETTERS v_LETTERS
  v_LONGEST : V
  u_LONGEST : Value
  g_LONGEST : mg "LONGEST" = some u_LONGEST
  r_LONGEST : RelV v_LONGEST u_LONGEST
  t_LONGEST : ∀ g, RepT K g (.int 20) v_LONGEST
  v_NONE : V
  u_NONE : Value
  g_NONE : mg "NONE" = some u_NONE
  r_NONE : RelV v_NONE u_NONE
  t_NONE : ∀ g, RepT K g c_NONE v_NONE
  v_NOT : V
  u_NOT : Value
  g_NOT : mg "NOT" = some u_NOT
  r_NOT : RelV v_NOT u_NOT
  t_NOT : ∀ g, RepT K g c_NOT v_NOT
  a_is_whole : Addr
  d_is_whole : FuncData
  f_is_whole : FunD K "is_whole" "is_whole" (defArgs s_is_whole) (defBody s_is_whole) (defScope s_is_whole) [] [] a_is_whole d_is_whole
  g_is_whole : mg "is_whole" = some (.ref a_is_whole)
  k_is_whole : PySem.W.keepIn K (.ref a_is_whole) = true
  b_is_whole : Binds K d_is_whole ["thing"] []
  a_is_in : Addr
  d_is_in : FuncData
  f_is_in : FunD K "is_in" "is_in" (defArgs s_is_in) (defBody s_is_in) (defScope s_is_in) [] [] a_is_in d_is_in
  g_is_in : mg "is_in" = some (.ref a_is_in)
  k_is_in : PySem.W.keepIn K (.ref a_is_in) = true
  b_is_in : Binds K d_is_in ["thing", "low", "high"] []
  a_is_name : Addr
  d_is_name : FuncData
  f_is_name : FunD K "is_name" "is_name" (defArgs s_is_name) (defBody s_is_name) (defScope s_is_name) [] [] a_is_name d_is_name
  g_is_name : mg "is_name" = some (.ref a_is_name)
  k_is_name : PySem.W.keepIn K (.ref a_is_name) = true
  b_is_name : Binds K d_is_name ["thing"] []
  a_is_plain : Addr
  d_is_plain : FuncData
  f_is_plain : FunD K "is_plain" "is_plain" (defArgs s_is_plain) (defBody s_is_plain) (defScope s_is_plain) [] [] a_is_plain d_is_plain
  g_is_plain : mg "is_plain" = some (.ref a_is_plain)
  k_is_plain : PySem.W.keepIn K (.ref a_is_plain) = true
  b_is_plain : Binds K d_is_plain ["thing"] []
  a_is_bound : Addr
  d_is_bound : FuncData
  f_is_bound : FunD K "is_bound" "is_bound" (defArgs s_is_bound) (defBody s_is_bound) (defScope s_is_bound) [] [] a_is_bound d_is_bound
  g_is_bound : mg "is_bound" = some (.ref a_is_bound)
  k_is_bound : PySem.W.keepIn K (.ref a_is_bound) = true
  b_is_bound : Binds K d_is_bound ["thing"] []
  a_is_worth : Addr
  d_is_worth : FuncData
  f_is_worth : FunD K "is_worth" "is_worth" (defArgs s_is_worth) (defBody s_is_worth) (defScope s_is_worth) [] [] a_is_worth d_is_worth
  g_is_worth : mg "is_worth" = some (.ref a_is_worth)
  k_is_worth : PySem.W.keepIn K (.ref a_is_worth) = true
  b_is_worth : Binds K d_is_worth ["thing"] []
  a__law_blend : Addr
  d__law_blend : FuncData
  f__law_blend : FunD K "_law_blend" "_law_blend" (defArgs s__law_blend) (defBody s__law_blend) (defScope s__law_blend) [] [] a__law_blend d__law_blend
  g__law_blend : mg "_law_blend" = some (.ref a__law_blend)
  k__law_blend : PySem.W.keepIn K (.ref a__law_blend) = true
  b__law_blend : Binds K d__law_blend ["cell", "at"] []
  a__law_pot : Addr
  d__law_pot : FuncData
  f__law_pot : FunD K "_law_pot" "_law_pot" (defArgs s__law_pot) (defBody s__law_pot) (defScope s__law_pot) [] [] a__law_pot d__law_pot
  g__law_pot : mg "_law_pot" = some (.ref a__law_pot)
  k__law_pot : PySem.W.keepIn K (.ref a__law_pot) = true
  b__law_pot : Binds K d__law_pot ["script"] []
  a__law_pick : Addr
  d__law_pick : FuncData
  f__law_pick : FunD K "_law_pick" "_law_pick" (defArgs s__law_pick) (defBody s__law_pick) (defScope s__law_pick) [] [] a__law_pick d__law_pick
  g__law_pick : mg "_law_pick" = some (.ref a__law_pick)
  k__law_pick : PySem.W.keepIn K (.ref a__law_pick) = true
  b__law_pick : Binds K d__law_pick ["pot", "many"] []
  a__law_same : Addr
  d__law_same : FuncData
  f__law_same : FunD K "_law_same" "_law_same" (defArgs s__law_same) (defBody s__law_same) (defScope s__law_same) [] [] a__law_same d__law_same
  g__law_same : mg "_law_same" = some (.ref a__law_same)
  k__law_same : PySem.W.keepIn K (.ref a__law_same) = true
  b__law_same : Binds K d__law_same ["found", "due"] []
  a__law_order : Addr
  d__law_order : FuncData
  f__law_order : FunD K "_law_order" "_law_order" (defArgs s__law_order) (defBody s__law_order) (defScope s__law_order) [] [] a__law_order d__law_order
  g__law_order : mg "_law_order" = some (.ref a__law_order)
  k__law_order : PySem.W.keepIn K (.ref a__law_order) = true
  b__law_order : Binds K d__law_order ["pot", "many"] []
  a__law_letters : Addr
  d__law_letters : FuncData
  f__law_letters : FunD K "_law_letters" "_law_letters" (defArgs s__law_letters) (defBody s__law_letters) (defScope s__law_letters) [] [] a__law_letters d__law_letters
  g__law_letters : mg "_law_letters" = some (.ref a__law_letters)
  k__law_letters : PySem.W.keepIn K (.ref a__law_letters) = true
  b__law_letters : Binds K d__law_letters ["pot", "many"] []
  a__law_names : Addr
  d__law_names : FuncData
  f__law_names : FunD K "_law_names" "_law_names" (defArgs s__law_names) (defBody s__law_names) (defScope s__law_names) [] [] a__law_names d__law_names
  g__law_names : mg "_law_names" = some (.ref a__law_names)
  k__law_names : PySem.W.keepIn K (.ref a__law_names) = true
  b__law_names : Binds K d__law_names ["pot", "many"] []
  a__law_text : Addr
  d__law_text : FuncData
  f__law_text : FunD K "_law_text" "_law_text" (defArgs s__law_text) (defBody s__law_text) (defScope s__law_text) [] [] a__law_text d__law_text
  g__law_text : mg "_law_text" = some (.ref a__law_text)
  k__law_text : PySem.W.keepIn K (.ref a__law_text) = true
  b__law_text : Binds K d__law_text ["pot", "most"] []
  a__law_plain_worth : Addr
  d__law_plain_worth : FuncData
  f__law_plain_worth : FunD K "_law_plain_worth" "_law_plain_worth" (defArgs s__law_plain_worth) (defBody s__law_plain_worth) (defScope s__law_plain_worth) [] [] a__law_plain_worth d__law_plain_worth
  g__law_plain_worth : mg "_law_plain_worth" = some (.ref a__law_plain_worth)
  k__law_plain_worth : PySem.W.keepIn K (.ref a__law_plain_worth) = true
  b__law_plain_worth : Binds K d__law_plain_worth ["pot", "way"] []
  a__law_worth : Addr
  d__law_worth : FuncData
  f__law_worth : FunD K "_law_worth" "_law_worth" (defArgs s__law_worth) (defBody s__law_worth) (defScope s__law_worth) [] [] a__law_worth d__law_worth
  g__law_worth : mg "_law_worth" = some (.ref a__law_worth)
  k__law_worth : PySem.W.keepIn K (.ref a__law_worth) = true
  b__law_worth : Binds K d__law_worth ["pot", "names", "bound"] []
  a__law_is_name : Addr
  d__law_is_name : FuncData
  f__law_is_name : FunD K "_law_is_name" "_law_is_name" (defArgs s__law_is_name) (defBody s__law_is_name) (defScope s__law_is_name) [] [] a__law_is_name d__law_is_name
  g__law_is_name : mg "_law_is_name" = some (.ref a__law_is_name)
  k__law_is_name : PySem.W.keepIn K (.ref a__law_is_name) = true
  b__law_is_name : Binds K d__law_is_name ["thing"] []
  a__law_is_plain : Addr
  d__law_is_plain : FuncData
  f__law_is_plain : FunD K "_law_is_plain" "_law_is_plain" (defArgs s__law_is_plain) (defBody s__law_is_plain) (defScope s__law_is_plain) [] [] a__law_is_plain d__law_is_plain
  g__law_is_plain : mg "_law_is_plain" = some (.ref a__law_is_plain)
  k__law_is_plain : PySem.W.keepIn K (.ref a__law_is_plain) = true
  b__law_is_plain : Binds K d__law_is_plain ["thing"] []
  a__law_is_worth : Addr
  d__law_is_worth : FuncData
  f__law_is_worth : FunD K "_law_is_worth" "_law_is_worth" (defArgs s__law_is_worth) (defBody s__law_is_worth) (defScope s__law_is_worth) [] [] a__law_is_worth d__law_is_worth
  g__law_is_worth : mg "_law_is_worth" = some (.ref a__law_is_worth)
  k__law_is_worth : PySem.W.keepIn K (.ref a__law_is_worth) = true
  b__law_is_worth : Binds K d__law_is_worth ["thing"] []
  a__law_bent : Addr
  d__law_bent : FuncData
  f__law_bent : FunD K "_law_bent" "_law_bent" (defArgs s__law_bent) (defBody s__law_bent) (defScope s__law_bent) [] [] a__law_bent d__law_bent
  g__law_bent : mg "_law_bent" = some (.ref a__law_bent)
  k__law_bent : PySem.W.keepIn K (.ref a__law_bent) = true
  b__law_bent : Binds K d__law_bent ["pot", "worth"] []
  a_law : Addr
  d_law : FuncData
  f_law : FunD K "law" "law" (defArgs s_law) (defBody s_law) (defScope s_law) [] [] a_law d_law
  g_law : mg "law" = some (.ref a_law)
  k_law : PySem.W.keepIn K (.ref a_law) = true
  b_law : Binds K d_law ["script"] []
  n_all : mg "all" = none
  n_bool : mg "bool" = none
  n_enumerate : mg "enumerate" = none
  n_int : mg "int" = none
  n_isinstance : mg "isinstance" = none
  n_len : mg "len" = none
  n_list : mg "list" = none
  n_range : mg "range" = none
  n_repr : mg "repr" = none
  n_str : mg "str" = none
  n_tuple : mg "tuple" = none
  n_zip : mg "zip" = none
section
variable {P : Program} {w : World} {K : PySem.W.Frag} {mg : Str → Option Value} {base : Heap}
theorem ok_is_whole (T : Tx w K mg) : FnOk P w K mg base (L2.CX P w) 1 T.a_is_whole T.d_is_whole ["thing"] (spM K RXn 1 m_is_whole) := by
  refine fn_okD 0 T.f_is_whole sc_is_whole rxn_ok (fun cdv A outer s H Ex hr G hp => ?_)
  exact (ssm_one (sm_ret (me_and (x_bi (b_isi G) T.n_isinstance (by decide +kernel) (oa_cons (ov 0) (oa_cons (ME.o (x_tyv T.n_int (by decide +kernel))) oa_nil))) (me_one (me_not (x_bi (b_isi G) T.n_isinstance (by decide +kernel) (oa_cons (ov 0) (oa_cons (ME.o (x_tyv T.n_bool (by decide +kernel))) oa_nil))))))))
theorem ok_is_in (T : Tx w K mg) : FnOk P w K mg base (L2.CX P w) 2 T.a_is_in T.d_is_in ["thing", "low", "high"] (spM K RXn 3 m_is_in) := by
  refine fn_okD 1 T.f_is_in sc_is_in rxn_ok (fun cdv A outer s H Ex hr G hp => ?_)
  exact (ssm_one (sm_ret (me_and (x_fn G (ok_is_whole T) hr (by omega) T.g_is_whole T.k_is_whole T.b_is_whole (am_cons (ev 0) am_nil) (al_cons al_nil)) (me_one (x_chain (k_le G) (k_le G) (ov 1) (ov 0) (ov 2))))))
theorem ok_is_name (T : Tx w K mg) : FnOk P w K mg base (L2.CX P w) 1 T.a_is_name T.d_is_name ["thing"] (spM K RXn 1 m_is_name) := by
  refine fn_okD 0 T.f_is_name sc_is_name rxn_ok (fun cdv A outer s H Ex hr G hp => ?_)
  exact (ssm_one (sm_ret (me_and (x_bi (b_isi G) T.n_isinstance (by decide +kernel) (oa_cons (ov 0) (oa_cons (ME.o (x_tyv T.n_str (by decide +kernel))) oa_nil))) (me_and (x_chain (k_le G) (k_le G) (ME.o me_int) (ME.o (x_bi (b_len G) T.n_len PySem.boot_len (oa_cons (ov 0) oa_nil))) (ME.o me_int)) (me_one (x_bi (b_all G) T.n_all (by decide +kernel) (oa_cons (ME.o (FE.fz (x_comp G [] [("sign", 1)] (im_u G.K (ev 0)) (fun _ _ _ _ _ => (gn G.blk 1)) (fun _ _ _ _ _ => qm_nil) (fun _ _ _ _ _ => (x_cmp (k_in G.blk) (ov 1) (ME.o (me_glob rfl T.g_LETTERS T.r_LETTERS T.t_LETTERS)))) (blkOk_by (N := N_is_name) (sc := defScope s_is_name) (by decide +kernel))))) oa_nil)))))))
theorem ok_is_plain (T : Tx w K mg) : FnOk P w K mg base (L2.CX P w) 3 T.a_is_plain T.d_is_plain ["thing"] (spM K RXn 1 m_is_plain) := by
  refine fn_okD 2 T.f_is_plain sc_is_plain rxn_ok (fun cdv A outer s H Ex hr G hp => ?_)
  exact (ssm_cons (sm_if (WM.tm (wm_or (tm_not (tm_val (x_bi (b_isi G) T.n_isinstance (by decide +kernel) (oa_cons (ov 0) (oa_cons (ME.o (x_tyv T.n_tuple (by decide +kernel))) oa_nil))))) (wm_or1 (t_cmp (k_nin G) (ME.o (x_bi (b_len G) T.n_len PySem.boot_len (oa_cons (ov 0) oa_nil))) (ME.o (me_tup (am_cons me_int (am_cons me_int am_nil)))))))) (ssm_one (sm_ret me_bl)) ssm_nil)
    (ssm_cons (sm_if (t_cmp (k_eq G) (ME.o (x_bi (b_len G) T.n_len PySem.boot_len (oa_cons (ov 0) oa_nil))) (ME.o me_int)) (ssm_one (sm_ret (me_or (x_cmp (k_eq G) (ov 0) (ME.o (me_glob rfl T.g_NONE T.r_NONE T.t_NONE))) (me_one (x_cmp (k_eq G) (ov 0) (ME.o (me_glob rfl T.g_NOT T.r_NOT T.t_NOT))))))) ssm_nil)
    (ssm_cons (sm_unp (ev 0) (gm_tup G.calm (gsm_cons (gn G 1) (gsm_cons (gn G 2) gsm_nil)) rfl rfl G.K))
    (ssm_cons (sm_if (t_cmp (k_eq G) (ov 1) (ME.o (me_str (by decide +kernel)))) (ssm_one (sm_ret (x_bi (b_isi G) T.n_isinstance (by decide +kernel) (oa_cons (ov 2) (oa_cons (ME.o (x_tyv T.n_bool (by decide +kernel))) oa_nil))))) ssm_nil)
    (ssm_cons (sm_if (t_cmp (k_eq G) (ov 1) (ME.o (me_str (by decide +kernel)))) (ssm_one (sm_ret (x_fn G (ok_is_in T) hr (by omega) T.g_is_in T.k_is_in T.b_is_in (am_cons (ev 2) (am_cons (x_sub (ME.o me_int) (ME.o (me_glob rfl T.g_GREATEST T.r_GREATEST T.t_GREATEST))) (am_cons (me_glob rfl T.g_GREATEST T.r_GREATEST T.t_GREATEST) am_nil))) (al_cons (al_cons (al_cons al_nil)))))) ssm_nil)
    (ssm_one (sm_ret (me_and (x_cmp (k_eq G) (ov 1) (ME.o (me_str (by decide +kernel)))) (me_and (x_bi (b_isi G) T.n_isinstance (by decide +kernel) (oa_cons (ov 2) (oa_cons (ME.o (x_tyv T.n_str (by decide +kernel))) oa_nil))) (me_one (x_cmp (k_le G) (ME.o (x_bi (b_len G) T.n_len PySem.boot_len (oa_cons (ov 2) oa_nil))) (ME.o (me_glob rfl T.g_LONGEST T.r_LONGEST T.t_LONGEST)))))))))))))
theorem okg_is_bound (T : Tx w K mg) : ∀ d : Nat, FnOk P w K mg base (L2.CX P w) (3 + d) T.a_is_bound T.d_is_bound ["thing"] (spM K RXn 1 (m_is_bound d)) ∧ FnOk P w K mg base (L2.CX P w) (3 + d) T.a_is_worth T.d_is_worth ["thing"] (spM K RXn 1 (m_is_worth d))
  | 0 => ⟨by unfold m_is_bound; exact fn_none _ _, by unfold m_is_worth; exact fn_none _ _⟩
  | d + 1 => by
    obtain ⟨ih_is_bound, ih_is_worth⟩ := okg_is_bound T d
    refine ⟨?_, ?_⟩
    · unfold m_is_bound
      refine fn_okD (3 + d) T.f_is_bound sc_is_bound rxn_ok (fun cdv A outer s H Ex hr G hp => ?_)
      exact (ssm_cons (sm_if (WM.tm (wm_or (t_cmp (k_ne G) (ME.o (x_bi (b_len G) T.n_len PySem.boot_len (oa_cons (ov 0) oa_nil))) (ME.o me_int)) (wm_or (t_cmp (k_ne G) (ME.o (x_ix G (ov 0) (ME.o me_int))) (ME.o (me_str (by decide +kernel)))) (wm_or (tm_not (tm_val (x_fn G (ok_is_name T) hr (by omega) T.g_is_name T.k_is_name T.b_is_name (am_cons (x_ix G (ov 0) (ME.o me_int)) am_nil) (al_cons al_nil)))) (wm_or1 (tm_not (tm_val (x_fn G (ok_is_name T) hr (by omega) T.g_is_name T.k_is_name T.b_is_name (am_cons (x_ix G (ov 0) (ME.o me_int)) am_nil) (al_cons al_nil))))))))) (ssm_one (sm_ret me_bl)) ssm_nil)
    (ssm_one (sm_ret (me_and (x_fn G (ih_is_worth) hr (by omega) T.g_is_worth T.k_is_worth T.b_is_worth (am_cons (x_ix G (ov 0) (ME.o me_int)) am_nil) (al_cons al_nil)) (me_one (x_cmp (k_ne G) (ME.o (x_ix G (ME.o (x_ix G (ov 0) (ME.o me_int))) (ME.o me_int))) (ME.o (me_str (by decide +kernel)))))))))
    · unfold m_is_worth
      refine fn_okD (3 + d) T.f_is_worth sc_is_worth rxn_ok (fun cdv A outer s H Ex hr G hp => ?_)
      exact (ssm_cons (sm_if (WM.tm (wm_or (tm_not (tm_val (x_bi (b_isi G) T.n_isinstance (by decide +kernel) (oa_cons (ov 0) (oa_cons (ME.o (x_tyv T.n_tuple (by decide +kernel))) oa_nil))))) (wm_or1 (t_cmp (k_eq G) (ME.o (x_bi (b_len G) T.n_len PySem.boot_len (oa_cons (ov 0) oa_nil))) (ME.o me_int))))) (ssm_one (sm_ret me_bl)) ssm_nil)
    (ssm_cons (sm_if (WM.tm (wm_or (tm_val (x_fn G (ok_is_plain T) hr (by omega) T.g_is_plain T.k_is_plain T.b_is_plain (am_cons (ev 0) am_nil) (al_cons al_nil))) (wm_or1 (tm_val (x_fn G (ih_is_bound) hr (by omega) T.g_is_bound T.k_is_bound T.b_is_bound (am_cons (ev 0) am_nil) (al_cons al_nil)))))) (ssm_one (sm_ret me_bl)) ssm_nil)
    (ssm_cons (sm_if (WM.tm (wm_and (t_cmp (k_eq G) (ME.o (x_bi (b_len G) T.n_len PySem.boot_len (oa_cons (ov 0) oa_nil))) (ME.o me_int)) (wm_and1 (t_cmp (k_inTD G) (ME.o (x_ix G (ov 0) (ME.o me_int))) (ME.o (me_tup (am_cons (me_str (by decide +kernel)) (am_cons (me_str (by decide +kernel)) am_nil)))))))) (ssm_one (sm_ret (x_fn G (ok_is_name T) hr (by omega) T.g_is_name T.k_is_name T.b_is_name (am_cons (x_ix G (ov 0) (ME.o me_int)) am_nil) (al_cons al_nil)))) ssm_nil)
    (ssm_cons (sm_if (WM.tm (wm_and (t_cmp (k_eq G) (ME.o (x_bi (b_len G) T.n_len PySem.boot_len (oa_cons (ov 0) oa_nil))) (ME.o me_int)) (wm_and1 (t_cmp (k_eq G) (ME.o (x_ix G (ov 0) (ME.o me_int))) (ME.o (me_str (by decide +kernel))))))) (ssm_one (sm_ret (me_and (x_fn G (ok_is_whole T) hr (by omega) T.g_is_whole T.k_is_whole T.b_is_whole (am_cons (x_ix G (ov 0) (ME.o me_int)) am_nil) (al_cons al_nil)) (me_one (x_cmp (k_ge G) (ME.o (x_ix G (ov 0) (ME.o me_int))) (ME.o me_int)))))) ssm_nil)
    (ssm_cons (sm_if (WM.tm (wm_or (t_cmp (k_ne G) (ME.o (x_bi (b_len G) T.n_len PySem.boot_len (oa_cons (ov 0) oa_nil))) (ME.o me_int)) (wm_or1 (t_cmp (k_ne G) (ME.o (x_ix G (ov 0) (ME.o me_int))) (ME.o (me_str (by decide +kernel))))))) (ssm_one (sm_ret me_bl)) ssm_nil)
    (ssm_one (sm_ret (me_and (x_fn G (ok_is_name T) hr (by omega) T.g_is_name T.k_is_name T.b_is_name (am_cons (x_ix G (ov 0) (ME.o me_int)) am_nil) (al_cons al_nil)) (me_one (me_or (x_cmp (k_isN G) (ME.o (x_ix G (ov 0) (ME.o me_int))) (ME.o me_non)) (me_one (x_fn G (ok_is_name T) hr (by omega) T.g_is_name T.k_is_name T.b_is_name (am_cons (x_ix G (ov 0) (ME.o me_int)) am_nil) (al_cons al_nil)))))))))))))
theorem ok_is_bound (T : Tx w K mg) (d : Nat) : FnOk P w K mg base (L2.CX P w) (3 + d) T.a_is_bound T.d_is_bound ["thing"] (spM K RXn 1 (m_is_bound d)) := (okg_is_bound T d).1
theorem ok_is_worth (T : Tx w K mg) (d : Nat) : FnOk P w K mg base (L2.CX P w) (3 + d) T.a_is_worth T.d_is_worth ["thing"] (spM K RXn 1 (m_is_worth d)) := (okg_is_bound T d).2
theorem ok__law_blend (T : Tx w K mg) : FnOk P w K mg base (L2.CX P w) 1 T.a__law_blend T.d__law_blend ["cell", "at"] (spM K RXn 2 m__law_blend) := by
  refine fn_okD 0 T.f__law_blend sc__law_blend rxn_ok (fun cdv A outer s H Ex hr G hp => ?_)
  exact (ssm_cons (sm_if (t_cmp (k_ge G) (ov 0) (ME.o (x_pow (ME.o me_int) (ME.o me_int)))) (ssm_one (sm_ret (ev 0))) ssm_nil)
    (ssm_cons (s_set G 2 (x_mod (ME.o (x_add G (ME.o (x_add G (ME.o (x_mul (ME.o (x_mod (ov 0) (ME.o me_int))) (ME.o me_int))) (ME.o (x_mul (ov 1) (ME.o me_int))))) (ME.o me_int))) (ME.o me_int)))
    (ssm_cons (s_set G 3 (x_mod (ME.o (x_add G (ME.o (x_add G (ME.o (x_mul (ov 2) (ov 2))) (ME.o (x_mul (ov 1) (ME.o me_int))))) (ME.o (x_mod (ov 0) (ME.o me_int))))) (ME.o me_int)))
    (ssm_cons (s_set G 4 (x_mod (ME.o (x_add G (ME.o (x_add G (ME.o (x_mul (ov 3) (ov 3))) (ME.o (x_mul (ov 2) (ME.o me_int))))) (ME.o me_int))) (ME.o me_int)))
    (ssm_one (sm_ret (x_add G (ME.o (x_mul (ME.o (x_add G (ME.o (x_mul (ov 2) (ME.o me_int))) (ov 3))) (ME.o me_int))) (ov 4))))))))
theorem ok__law_pot (T : Tx w K mg) : FnOk P w K mg base (L2.CX P w) 1 T.a__law_pot T.d__law_pot ["script"] (spM K RXn 1 m__law_pot) := by
  refine fn_okD 0 T.f__law_pot sc__law_pot rxn_ok (fun cdv A outer s H Ex hr G hp => ?_)
  exact (ssm_cons (s_own G 1 (x_list G T.n_list (oa_cons (ME.o (me_sliceU G.K (ov 0) pm_no (pm_some me_int))) oa_nil)))
    (ssm_cons (s_for G hp (im_enumX G.K rfl T.n_enumerate (am_cons (me_sliceU G.K (ov 0) (pm_some me_int) (pm_some me_int)) am_nil)) (gm_tup G.calm (gsm_cons (gn G 2) (gsm_cons (gn G 3) gsm_nil)) rfl rfl G.K) (ssm_one (sm_setIx (lv 1) (x_mod (ov 2) (ME.o me_int)) (x_add G (ME.o (x_ix G (ov 1) (ME.o (x_mod (ov 2) (ME.o me_int))))) (ov 3)))))
    (ssm_one (sm_ret (FE.box (fe_lst (am_cons (fv 1) (am_cons me_int (am_cons me_int am_nil)))))))))
theorem ok__law_pick (T : Tx w K mg) : FnOk P w K mg base (L2.CX P w) 2 T.a__law_pick T.d__law_pick ["pot", "many"] (spM K RXn 2 m__law_pick) := by
  refine fn_okD 1 T.f__law_pick sc__law_pick rxn_ok (fun cdv A outer s H Ex hr G hp => ?_)
  exact (ssm_cons (sm_if (t_cmp (k_lt G) (ME.o (x_ix G (ov 0) (ME.o me_int))) (ov 1)) (ssm_cons (s_set G 2 (x_ix G (ov 0) (ME.o me_int)))
    (ssm_cons (s_set G 3 (x_mul (ME.o me_int) (ov 2)))
    (ssm_cons (sm_if (t_cmp (k_lt G) (ov 2) (ME.o (x_bi (b_len G) T.n_len PySem.boot_len (oa_cons (ME.o (x_ix G (ov 0) (ME.o me_int))) oa_nil)))) (ssm_one (s_set G 3 (x_ix G (ME.o (x_ix G (ov 0) (ME.o me_int))) (ov 2)))) (ssm_one (sm_if (t_cmp (k_ne G) (ME.o (x_ix G (ov 0) (ME.o me_int))) (ME.o (FE.fz (fe_lst am_nil)))) (ssm_one (s_set G 3 (x_mod (ME.o (x_ix G (ME.o (x_ix G (ov 0) (ME.o me_int))) (ME.o (x_mod (ME.o (x_add G (ME.o (x_mul (ov 2) (ME.o me_int))) (ME.o me_int))) (ME.o (x_bi (b_len G) T.n_len PySem.boot_len (oa_cons (ME.o (x_ix G (ov 0) (ME.o me_int))) oa_nil))))))) (ME.o (x_add G (ME.o (x_pow (ME.o me_int) (ME.o me_int))) (ME.o (x_mul (ME.o me_int) (ov 2)))))))) ssm_nil)))
    (ssm_cons (sm_setIx (lv 0) me_int (x_add G (ov 2) (ME.o me_int)))
    (ssm_one (sm_setIx (lv 0) me_int (x_fn G (ok__law_blend T) hr (by omega) T.g__law_blend T.k__law_blend T.b__law_blend (am_cons (ev 3) (am_cons (ev 2) am_nil)) (al_cons (al_cons al_nil))))))))) ssm_nil)
    (ssm_cons (s_set G 4 (x_mod (ME.o (x_ix G (ov 0) (ME.o me_int))) (ov 1)))
    (ssm_cons (sm_setIx (lv 0) me_int (x_div (ME.o (x_ix G (ov 0) (ME.o me_int))) (ov 1)))
    (ssm_one (sm_ret (ev 4))))))
theorem ok__law_same (T : Tx w K mg) : ∀ d : Nat, FnOk P w K mg base (L2.CX P w) (0 + d) T.a__law_same T.d__law_same ["found", "due"] (spM K RXn 2 (m__law_same d))
  | 0 => fn_none _ _
  | d + 1 => by
    have ih__law_same := ok__law_same T d
    refine fn_okD (0 + d) T.f__law_same sc__law_same rxn_ok (fun cdv A outer s H Ex hr G hp => ?_)
    exact (ssm_cons (sm_if (WM.tm (wm_or (t_cmp (k_isN G) (ov 1) (ME.o me_non)) (wm_or1 (tm_val (x_bi (b_isi G) T.n_isinstance (by decide +kernel) (oa_cons (ov 1) (oa_cons (ME.o (x_tyv T.n_bool (by decide +kernel))) oa_nil))))))) (ssm_one (sm_ret (me_and (x_cmp (k_eq G) (ME.o (x_bi (b_isi G) T.n_isinstance (by decide +kernel) (oa_cons (ov 0) (oa_cons (ME.o (x_tyv T.n_bool (by decide +kernel))) oa_nil)))) (ME.o (x_bi (b_isi G) T.n_isinstance (by decide +kernel) (oa_cons (ov 1) (oa_cons (ME.o (x_tyv T.n_bool (by decide +kernel))) oa_nil))))) (me_one (x_cmp (k_eq G) (ov 0) (ov 1)))))) ssm_nil)
    (ssm_cons (sm_if (tm_val (x_bi (b_isi G) T.n_isinstance (by decide +kernel) (oa_cons (ov 1) (oa_cons (ME.o (x_tyv T.n_str (by decide +kernel))) oa_nil)))) (ssm_one (sm_ret (me_and (x_bi (b_isi G) T.n_isinstance (by decide +kernel) (oa_cons (ov 0) (oa_cons (ME.o (x_tyv T.n_str (by decide +kernel))) oa_nil))) (me_one (x_cmp (k_eq G) (ov 0) (ov 1)))))) ssm_nil)
    (ssm_cons (sm_if (tm_val (x_bi (b_isi G) T.n_isinstance (by decide +kernel) (oa_cons (ov 1) (oa_cons (ME.o (x_tyv T.n_int (by decide +kernel))) oa_nil)))) (ssm_one (sm_ret (me_and (x_bi (b_isi G) T.n_isinstance (by decide +kernel) (oa_cons (ov 0) (oa_cons (ME.o (x_tyv T.n_int (by decide +kernel))) oa_nil))) (me_and (me_not (x_bi (b_isi G) T.n_isinstance (by decide +kernel) (oa_cons (ov 0) (oa_cons (ME.o (x_tyv T.n_bool (by decide +kernel))) oa_nil)))) (me_one (x_cmp (k_eq G) (ov 0) (ov 1))))))) ssm_nil)
    (ssm_cons (sm_if (WM.tm (wm_or (t_cmp (k_ne G) (ME.o (x_bi (b_isi G) T.n_isinstance (by decide +kernel) (oa_cons (ov 1) (oa_cons (ME.o (x_tyv T.n_tuple (by decide +kernel))) oa_nil)))) (ME.o (x_bi (b_isi G) T.n_isinstance (by decide +kernel) (oa_cons (ov 0) (oa_cons (ME.o (x_tyv T.n_tuple (by decide +kernel))) oa_nil))))) (wm_or1 (t_cmp (k_ne G) (ME.o (x_bi (b_isi G) T.n_isinstance (by decide +kernel) (oa_cons (ov 1) (oa_cons (ME.o (x_tyv T.n_list (by decide +kernel))) oa_nil)))) (ME.o (x_bi (b_isi G) T.n_isinstance (by decide +kernel) (oa_cons (ov 0) (oa_cons (ME.o (x_tyv T.n_list (by decide +kernel))) oa_nil)))))))) (ssm_one (sm_ret me_bl)) ssm_nil)
    (ssm_one (sm_ret (me_and (x_cmp (k_eq G) (ME.o (x_bi (b_len G) T.n_len PySem.boot_len (oa_cons (ov 0) oa_nil))) (ME.o (x_bi (b_len G) T.n_len PySem.boot_len (oa_cons (ov 1) oa_nil)))) (me_one (x_bi (b_all G) T.n_all (by decide +kernel) (oa_cons (ME.o (FE.fz (x_comp G [] [("one", 2), ("other", 3)] (im_zipU G.K rfl T.n_zip (am_cons (ev 0) (am_cons (ev 1) am_nil))) (fun _ _ _ _ _ => (gm_tup G.blk.calm (gsm_cons (gn G.blk 2) (gsm_cons (gn G.blk 3) gsm_nil)) rfl rfl G.blk.K)) (fun _ _ _ _ _ => qm_nil) (fun _ _ _ _ _ => (x_fn G.blk (ih__law_same) hr (by omega) T.g__law_same T.k__law_same T.b__law_same (am_cons (ev 2) (am_cons (ev 3) am_nil)) (al_cons (al_cons al_nil)))) (blkOk_by (N := N__law_same) (sc := defScope s__law_same) (by decide +kernel))))) oa_nil))))))))))
theorem ok__law_order (T : Tx w K mg) : FnOk P w K mg base (L2.CX P w) 3 T.a__law_order T.d__law_order ["pot", "many"] (spM K RXn 2 m__law_order) := by
  refine fn_okD 2 T.f__law_order sc__law_order rxn_ok (fun cdv A outer s H Ex hr G hp => ?_)
  exact (ssm_cons (s_own G 2 (fe_lst am_nil))
    (ssm_cons (s_for G hp (im_range rfl T.n_range (am_cons (ev 1) am_nil)) (gn G 3) (ssm_one (sm_expr (x_insert G (lv 2) (x_fn G (ok__law_pick T) hr (by omega) T.g__law_pick T.k__law_pick T.b__law_pick (am_cons (ev 0) (am_cons (x_add G (ov 3) (ME.o me_int)) am_nil)) (al_cons (al_cons al_nil))) (ev 3)))))
    (ssm_one (sm_ret (fv 2)))))
theorem ok__law_letters (T : Tx w K mg) : FnOk P w K mg base (L2.CX P w) 3 T.a__law_letters T.d__law_letters ["pot", "many"] (spM K RXn 2 m__law_letters) := by
  refine fn_okD 2 T.f__law_letters sc__law_letters rxn_ok (fun cdv A outer s H Ex hr G hp => ?_)
  exact (ssm_cons (s_set G 2 (me_str (by decide +kernel)))
    (ssm_cons (s_set G 3 (x_join G (ME.o (me_str (by decide +kernel))) (FE.fz (x_comp G [] [("k", 4)] (im_range rfl T.n_range (am_cons me_int am_nil)) (fun _ _ _ _ _ => (gn G.blk 4)) (fun _ _ _ _ _ => qm_nil) (fun _ _ _ _ _ => (x_ix G.blk (ov 2) (ME.o (x_fn G.blk (ok__law_pick T) hr (by omega) T.g__law_pick T.k__law_pick T.b__law_pick (am_cons (ev 0) (am_cons me_int am_nil)) (al_cons (al_cons al_nil)))))) (blkOk_by (N := N__law_letters) (sc := defScope s__law_letters) (by decide +kernel))))))
    (ssm_cons (s_set G 5 (x_fn G (ok__law_pick T) hr (by omega) T.g__law_pick T.k__law_pick T.b__law_pick (am_cons (ev 0) (am_cons me_int am_nil)) (al_cons (al_cons al_nil))))
    (ssm_cons (s_set G 6 (x_fn G (ok__law_pick T) hr (by omega) T.g__law_pick T.k__law_pick T.b__law_pick (am_cons (ev 0) (am_cons me_int am_nil)) (al_cons (al_cons al_nil))))
    (ssm_cons (s_set G 7 (x_fn G (ok__law_pick T) hr (by omega) T.g__law_pick T.k__law_pick T.b__law_pick (am_cons (ev 0) (am_cons me_int am_nil)) (al_cons (al_cons al_nil))))
    (ssm_cons (s_own G 8 (fe_lst am_nil))
    (ssm_cons (s_for G hp (im_range rfl T.n_range (am_cons (ev 1) am_nil)) (gn G 4) (ssm_cons (s_set G 9 (me_sliceU G.K (ov 3) pm_no (pm_some (x_mod (ME.o (x_add G (ov 7) (ME.o (x_mul (ov 4) (ME.o (x_mod (ov 5) (ME.o me_int))))))) (ME.o me_int)))))
    (ssm_cons (s_set G 10 (x_ix G (ME.o (FE.fz (fe_lst (am_cons me_int (am_cons (x_bi (b_len G) T.n_len PySem.boot_len (oa_cons (ov 9) oa_nil)) (am_cons (x_div (ME.o (x_bi (b_len G) T.n_len PySem.boot_len (oa_cons (ov 9) oa_nil))) (ME.o me_int)) am_nil)))))) (ov 5)))
    (ssm_one (sm_expr (x_append G (lv 8) (x_add G (ME.o (x_add G (ME.o (me_sliceU G.K (ov 9) pm_no (pm_some (ev 10)))) (ME.o (x_ix G (ov 2) (ME.o (x_mod (ME.o (x_add G (ov 6) (ME.o (x_mul (ME.o me_int) (ov 4))))) (ME.o me_int))))))) (ME.o (me_sliceU G.K (ov 9) (pm_some (ev 10)) pm_no)))))))))
    (ssm_one (sm_ret (fv 8))))))))))
theorem ok__law_names (T : Tx w K mg) : FnOk P w K mg base (L2.CX P w) 4 T.a__law_names T.d__law_names ["pot", "many"] (spM K RXn 2 m__law_names) := by
  refine fn_okD 3 T.f__law_names sc__law_names rxn_ok (fun cdv A outer s H Ex hr G hp => ?_)
  exact (ssm_cons (s_set G 2 (x_fn G (ok__law_pick T) hr (by omega) T.g__law_pick T.k__law_pick T.b__law_pick (am_cons (ev 0) (am_cons me_int am_nil)) (al_cons (al_cons al_nil))))
    (ssm_cons (s_set G 3 (x_fn G (ok__law_pick T) hr (by omega) T.g__law_pick T.k__law_pick T.b__law_pick (am_cons (ev 0) (am_cons me_int am_nil)) (al_cons (al_cons al_nil))))
    (ssm_cons (s_set G 4 (me_str (by decide +kernel)))
    (ssm_cons (sm_if (t_cmp (k_eq G) (ov 2) (ME.o me_int)) (ssm_one (s_set G 5 (FE.fz (x_comp G [] [("k", 6)] (im_range rfl T.n_range (am_cons (ev 1) am_nil)) (fun _ _ _ _ _ => (gn G.blk 6)) (fun _ _ _ _ _ => qm_nil) (fun _ _ _ _ _ => (x_mul (ME.o (x_ix G.blk (ov 4) (ME.o (x_mod (ME.o (x_add G.blk (ov 3) (ME.o (x_div (ov 6) (ME.o me_int))))) (ME.o me_int))))) (ME.o (x_add G.blk (ME.o me_int) (ME.o (x_mod (ov 6) (ME.o me_int))))))) (blkOk_by (N := N__law_names) (sc := defScope s__law_names) (by decide +kernel)))))) (ssm_one (s_set G 5 (x_fn G (ok__law_letters T) hr (by omega) T.g__law_letters T.k__law_letters T.b__law_letters (am_cons (ev 0) (am_cons (ev 1) am_nil)) (al_cons (al_cons al_nil))))))
    (ssm_one (sm_ret (FE.fz (x_comp G [] [("k", 6)] (im_u G.K (x_fn G (ok__law_order T) hr (by omega) T.g__law_order T.k__law_order T.b__law_order (am_cons (ev 0) (am_cons (ev 1) am_nil)) (al_cons (al_cons al_nil)))) (fun _ _ _ _ _ => (gn G.blk 6)) (fun _ _ _ _ _ => qm_nil) (fun _ _ _ _ _ => (x_ix G.blk (ov 5) (ov 6))) (blkOk_by (N := N__law_names) (sc := defScope s__law_names) (by decide +kernel))))))))))
theorem ok__law_text (T : Tx w K mg) : FnOk P w K mg base (L2.CX P w) 3 T.a__law_text T.d__law_text ["pot", "most"] (spM K RXn 2 m__law_text) := by
  refine fn_okD 2 T.f__law_text sc__law_text rxn_ok (fun cdv A outer s H Ex hr G hp => ?_)
  exact (ssm_cons (s_set G 2 (me_str (by decide +kernel)))
    (ssm_one (sm_ret (x_join G (ME.o (me_str (by decide +kernel))) (FE.fz (x_comp G [] [("k", 3)] (im_range rfl T.n_range (am_cons (x_fn G (ok__law_pick T) hr (by omega) T.g__law_pick T.k__law_pick T.b__law_pick (am_cons (ev 0) (am_cons (x_add G (ov 1) (ME.o me_int)) am_nil)) (al_cons (al_cons al_nil))) am_nil)) (fun _ _ _ _ _ => (gn G.blk 3)) (fun _ _ _ _ _ => qm_nil) (fun _ _ _ _ _ => (x_ix G.blk (ov 2) (ME.o (x_fn G.blk (ok__law_pick T) hr (by omega) T.g__law_pick T.k__law_pick T.b__law_pick (am_cons (ev 0) (am_cons (x_bi (b_len G.blk) T.n_len PySem.boot_len (oa_cons (ov 2) oa_nil)) am_nil)) (al_cons (al_cons al_nil)))))) (blkOk_by (N := N__law_text) (sc := defScope s__law_text) (by decide +kernel))))))))
theorem ok__law_plain_worth (T : Tx w K mg) : FnOk P w K mg base (L2.CX P w) 4 T.a__law_plain_worth T.d__law_plain_worth ["pot", "way"] (spM K RXn 2 m__law_plain_worth) := by
  refine fn_okD 3 T.f__law_plain_worth sc__law_plain_worth rxn_ok (fun cdv A outer s H Ex hr G hp => ?_)
  exact (ssm_cons (sm_if (t_cmp (k_eq G) (ov 1) (ME.o me_int)) (ssm_one (sm_ret (x_ix G (ME.o (FE.fz (fe_lst (am_cons (me_tup (am_cons (me_str (by decide +kernel)) am_nil)) (am_cons (me_tup (am_cons (me_str (by decide +kernel)) am_nil)) am_nil))))) (ME.o (x_fn G (ok__law_pick T) hr (by omega) T.g__law_pick T.k__law_pick T.b__law_pick (am_cons (ev 0) (am_cons me_int am_nil)) (al_cons (al_cons al_nil))))))) ssm_nil)
    (ssm_cons (sm_if (t_cmp (k_eq G) (ov 1) (ME.o me_int)) (ssm_one (sm_ret (me_tup (am_cons (me_str (by decide +kernel)) (am_cons (x_cmp (k_eq G) (ME.o (x_fn G (ok__law_pick T) hr (by omega) T.g__law_pick T.k__law_pick T.b__law_pick (am_cons (ev 0) (am_cons me_int am_nil)) (al_cons (al_cons al_nil)))) (ME.o me_int)) am_nil))))) ssm_nil)
    (ssm_cons (sm_if (t_cmp (k_eq G) (ov 1) (ME.o me_int)) (ssm_cons (s_set G 2 (FE.fz (fe_lst (am_cons me_int (am_cons me_int (am_cons (me_neg me_int) (am_cons (x_pow (ME.o me_int) (ME.o me_int)) (am_cons (me_neg (x_pow (ME.o me_int) (ME.o me_int))) (am_cons (x_sub (ME.o (x_fn G (ok__law_pick T) hr (by omega) T.g__law_pick T.k__law_pick T.b__law_pick (am_cons (ev 0) (am_cons (x_add G (ME.o (x_mul (ME.o me_int) (ME.o (x_pow (ME.o me_int) (ME.o me_int))))) (ME.o me_int)) am_nil)) (al_cons (al_cons al_nil)))) (ME.o (x_pow (ME.o me_int) (ME.o me_int)))) am_nil)))))))))
    (ssm_one (sm_ret (me_tup (am_cons (me_str (by decide +kernel)) (am_cons (x_ix G (ov 2) (ME.o (x_fn G (ok__law_pick T) hr (by omega) T.g__law_pick T.k__law_pick T.b__law_pick (am_cons (ev 0) (am_cons me_int am_nil)) (al_cons (al_cons al_nil))))) am_nil)))))) ssm_nil)
    (ssm_one (sm_ret (me_tup (am_cons (me_str (by decide +kernel)) (am_cons (x_ix G (ME.o (FE.fz (fe_lst (am_cons (me_str (by decide +kernel)) (am_cons (x_mul (ME.o (me_str (by decide +kernel))) (ME.o me_int)) (am_cons (x_fn G (ok__law_text T) hr (by omega) T.g__law_text T.k__law_text T.b__law_text (am_cons (ev 0) (am_cons me_int am_nil)) (al_cons (al_cons al_nil))) am_nil)))))) (ME.o (x_fn G (ok__law_pick T) hr (by omega) T.g__law_pick T.k__law_pick T.b__law_pick (am_cons (ev 0) (am_cons me_int am_nil)) (al_cons (al_cons al_nil))))) am_nil))))))))
theorem ok__law_worth (T : Tx w K mg) : ∀ d : Nat, FnOk P w K mg base (L2.CX P w) (4 + d) T.a__law_worth T.d__law_worth ["pot", "names", "bound"] (spM K RXn 3 (m__law_worth d))
  | 0 => fn_none _ _
  | d + 1 => by
    have ih__law_worth := ok__law_worth T d
    refine fn_okD (4 + d) T.f__law_worth sc__law_worth rxn_ok (fun cdv A outer s H Ex hr G hp => ?_)
    exact (ssm_cons (s_set G 3 (x_fn G (ok__law_pick T) hr (by omega) T.g__law_pick T.k__law_pick T.b__law_pick (am_cons (ev 0) (am_cons (x_add G (ME.o me_int) (ME.o (x_ty (b_int G) T.n_int (by decide +kernel) (oa_cons (ov 2) oa_nil)))) am_nil)) (al_cons (al_cons al_nil))))
    (ssm_cons (sm_if (t_cmp (k_lt G) (ov 3) (ME.o me_int)) (ssm_one (sm_ret (x_fn G (ok__law_plain_worth T) hr (by omega) T.g__law_plain_worth T.k__law_plain_worth T.b__law_plain_worth (am_cons (ev 0) (am_cons (ev 3) am_nil)) (al_cons (al_cons al_nil))))) ssm_nil)
    (ssm_cons (s_set G 4 (x_ix G (ov 1) (ME.o (x_fn G (ok__law_pick T) hr (by omega) T.g__law_pick T.k__law_pick T.b__law_pick (am_cons (ev 0) (am_cons (x_bi (b_len G) T.n_len PySem.boot_len (oa_cons (ov 1) oa_nil)) am_nil)) (al_cons (al_cons al_nil))))))
    (ssm_cons (sm_if (t_cmp (k_lt G) (ov 3) (ME.o me_int)) (ssm_one (sm_ret (me_tup (am_cons (x_ix G (ME.o (FE.fz (fe_lst (am_cons (me_str (by decide +kernel)) (am_cons (me_str (by decide +kernel)) am_nil))))) (ME.o (x_sub (ov 3) (ME.o me_int)))) (am_cons (ev 4) am_nil))))) ssm_nil)
    (ssm_cons (sm_if (t_cmp (k_eq G) (ov 3) (ME.o me_int)) (ssm_one (sm_ret (me_tup (am_cons (me_str (by decide +kernel)) (am_cons (x_ix G (ME.o (FE.fz (fe_lst (am_cons me_int (am_cons me_int (am_cons (x_fn G (ok__law_pick T) hr (by omega) T.g__law_pick T.k__law_pick T.b__law_pick (am_cons (ev 0) (am_cons me_int am_nil)) (al_cons (al_cons al_nil))) (am_cons (x_fn G (ok__law_pick T) hr (by omega) T.g__law_pick T.k__law_pick T.b__law_pick (am_cons (ev 0) (am_cons (x_pow (ME.o me_int) (ME.o me_int)) am_nil)) (al_cons (al_cons al_nil))) am_nil))))))) (ME.o (x_fn G (ok__law_pick T) hr (by omega) T.g__law_pick T.k__law_pick T.b__law_pick (am_cons (ev 0) (am_cons me_int am_nil)) (al_cons (al_cons al_nil))))) am_nil))))) ssm_nil)
    (ssm_cons (s_set G 5 (x_ix G (ov 1) (ME.o (x_fn G (ok__law_pick T) hr (by omega) T.g__law_pick T.k__law_pick T.b__law_pick (am_cons (ev 0) (am_cons (x_bi (b_len G) T.n_len PySem.boot_len (oa_cons (ov 1) oa_nil)) am_nil)) (al_cons (al_cons al_nil))))))
    (ssm_cons (sm_if (t_cmp (k_eq G) (ov 3) (ME.o me_int)) (ssm_one (sm_ret (me_tup (am_cons (me_str (by decide +kernel)) (am_cons (ev 4) (am_cons (x_ix G (ME.o (FE.fz (fe_lst (am_cons me_non (am_cons (ev 5) am_nil))))) (ME.o (x_fn G (ok__law_pick T) hr (by omega) T.g__law_pick T.k__law_pick T.b__law_pick (am_cons (ev 0) (am_cons me_int am_nil)) (al_cons (al_cons al_nil))))) am_nil)))))) ssm_nil)
    (ssm_one (sm_ret (me_tup (am_cons (me_str (by decide +kernel)) (am_cons (ev 4) (am_cons (ev 5) (am_cons (x_fn G (ih__law_worth) hr (by omega) T.g__law_worth T.k__law_worth T.b__law_worth (am_cons (ev 0) (am_cons (ev 1) (am_cons me_bl am_nil))) (al_cons (al_cons (al_cons al_nil)))) am_nil))))))))))))))
theorem ok__law_is_name (T : Tx w K mg) : FnOk P w K mg base (L2.CX P w) 1 T.a__law_is_name T.d__law_is_name ["thing"] (spM K RXn 1 m__law_is_name) := by
  refine fn_okD 0 T.f__law_is_name sc__law_is_name rxn_ok (fun cdv A outer s H Ex hr G hp => ?_)
  exact (ssm_cons (sm_if (WM.tm (wm_or (tm_not (tm_val (x_bi (b_isi G) T.n_isinstance (by decide +kernel) (oa_cons (ov 0) (oa_cons (ME.o (x_tyv T.n_str (by decide +kernel))) oa_nil))))) (wm_or1 (tm_not (t_chain (k_lt G) (k_lt G) (ME.o me_int) (ME.o (x_bi (b_len G) T.n_len PySem.boot_len (oa_cons (ov 0) oa_nil))) (ME.o me_int)))))) (ssm_one (sm_ret me_bl)) ssm_nil)
    (ssm_one (sm_ret (x_cmp (k_eq G) (ME.o (FE.fz (x_comp G [] [("sign", 1)] (im_u G.K (ev 0)) (fun _ _ _ _ _ => (gn G.blk 1)) (fun _ _ _ _ _ => (qm_one (t_cmp (k_nin G.blk) (ov 1) (ME.o (me_str (by decide +kernel)))))) (fun _ _ _ _ _ => (ev 1)) (blkOk_by (N := N__law_is_name) (sc := defScope s__law_is_name) (by decide +kernel))))) (ME.o (FE.fz (fe_lst am_nil)))))))
theorem ok__law_is_plain (T : Tx w K mg) : FnOk P w K mg base (L2.CX P w) 1 T.a__law_is_plain T.d__law_is_plain ["thing"] (spM K RXn 1 m__law_is_plain) := by
  refine fn_okD 0 T.f__law_is_plain sc__law_is_plain rxn_ok (fun cdv A outer s H Ex hr G hp => ?_)
  exact (ssm_cons (sm_if (WM.tm (wm_or (tm_not (tm_val (x_bi (b_isi G) T.n_isinstance (by decide +kernel) (oa_cons (ov 0) (oa_cons (ME.o (x_tyv T.n_tuple (by decide +kernel))) oa_nil))))) (wm_or (t_cmp (k_nin G) (ME.o (x_bi (b_len G) T.n_len PySem.boot_len (oa_cons (ov 0) oa_nil))) (ME.o (me_tup (am_cons me_int (am_cons me_int am_nil))))) (wm_or1 (tm_not (tm_val (x_bi (b_isi G) T.n_isinstance (by decide +kernel) (oa_cons (ME.o (x_ix G (ov 0) (ME.o me_int))) (oa_cons (ME.o (x_tyv T.n_str (by decide +kernel))) oa_nil))))))))) (ssm_one (sm_ret me_bl)) ssm_nil)
    (ssm_cons (sm_if (t_cmp (k_eq G) (ME.o (x_bi (b_len G) T.n_len PySem.boot_len (oa_cons (ov 0) oa_nil))) (ME.o me_int)) (ssm_one (sm_ret (x_cmp (k_inTD G) (ME.o (x_ix G (ov 0) (ME.o me_int))) (ME.o (me_tup (am_cons (me_str (by decide +kernel)) (am_cons (me_str (by decide +kernel)) am_nil))))))) ssm_nil)
    (ssm_cons (sm_if (t_cmp (k_eq G) (ME.o (x_ix G (ov 0) (ME.o me_int))) (ME.o (me_str (by decide +kernel)))) (ssm_one (sm_ret (x_bi (b_isi G) T.n_isinstance (by decide +kernel) (oa_cons (ME.o (x_ix G (ov 0) (ME.o me_int))) (oa_cons (ME.o (x_tyv T.n_bool (by decide +kernel))) oa_nil))))) ssm_nil)
    (ssm_cons (sm_if (t_cmp (k_eq G) (ME.o (x_ix G (ov 0) (ME.o me_int))) (ME.o (me_str (by decide +kernel)))) (ssm_cons (s_set G 1 (me_and (x_bi (b_isi G) T.n_isinstance (by decide +kernel) (oa_cons (ME.o (x_ix G (ov 0) (ME.o me_int))) (oa_cons (ME.o (x_tyv T.n_int (by decide +kernel))) oa_nil))) (me_one (me_not (x_bi (b_isi G) T.n_isinstance (by decide +kernel) (oa_cons (ME.o (x_ix G (ov 0) (ME.o me_int))) (oa_cons (ME.o (x_tyv T.n_bool (by decide +kernel))) oa_nil)))))))
    (ssm_one (sm_ret (me_and (ev 1) (me_one (x_chain (k_le G) (k_le G) (ME.o (x_sub (ME.o me_int) (ME.o (x_pow (ME.o me_int) (ME.o me_int))))) (ME.o (x_ix G (ov 0) (ME.o me_int))) (ME.o (x_pow (ME.o me_int) (ME.o me_int))))))))) ssm_nil)
    (ssm_one (sm_ret (me_and (x_cmp (k_eq G) (ME.o (x_ix G (ov 0) (ME.o me_int))) (ME.o (me_str (by decide +kernel)))) (me_and (x_bi (b_isi G) T.n_isinstance (by decide +kernel) (oa_cons (ME.o (x_ix G (ov 0) (ME.o me_int))) (oa_cons (ME.o (x_tyv T.n_str (by decide +kernel))) oa_nil))) (me_one (x_cmp (k_lt G) (ME.o (x_bi (b_len G) T.n_len PySem.boot_len (oa_cons (ME.o (x_ix G (ov 0) (ME.o me_int))) oa_nil))) (ME.o me_int)))))))))))
theorem ok__law_is_worth (T : Tx w K mg) : ∀ d : Nat, FnOk P w K mg base (L2.CX P w) (1 + d) T.a__law_is_worth T.d__law_is_worth ["thing"] (spM K RXn 1 (m__law_is_worth d))
  | 0 => fn_none _ _
  | d + 1 => by
    have ih__law_is_worth := ok__law_is_worth T d
    refine fn_okD (1 + d) T.f__law_is_worth sc__law_is_worth rxn_ok (fun cdv A outer s H Ex hr G hp => ?_)
    exact (ssm_cons (sm_if (tm_val (x_fn G (ok__law_is_plain T) hr (by omega) T.g__law_is_plain T.k__law_is_plain T.b__law_is_plain (am_cons (ev 0) am_nil) (al_cons al_nil))) (ssm_one (sm_ret me_bl)) ssm_nil)
    (ssm_cons (sm_if (WM.tm (wm_or (tm_not (tm_val (x_bi (b_isi G) T.n_isinstance (by decide +kernel) (oa_cons (ov 0) (oa_cons (ME.o (x_tyv T.n_tuple (by decide +kernel))) oa_nil))))) (wm_or (t_cmp (k_lt G) (ME.o (x_bi (b_len G) T.n_len PySem.boot_len (oa_cons (ov 0) oa_nil))) (ME.o me_int)) (wm_or1 (tm_not (tm_val (x_bi (b_isi G) T.n_isinstance (by decide +kernel) (oa_cons (ME.o (x_ix G (ov 0) (ME.o me_int))) (oa_cons (ME.o (x_tyv T.n_str (by decide +kernel))) oa_nil))))))))) (ssm_one (sm_ret me_bl)) ssm_nil)
    (ssm_cons (sm_if (WM.tm (wm_and (t_cmp (k_eq G) (ME.o (x_bi (b_len G) T.n_len PySem.boot_len (oa_cons (ov 0) oa_nil))) (ME.o me_int)) (wm_and1 (t_cmp (k_inTD G) (ME.o (x_ix G (ov 0) (ME.o me_int))) (ME.o (me_tup (am_cons (me_str (by decide +kernel)) (am_cons (me_str (by decide +kernel)) am_nil)))))))) (ssm_one (sm_ret (x_fn G (ok__law_is_name T) hr (by omega) T.g__law_is_name T.k__law_is_name T.b__law_is_name (am_cons (x_ix G (ov 0) (ME.o me_int)) am_nil) (al_cons al_nil)))) ssm_nil)
    (ssm_cons (sm_if (WM.tm (wm_and (t_cmp (k_eq G) (ME.o (x_bi (b_len G) T.n_len PySem.boot_len (oa_cons (ov 0) oa_nil))) (ME.o me_int)) (wm_and1 (t_cmp (k_eq G) (ME.o (x_ix G (ov 0) (ME.o me_int))) (ME.o (me_str (by decide +kernel))))))) (ssm_one (sm_ret (me_and (x_bi (b_isi G) T.n_isinstance (by decide +kernel) (oa_cons (ME.o (x_ix G (ov 0) (ME.o me_int))) (oa_cons (ME.o (x_tyv T.n_int (by decide +kernel))) oa_nil))) (me_and (me_not (x_bi (b_isi G) T.n_isinstance (by decide +kernel) (oa_cons (ME.o (x_ix G (ov 0) (ME.o me_int))) (oa_cons (ME.o (x_tyv T.n_bool (by decide +kernel))) oa_nil)))) (me_one (x_cmp (k_ge G) (ME.o (x_ix G (ov 0) (ME.o me_int))) (ME.o me_int))))))) ssm_nil)
    (ssm_cons (sm_if (WM.tm (wm_and (t_cmp (k_eq G) (ME.o (x_bi (b_len G) T.n_len PySem.boot_len (oa_cons (ov 0) oa_nil))) (ME.o me_int)) (wm_and1 (t_cmp (k_eq G) (ME.o (x_ix G (ov 0) (ME.o me_int))) (ME.o (me_str (by decide +kernel))))))) (ssm_one (sm_ret (me_and (x_fn G (ok__law_is_name T) hr (by omega) T.g__law_is_name T.k__law_is_name T.b__law_is_name (am_cons (x_ix G (ov 0) (ME.o me_int)) am_nil) (al_cons al_nil)) (me_one (me_or (x_cmp (k_isN G) (ME.o (x_ix G (ov 0) (ME.o me_int))) (ME.o me_non)) (me_one (x_fn G (ok__law_is_name T) hr (by omega) T.g__law_is_name T.k__law_is_name T.b__law_is_name (am_cons (x_ix G (ov 0) (ME.o me_int)) am_nil) (al_cons al_nil)))))))) ssm_nil)
    (ssm_cons (sm_if (WM.tm (wm_or (t_cmp (k_ne G) (ME.o (x_bi (b_len G) T.n_len PySem.boot_len (oa_cons (ov 0) oa_nil))) (ME.o me_int)) (wm_or (t_cmp (k_ne G) (ME.o (x_ix G (ov 0) (ME.o me_int))) (ME.o (me_str (by decide +kernel)))) (wm_or (tm_not (tm_val (x_fn G (ok__law_is_name T) hr (by omega) T.g__law_is_name T.k__law_is_name T.b__law_is_name (am_cons (x_ix G (ov 0) (ME.o me_int)) am_nil) (al_cons al_nil)))) (wm_or1 (tm_not (tm_val (x_fn G (ok__law_is_name T) hr (by omega) T.g__law_is_name T.k__law_is_name T.b__law_is_name (am_cons (x_ix G (ov 0) (ME.o me_int)) am_nil) (al_cons al_nil))))))))) (ssm_one (sm_ret me_bl)) ssm_nil)
    (ssm_one (sm_ret (me_and (x_fn G (ih__law_is_worth) hr (by omega) T.g__law_is_worth T.k__law_is_worth T.b__law_is_worth (am_cons (x_ix G (ov 0) (ME.o me_int)) am_nil) (al_cons al_nil)) (me_one (x_cmp (k_ne G) (ME.o (x_ix G (ME.o (x_ix G (ov 0) (ME.o me_int))) (ME.o me_int))) (ME.o (me_str (by decide +kernel))))))))))))))
theorem ok__law_bent (T : Tx w K mg) : FnOk P w K mg base (L2.CX P w) 3 T.a__law_bent T.d__law_bent ["pot", "worth"] (spM K RXn 2 m__law_bent) := by
  refine fn_okD 2 T.f__law_bent sc__law_bent rxn_ok (fun cdv A outer s H Ex hr G hp => ?_)
  exact (ssm_cons (s_set G 2 (x_fn G (ok__law_pick T) hr (by omega) T.g__law_pick T.k__law_pick T.b__law_pick (am_cons (ev 0) (am_cons me_int am_nil)) (al_cons (al_cons al_nil))))
    (ssm_cons (s_set G 3 (x_fn G (ok__law_pick T) hr (by omega) T.g__law_pick T.k__law_pick T.b__law_pick (am_cons (ev 0) (am_cons (x_bi (b_len G) T.n_len PySem.boot_len (oa_cons (ov 1) oa_nil)) am_nil)) (al_cons (al_cons al_nil))))
    (ssm_cons (s_set G 4 (FE.fz (fe_lst (am_cons me_bl (am_cons me_bl (am_cons me_int (am_cons me_int (am_cons (me_neg me_int) (am_cons me_non (am_cons (me_str (by decide +kernel)) (am_cons (me_str (by decide +kernel)) (am_cons (me_str (by decide +kernel)) (am_cons (me_str (by decide +kernel)) (am_cons (me_str (by decide +kernel)) (am_cons (me_str (by decide +kernel)) (am_cons (me_str (by decide +kernel)) (am_cons (x_mul (ME.o (me_str (by decide +kernel))) (ME.o me_int)) (am_cons (x_add G (ME.o (x_pow (ME.o me_int) (ME.o me_int))) (ME.o me_int)) am_nil))))))))))))))))))
    (ssm_cons (s_set G 4 (x_add G (ov 4) (ME.o (FE.fz (fe_lst (am_cons (x_sub (ME.o (x_sub (ME.o me_int) (ME.o (x_pow (ME.o me_int) (ME.o me_int))))) (ME.o me_int)) (am_cons (x_pow (ME.o me_int) (ME.o me_int)) (am_cons (me_tup am_nil) (am_cons (me_tup (am_cons (me_str (by decide +kernel)) am_nil)) (am_cons (FE.fz (fe_lst am_nil)) (am_cons (FE.fz (fe_lst (am_cons (me_str (by decide +kernel)) am_nil))) (am_cons (me_tup (am_cons (me_str (by decide +kernel)) (am_cons (me_str (by decide +kernel)) am_nil))) (am_cons (me_tup (am_cons (me_str (by decide +kernel)) (am_cons (me_str (by decide +kernel)) (am_cons (me_str (by decide +kernel)) (am_cons (me_tup (am_cons (me_str (by decide +kernel)) am_nil)) am_nil))))) am_nil)))))))))))))
    (ssm_cons (sm_if (t_cmp (k_eq G) (ov 2) (ME.o me_int)) (ssm_one (sm_ret (x_add G (ME.o (me_sliceU G.K (ov 1) pm_no (pm_some (ev 3)))) (ME.o (me_sliceU G.K (ov 1) (pm_some (x_add G (ov 3) (ME.o me_int))) pm_no))))) ssm_nil)
    (ssm_cons (sm_if (t_cmp (k_eq G) (ov 2) (ME.o me_int)) (ssm_one (sm_ret (x_add G (ME.o (x_add G (ME.o (me_sliceU G.K (ov 1) pm_no (pm_some (ev 3)))) (ME.o (me_tup (am_cons (x_ix G (ov 4) (ME.o (x_fn G (ok__law_pick T) hr (by omega) T.g__law_pick T.k__law_pick T.b__law_pick (am_cons (ev 0) (am_cons me_int am_nil)) (al_cons (al_cons al_nil))))) am_nil))))) (ME.o (me_sliceU G.K (ov 1) (pm_some (ev 3)) pm_no))))) ssm_nil)
    (ssm_cons (sm_if (t_cmp (k_eq G) (ov 2) (ME.o me_int)) (ssm_one (sm_ret (FE.fz (x_list G T.n_list (oa_cons (ov 1) oa_nil))))) ssm_nil)
    (ssm_cons (sm_if (t_cmp (k_eq G) (ov 2) (ME.o me_int)) (ssm_cons (s_set G 5 (FE.fz (fe_lst (am_cons (me_str (by decide +kernel)) (am_cons (me_str (by decide +kernel)) (am_cons (me_str (by decide +kernel)) (am_cons (me_str (by decide +kernel)) (am_cons (me_str (by decide +kernel)) (am_cons (me_str (by decide +kernel)) (am_cons (me_str (by decide +kernel)) (am_cons (me_str (by decide +kernel)) (am_cons (me_str (by decide +kernel)) (am_cons (me_str (by decide +kernel)) (am_cons (me_str (by decide +kernel)) (am_cons (me_str (by decide +kernel)) am_nil)))))))))))))))
    (ssm_one (sm_ret (x_add G (ME.o (me_tup (am_cons (x_ix G (ov 5) (ME.o (x_fn G (ok__law_pick T) hr (by omega) T.g__law_pick T.k__law_pick T.b__law_pick (am_cons (ev 0) (am_cons me_int am_nil)) (al_cons (al_cons al_nil))))) am_nil))) (ME.o (me_sliceU G.K (ov 1) (pm_some me_int) pm_no)))))) ssm_nil)
    (ssm_one (sm_ret (x_add G (ME.o (x_add G (ME.o (me_sliceU G.K (ov 1) pm_no (pm_some (ev 3)))) (ME.o (me_tup (am_cons (x_ix G (ov 4) (ME.o (x_fn G (ok__law_pick T) hr (by omega) T.g__law_pick T.k__law_pick T.b__law_pick (am_cons (ev 0) (am_cons me_int am_nil)) (al_cons (al_cons al_nil))))) am_nil))))) (ME.o (me_sliceU G.K (ov 1) (pm_some (x_add G (ov 3) (ME.o me_int))) pm_no)))))))))))))
theorem ok_law (T : Tx w K mg) : FnG P w K mg base (L2.CX P w) 18 T.a_law T.d_law ["script"] (spM K RXn 1 m_law) := by
  refine fn_okG 17 T.f_law sc_law rxn_ok (fun cdv A outer s H Ex hr G hp hgd => ?_)
  exact (ssm_cons (s_set G 1 (x_fn G (ok__law_pot T) hr (by omega) T.g__law_pot T.k__law_pot T.b__law_pot (am_cons (ev 0) am_nil) (al_cons al_nil)))
    (ssm_cons (s_set G 2 (x_fn G (ok__law_names T) hr (by omega) T.g__law_names T.k__law_names T.b__law_names (am_cons (ev 1) (am_cons me_int am_nil)) (al_cons (al_cons al_nil))))
    (ssm_cons (s_own G 3 (fe_lst (am_cons me_non (am_cons (me_tup am_nil) (am_cons me_int (am_cons (me_str (by decide +kernel)) (am_cons (FE.fz (fe_lst am_nil)) (am_cons (me_tup (am_cons (me_str (by decide +kernel)) (am_cons me_non am_nil))) (am_cons (me_tup (am_cons (me_tup (am_cons (me_str (by decide +kernel)) am_nil)) am_nil)) (am_cons (me_tup (am_cons (me_str (by decide +kernel)) am_nil)) (am_cons (me_tup (am_cons (me_str (by decide +kernel)) am_nil)) (am_cons (me_tup (am_cons (me_str (by decide +kernel)) (am_cons (me_str (by decide +kernel)) am_nil))) (am_cons me_bl (am_cons (me_tup (am_cons (me_tup am_nil) am_nil)) am_nil))))))))))))))
    (ssm_cons (s_for G hp (im_range rfl T.n_range (am_cons me_int am_nil)) (gn G 4) (ssm_cons (s_set G 5 (x_fn G (ok__law_worth T 3) hr (by omega) T.g__law_worth T.k__law_worth T.b__law_worth (am_cons (ev 1) (am_cons (ev 2) (am_cons me_bl am_nil))) (al_cons (al_cons (al_cons al_nil)))))
    (ssm_cons (sm_if (t_cmp (k_notB G) (ME.o (x_fn G (ok_is_worth T 14) hr (by omega) T.g_is_worth T.k_is_worth T.b_is_worth (am_cons (ev 5) am_nil) (al_cons al_nil))) (ME.o me_bl)) (ssm_one (sm_ret me_bl)) ssm_nil)
    (ssm_cons (s_set G 6 (x_fn G (ok__law_bent T) hr (by omega) T.g__law_bent T.k__law_bent T.b__law_bent (am_cons (ev 1) (am_cons (ev 5) am_nil)) (al_cons (al_cons al_nil))))
    (ssm_cons (s_own G 3 (x_cat G (ov 3) (ME.o (FE.fz (fe_lst (am_cons (ev 5) (am_cons (ev 6) (am_cons (me_tup (am_cons (me_str (by decide +kernel)) (am_cons (x_ix G (ov 2) (ME.o me_int)) (am_cons (x_ix G (ov 2) (ME.o me_int)) (am_cons (ev 6) am_nil))))) (am_cons (x_fn G (ok__law_bent T) hr (by omega) T.g__law_bent T.k__law_bent T.b__law_bent (am_cons (ev 1) (am_cons (ev 5) am_nil)) (al_cons (al_cons al_nil))) am_nil)))))))))
    (ssm_one (sm_if (WM.tm (wm_and (tm_val (x_bi (b_isi G) T.n_isinstance (by decide +kernel) (oa_cons (ov 6) (oa_cons (ME.o (x_tyv T.n_tuple (by decide +kernel))) oa_nil)))) (wm_and1 (t_cmp (k_gt G) (ME.o (x_bi (b_len G) T.n_len PySem.boot_len (oa_cons (ov 6) oa_nil))) (ME.o me_int))))) (ssm_one (sm_expr (x_append G (lv 3) (x_fn G (ok__law_bent T) hr (by omega) T.g__law_bent T.k__law_bent T.b__law_bent (am_cons (ev 1) (am_cons (ev 6) am_nil)) (al_cons (al_cons al_nil)))))) ssm_nil)))))))
    (ssm_cons (s_for G hp (im_u G.K (fv 3)) (gn G 7) (ssm_cons (s_set G 8 (x_repr G hgd T.n_repr (oa_cons (ov 7) oa_nil)))
    (ssm_cons (sm_if (WM.tm (wm_or (tm_not (tm_val (x_fn G (ok__law_same T 4) hr (by omega) T.g__law_same T.k__law_same T.b__law_same (am_cons (x_fn G (ok_is_worth T 14) hr (by omega) T.g_is_worth T.k_is_worth T.b_is_worth (am_cons (ev 7) am_nil) (al_cons al_nil)) (am_cons (x_fn G (ok__law_is_worth T 14) hr (by omega) T.g__law_is_worth T.k__law_is_worth T.b__law_is_worth (am_cons (ev 7) am_nil) (al_cons al_nil)) am_nil)) (al_cons (al_cons al_nil))))) (wm_or1 (t_cmp k_neS (ME.o (x_repr G hgd T.n_repr (oa_cons (ov 7) oa_nil))) (ov 8))))) (ssm_one (sm_ret me_bl)) ssm_nil)
    (ssm_one (sm_if (WM.tm (wm_or (tm_not (tm_val (x_fn G (ok__law_same T 4) hr (by omega) T.g__law_same T.k__law_same T.b__law_same (am_cons (x_fn G (ok_is_plain T) hr (by omega) T.g_is_plain T.k_is_plain T.b_is_plain (am_cons (ev 7) am_nil) (al_cons al_nil)) (am_cons (x_fn G (ok__law_is_plain T) hr (by omega) T.g__law_is_plain T.k__law_is_plain T.b__law_is_plain (am_cons (ev 7) am_nil) (al_cons al_nil)) am_nil)) (al_cons (al_cons al_nil))))) (wm_or1 (t_cmp k_neS (ME.o (x_repr G hgd T.n_repr (oa_cons (ov 7) oa_nil))) (ov 8))))) (ssm_one (sm_ret me_bl)) ssm_nil)))))
    (ssm_one (sm_ret me_bl)))))))
end
def dd_is_whole : He.DefD := ⟨("is_whole", none), "is_whole", "is_whole", defArgs s_is_whole, defBody s_is_whole, defScope s_is_whole, [], []⟩
def dd_is_in : He.DefD := ⟨("is_in", none), "is_in", "is_in", defArgs s_is_in, defBody s_is_in, defScope s_is_in, [], []⟩
def dd_is_name : He.DefD := ⟨("is_name", none), "is_name", "is_name", defArgs s_is_name, defBody s_is_name, defScope s_is_name, [], []⟩
def dd_is_plain : He.DefD := ⟨("is_plain", none), "is_plain", "is_plain", defArgs s_is_plain, defBody s_is_plain, defScope s_is_plain, [], []⟩
def dd_is_bound : He.DefD := ⟨("is_bound", none), "is_bound", "is_bound", defArgs s_is_bound, defBody s_is_bound, defScope s_is_bound, [], []⟩
def dd_is_worth : He.DefD := ⟨("is_worth", none), "is_worth", "is_worth", defArgs s_is_worth, defBody s_is_worth, defScope s_is_worth, [], []⟩
def dd__law_blend : He.DefD := ⟨("_law_blend", none), "_law_blend", "_law_blend", defArgs s__law_blend, defBody s__law_blend, defScope s__law_blend, [], []⟩
def dd__law_pot : He.DefD := ⟨("_law_pot", none), "_law_pot", "_law_pot", defArgs s__law_pot, defBody s__law_pot, defScope s__law_pot, [], []⟩
def dd__law_pick : He.DefD := ⟨("_law_pick", none), "_law_pick", "_law_pick", defArgs s__law_pick, defBody s__law_pick, defScope s__law_pick, [], []⟩
def dd__law_same : He.DefD := ⟨("_law_same", none), "_law_same", "_law_same", defArgs s__law_same, defBody s__law_same, defScope s__law_same, [], []⟩
def dd__law_order : He.DefD := ⟨("_law_order", none), "_law_order", "_law_order", defArgs s__law_order, defBody s__law_order, defScope s__law_order, [], []⟩
def dd__law_letters : He.DefD := ⟨("_law_letters", none), "_law_letters", "_law_letters", defArgs s__law_letters, defBody s__law_letters, defScope s__law_letters, [], []⟩
def dd__law_names : He.DefD := ⟨("_law_names", none), "_law_names", "_law_names", defArgs s__law_names, defBody s__law_names, defScope s__law_names, [], []⟩
def dd__law_text : He.DefD := ⟨("_law_text", none), "_law_text", "_law_text", defArgs s__law_text, defBody s__law_text, defScope s__law_text, [], []⟩
def dd__law_plain_worth : He.DefD := ⟨("_law_plain_worth", none), "_law_plain_worth", "_law_plain_worth", defArgs s__law_plain_worth, defBody s__law_plain_worth, defScope s__law_plain_worth, [], []⟩
def dd__law_worth : He.DefD := ⟨("_law_worth", none), "_law_worth", "_law_worth", defArgs s__law_worth, defBody s__law_worth, defScope s__law_worth, [], []⟩
def dd__law_is_name : He.DefD := ⟨("_law_is_name", none), "_law_is_name", "_law_is_name", defArgs s__law_is_name, defBody s__law_is_name, defScope s__law_is_name, [], []⟩
def dd__law_is_plain : He.DefD := ⟨("_law_is_plain", none), "_law_is_plain", "_law_is_plain", defArgs s__law_is_plain, defBody s__law_is_plain, defScope s__law_is_plain, [], []⟩
def dd__law_is_worth : He.DefD := ⟨("_law_is_worth", none), "_law_is_worth", "_law_is_worth", defArgs s__law_is_worth, defBody s__law_is_worth, defScope s__law_is_worth, [], []⟩
def dd__law_bent : He.DefD := ⟨("_law_bent", none), "_law_bent", "_law_bent", defArgs s__law_bent, defBody s__law_bent, defScope s__law_bent, [], []⟩
def dd_law : He.DefD := ⟨("law", none), "law", "law", defArgs s_law, defBody s_law, defScope s_law, [], []⟩
def fnL : List He.DefD := [dd_is_whole, dd_is_in, dd_is_name, dd_is_plain, dd_is_bound, dd_is_worth, dd__law_blend, dd__law_pot, dd__law_pick, dd__law_same, dd__law_order, dd__law_letters, dd__law_names, dd__law_text, dd__law_plain_worth, dd__law_worth, dd__law_is_name, dd__law_is_plain, dd__law_is_worth, dd__law_bent, dd_law]
def faL : List He.Fa := [.glo "is_whole", .glo "is_in", .glo "is_name", .glo "is_plain", .glo "is_bound", .glo "is_worth", .glo "_law_blend", .glo "_law_pot", .glo "_law_pick", .glo "_law_same", .glo "_law_order", .glo "_law_letters", .glo "_law_names", .glo "_law_text", .glo "_law_plain_worth", .glo "_law_worth", .glo "_law_is_name", .glo "_law_is_plain", .glo "_law_is_worth", .glo "_law_bent", .glo "law", .free "all", .free "bool", .free "enumerate", .free "int", .free "isinstance", .free "len", .free "list", .free "range", .free "repr", .free "str", .free "tuple", .free "zip", .int "GREATEST" 1000000000, .str "LETTERS" "abcdefghijklmnopqrstuvwxyz", .int "LONGEST" 20, .glo "NONE", .glo "NOT"]
def dv_NONE : List He.Dv := [(.str "none")]
def dv_NOT : List He.Dv := [(.str "not")]
def tsL : List He.Tab := []
def exL (K : PySem.W.Frag) : Bool := He.tupB K "NONE" dv_NONE && (He.tupB K "NOT" dv_NOT && (true))
theorem mkT {w : World} {K : PySem.W.Frag} {h : Heap} {mg : Str → Option Value} (X : K.In h) (G : h.Ns mainGlobals mg) (cc : He.SaysX faL fnL tsL [] exL w h K) : ∃ T : Tx w K mg, mg "law" = some (.ref T.a_law) ∧ ∀ (s : Shared) (v : Value), BindsTo s T.d_law ⟨[v], []⟩ [("script", v)] := by
  have c : He.SaysD faL fnL K := cc.t.d
  have z0 : exL K = true := cc.more
  unfold exL at z0
  obtain ⟨y0, z1⟩ := He.ba z0
  obtain ⟨y1, z2⟩ := He.ba z1
  obtain ⟨e_is_whole, f_is_whole⟩ := c.def_ 0 (d := dd_is_whole) rfl
  obtain ⟨e_is_in, f_is_in⟩ := c.def_ 1 (d := dd_is_in) rfl
  obtain ⟨e_is_name, f_is_name⟩ := c.def_ 2 (d := dd_is_name) rfl
  obtain ⟨e_is_plain, f_is_plain⟩ := c.def_ 3 (d := dd_is_plain) rfl
  obtain ⟨e_is_bound, f_is_bound⟩ := c.def_ 4 (d := dd_is_bound) rfl
  obtain ⟨e_is_worth, f_is_worth⟩ := c.def_ 5 (d := dd_is_worth) rfl
  obtain ⟨e__law_blend, f__law_blend⟩ := c.def_ 6 (d := dd__law_blend) rfl
  obtain ⟨e__law_pot, f__law_pot⟩ := c.def_ 7 (d := dd__law_pot) rfl
  obtain ⟨e__law_pick, f__law_pick⟩ := c.def_ 8 (d := dd__law_pick) rfl
  obtain ⟨e__law_same, f__law_same⟩ := c.def_ 9 (d := dd__law_same) rfl
  obtain ⟨e__law_order, f__law_order⟩ := c.def_ 10 (d := dd__law_order) rfl
  obtain ⟨e__law_letters, f__law_letters⟩ := c.def_ 11 (d := dd__law_letters) rfl
  obtain ⟨e__law_names, f__law_names⟩ := c.def_ 12 (d := dd__law_names) rfl
  obtain ⟨e__law_text, f__law_text⟩ := c.def_ 13 (d := dd__law_text) rfl
  obtain ⟨e__law_plain_worth, f__law_plain_worth⟩ := c.def_ 14 (d := dd__law_plain_worth) rfl
  obtain ⟨e__law_worth, f__law_worth⟩ := c.def_ 15 (d := dd__law_worth) rfl
  obtain ⟨e__law_is_name, f__law_is_name⟩ := c.def_ 16 (d := dd__law_is_name) rfl
  obtain ⟨e__law_is_plain, f__law_is_plain⟩ := c.def_ 17 (d := dd__law_is_plain) rfl
  obtain ⟨e__law_is_worth, f__law_is_worth⟩ := c.def_ 18 (d := dd__law_is_worth) rfl
  obtain ⟨e__law_bent, f__law_bent⟩ := c.def_ 19 (d := dd__law_bent) rfl
  obtain ⟨e_law, f_law⟩ := c.def_ 20 (d := dd_law) rfl
  obtain ⟨t_GREATEST, g_GREATEST⟩ := He.int_ok X G (x := "GREATEST") (i := 1000000000) (c.fact 33 rfl)
  obtain ⟨t_LETTERS, g_LETTERS⟩ := He.str_ok X G (x := "LETTERS") (z := "abcdefghijklmnopqrstuvwxyz") (c.fact 34 rfl)
  obtain ⟨t_LONGEST, g_LONGEST⟩ := He.int_ok X G (x := "LONGEST") (i := 20) (c.fact 35 rfl)
  refine ⟨{ a_is_whole := _, d_is_whole := e_is_whole, f_is_whole := f_is_whole, g_is_whole := He.glo_ok X G (c.fact 0 (f := .glo "is_whole") rfl), k_is_whole := f_is_whole.kp, b_is_whole := FunD.bindsN f_is_whole (fun _ _ _ _ _ _ us hl => match us, hl with | [_], _ => rfl), a_is_in := _, d_is_in := e_is_in, f_is_in := f_is_in, g_is_in := He.glo_ok X G (c.fact 1 (f := .glo "is_in") rfl), k_is_in := f_is_in.kp, b_is_in := FunD.bindsN f_is_in (fun _ _ _ _ _ _ us hl => match us, hl with | [_, _, _], _ => rfl), a_is_name := _, d_is_name := e_is_name, f_is_name := f_is_name, g_is_name := He.glo_ok X G (c.fact 2 (f := .glo "is_name") rfl), k_is_name := f_is_name.kp, b_is_name := FunD.bindsN f_is_name (fun _ _ _ _ _ _ us hl => match us, hl with | [_], _ => rfl), a_is_plain := _, d_is_plain := e_is_plain, f_is_plain := f_is_plain, g_is_plain := He.glo_ok X G (c.fact 3 (f := .glo "is_plain") rfl), k_is_plain := f_is_plain.kp, b_is_plain := FunD.bindsN f_is_plain (fun _ _ _ _ _ _ us hl => match us, hl with | [_], _ => rfl), a_is_bound := _, d_is_bound := e_is_bound, f_is_bound := f_is_bound, g_is_bound := He.glo_ok X G (c.fact 4 (f := .glo "is_bound") rfl), k_is_bound := f_is_bound.kp, b_is_bound := FunD.bindsN f_is_bound (fun _ _ _ _ _ _ us hl => match us, hl with | [_], _ => rfl), a_is_worth := _, d_is_worth := e_is_worth, f_is_worth := f_is_worth, g_is_worth := He.glo_ok X G (c.fact 5 (f := .glo "is_worth") rfl), k_is_worth := f_is_worth.kp, b_is_worth := FunD.bindsN f_is_worth (fun _ _ _ _ _ _ us hl => match us, hl with | [_], _ => rfl), a__law_blend := _, d__law_blend := e__law_blend, f__law_blend := f__law_blend, g__law_blend := He.glo_ok X G (c.fact 6 (f := .glo "_law_blend") rfl), k__law_blend := f__law_blend.kp, b__law_blend := FunD.bindsN f__law_blend (fun _ _ _ _ _ _ us hl => match us, hl with | [_, _], _ => rfl), a__law_pot := _, d__law_pot := e__law_pot, f__law_pot := f__law_pot, g__law_pot := He.glo_ok X G (c.fact 7 (f := .glo "_law_pot") rfl), k__law_pot := f__law_pot.kp, b__law_pot := FunD.bindsN f__law_pot (fun _ _ _ _ _ _ us hl => match us, hl with | [_], _ => rfl), a__law_pick := _, d__law_pick := e__law_pick, f__law_pick := f__law_pick, g__law_pick := He.glo_ok X G (c.fact 8 (f := .glo "_law_pick") rfl), k__law_pick := f__law_pick.kp, b__law_pick := FunD.bindsN f__law_pick (fun _ _ _ _ _ _ us hl => match us, hl with | [_, _], _ => rfl), a__law_same := _, d__law_same := e__law_same, f__law_same := f__law_same, g__law_same := He.glo_ok X G (c.fact 9 (f := .glo "_law_same") rfl), k__law_same := f__law_same.kp, b__law_same := FunD.bindsN f__law_same (fun _ _ _ _ _ _ us hl => match us, hl with | [_, _], _ => rfl), a__law_order := _, d__law_order := e__law_order, f__law_order := f__law_order, g__law_order := He.glo_ok X G (c.fact 10 (f := .glo "_law_order") rfl), k__law_order := f__law_order.kp, b__law_order := FunD.bindsN f__law_order (fun _ _ _ _ _ _ us hl => match us, hl with | [_, _], _ => rfl), a__law_letters := _, d__law_letters := e__law_letters, f__law_letters := f__law_letters, g__law_letters := He.glo_ok X G (c.fact 11 (f := .glo "_law_letters") rfl), k__law_letters := f__law_letters.kp, b__law_letters := FunD.bindsN f__law_letters (fun _ _ _ _ _ _ us hl => match us, hl with | [_, _], _ => rfl), a__law_names := _, d__law_names := e__law_names, f__law_names := f__law_names, g__law_names := He.glo_ok X G (c.fact 12 (f := .glo "_law_names") rfl), k__law_names := f__law_names.kp, b__law_names := FunD.bindsN f__law_names (fun _ _ _ _ _ _ us hl => match us, hl with | [_, _], _ => rfl), a__law_text := _, d__law_text := e__law_text, f__law_text := f__law_text, g__law_text := He.glo_ok X G (c.fact 13 (f := .glo "_law_text") rfl), k__law_text := f__law_text.kp, b__law_text := FunD.bindsN f__law_text (fun _ _ _ _ _ _ us hl => match us, hl with | [_, _], _ => rfl), a__law_plain_worth := _, d__law_plain_worth := e__law_plain_worth, f__law_plain_worth := f__law_plain_worth, g__law_plain_worth := He.glo_ok X G (c.fact 14 (f := .glo "_law_plain_worth") rfl), k__law_plain_worth := f__law_plain_worth.kp, b__law_plain_worth := FunD.bindsN f__law_plain_worth (fun _ _ _ _ _ _ us hl => match us, hl with | [_, _], _ => rfl), a__law_worth := _, d__law_worth := e__law_worth, f__law_worth := f__law_worth, g__law_worth := He.glo_ok X G (c.fact 15 (f := .glo "_law_worth") rfl), k__law_worth := f__law_worth.kp, b__law_worth := FunD.bindsN f__law_worth (fun _ _ _ _ _ _ us hl => match us, hl with | [_, _, _], _ => rfl), a__law_is_name := _, d__law_is_name := e__law_is_name, f__law_is_name := f__law_is_name, g__law_is_name := He.glo_ok X G (c.fact 16 (f := .glo "_law_is_name") rfl), k__law_is_name := f__law_is_name.kp, b__law_is_name := FunD.bindsN f__law_is_name (fun _ _ _ _ _ _ us hl => match us, hl with | [_], _ => rfl), a__law_is_plain := _, d__law_is_plain := e__law_is_plain, f__law_is_plain := f__law_is_plain, g__law_is_plain := He.glo_ok X G (c.fact 17 (f := .glo "_law_is_plain") rfl), k__law_is_plain := f__law_is_plain.kp, b__law_is_plain := FunD.bindsN f__law_is_plain (fun _ _ _ _ _ _ us hl => match us, hl with | [_], _ => rfl), a__law_is_worth := _, d__law_is_worth := e__law_is_worth, f__law_is_worth := f__law_is_worth, g__law_is_worth := He.glo_ok X G (c.fact 18 (f := .glo "_law_is_worth") rfl), k__law_is_worth := f__law_is_worth.kp, b__law_is_worth := FunD.bindsN f__law_is_worth (fun _ _ _ _ _ _ us hl => match us, hl with | [_], _ => rfl), a__law_bent := _, d__law_bent := e__law_bent, f__law_bent := f__law_bent, g__law_bent := He.glo_ok X G (c.fact 19 (f := .glo "_law_bent") rfl), k__law_bent := f__law_bent.kp, b__law_bent := FunD.bindsN f__law_bent (fun _ _ _ _ _ _ us hl => match us, hl with | [_, _], _ => rfl), a_law := _, d_law := e_law, f_law := f_law, g_law := He.glo_ok X G (c.fact 20 (f := .glo "law") rfl), k_law := f_law.kp, b_law := FunD.bindsN f_law (fun _ _ _ _ _ _ us hl => match us, hl with | [_], _ => rfl), n_all := He.free_ok X G (c.fact 21 (f := .free "all") rfl), n_bool := He.free_ok X G (c.fact 22 (f := .free "bool") rfl), n_enumerate := He.free_ok X G (c.fact 23 (f := .free "enumerate") rfl), n_int := He.free_ok X G (c.fact 24 (f := .free "int") rfl), n_isinstance := He.free_ok X G (c.fact 25 (f := .free "isinstance") rfl), n_len := He.free_ok X G (c.fact 26 (f := .free "len") rfl), n_list := He.free_ok X G (c.fact 27 (f := .free "list") rfl), n_range := He.free_ok X G (c.fact 28 (f := .free "range") rfl), n_repr := He.free_ok X G (c.fact 29 (f := .free "repr") rfl), n_str := He.free_ok X G (c.fact 30 (f := .free "str") rfl), n_tuple := He.free_ok X G (c.fact 31 (f := .free "tuple") rfl), n_zip := He.free_ok X G (c.fact 32 (f := .free "zip") rfl), v_GREATEST := .int 1000000000, u_GREATEST := .int 1000000000 t_GREATEST, g_GREATEST := g_GREATEST, r_GREATEST := ⟨t_GREATEST, rfl⟩, t_GREATEST := fun _ => rt_int _, v_LETTERS := .str "abcdefghijklmnopqrstuvwxyz", u_LETTERS := .str "abcdefghijklmnopqrstuvwxyz" t_LETTERS, g_LETTERS := g_LETTERS, r_LETTERS := ⟨t_LETTERS, rfl⟩, t_LETTERS := fun g => by unfold RepT c_LETTERS; exact congrArg V.str (by decide +kernel), v_LONGEST := .int 20, u_LONGEST := .int 20 t_LONGEST, g_LONGEST := g_LONGEST, r_LONGEST := ⟨t_LONGEST, rfl⟩, t_LONGEST := fun _ => rt_int _, v_NONE := .ref (He.ga K "NONE"), u_NONE := .ref (He.ga K "NONE"), g_NONE := He.glo_ok X G (c.fact 36 (f := .glo "NONE") rfl), r_NONE := rfl, t_NONE := rt_tupc (dvs := dv_NONE) y0 fun g => rl_strs (zs := [[110, 111, 110, 101]]) (xs := ["none"]) (by decide +kernel), v_NOT := .ref (He.ga K "NOT"), u_NOT := .ref (He.ga K "NOT"), g_NOT := He.glo_ok X G (c.fact 37 (f := .glo "NOT") rfl), r_NOT := rfl, t_NOT := rt_tupc (dvs := dv_NOT) y1 fun g => rl_strs (zs := [[110, 111, 116]]) (xs := ["not"]) (by decide +kernel) }, He.glo_ok X G (c.fact 20 (f := .glo "law") rfl), fun s v => ?_⟩
  exact FunD.bindsA (ps := ["script"]) f_law (fun _ _ _ _ _ _ us hl => match us, hl with | [_], _ => rfl) s [v] rfl
end Lw
namespace Lw
def lawLevel : Nat := 18
end Lw
namespace Lw
open PySem PySem.Spec PyProof.Rows L2
def nm0 : List Str := ["LETTERS", "LONGEST", "GREATEST", "NONE", "NOT", "is_whole", "is_in", "is_name", "is_plain", "is_bound", "is_worth", "_law_blend", "_law_pot", "_law_pick"]
def nm1 : List Str := ["_law_same", "_law_order", "_law_letters", "_law_names", "_law_text", "_law_plain_worth", "_law_worth", "_law_is_name", "_law_is_plain", "_law_is_worth", "_law_bent"]
abbrev nms : List Str := nm0 ++ nm1
abbrev Rr : PySem.W.OpenRow := PySem.W.OpenLaw.row PySem.Challenge.rw_swiftkin_k01_what_is_a_worth
abbrev hk : PySem.W.Hook := He.hookX 4 faL fnL tsL [] exL
def ob (s : PySem.W.SharedT) : He.AlX := He.obsX 4 faL fnL tsL [] exL (HandSHeadRun.getT s)
theorem ob_eq (s : PySem.W.SharedT) : ob s = hk.obs s.abs := He.obsX_eq (HandSHeadRun.getT_eq s)
theorem run_top (w : World) : HandSHeadRun.RunEq Rr (PySem.W.view Rr.prog [27]) hk ob 4000 nms w := by
  intro os
  kernel_rfl
end Lw
open PySem PySem.W PySem.Calls PyProof.Rows
set_option maxHeartbeats 0 in
theorem PySem.Challenge.cw_swiftkin_k01_what_is_a_worth_holds : PySem.Challenge.rw_swiftkin_k01_what_is_a_worth.Holds := by
  w_on; o_law
  refine HandSHeadRun.head_any (r := OpenLaw.row PySem.Challenge.rw_swiftkin_k01_what_is_a_worth) (q := view (OpenLaw.row PySem.Challenge.rw_swiftkin_k01_what_is_a_worth).prog [27]) (H := Lw.hk) (ob := Lw.ob) (M := 4000) (loose := Lw.nms) (d := HandSHeadRun.topDef (OpenLaw.row PySem.Challenge.rw_swiftkin_k01_what_is_a_worth).prog 27) (kwd := []) Lw.ob_eq
    (by kernel_rfl) (fun s => by kernel_rfl) Lw.run_top (by kernel_rfl) (by kernel_rfl) (by kernel_rfl) (by rfl) (by first | assumption | decide +kernel) (by decide +kernel) ⟨rfl, rfl, rfl, rfl, rfl, by decide +kernel⟩ ?hw ?hc
  case hw => w_witness2
  case hc =>
    refine Sw.walk_ofG (l := PySem.Challenge.rw_swiftkin_k01_what_is_a_worth) (n := 63) (k := Lw.lawLevel) (x := "script") (CX := L2.CX0) rfl (by decide) (by kernel_rfl) ⟨rfl, by decide, by decide⟩ ?F (fun _ _ _ _ z => z)
    intro w mg fa h Y G hmg0
    obtain ⟨K, KX, c⟩ := Y
    have hmg : mg ("law" : PySem.Str) = some (.ref fa) := by
      have e : (HandSHeadRun.topDef (OpenLaw.row PySem.Challenge.rw_swiftkin_k01_what_is_a_worth).prog 27).name = ("law" : PySem.Str) := by kernel_rfl
      rw [← e]
      exact hmg0
    obtain ⟨T, h1, hb⟩ := Lw.mkT KX G c
    rw [hmg] at h1
    cases h1
    exact ⟨K, T.d_law, (fun vs H Q _ => Sw.spM K Sw.RXn 1 Lw.m_law vs H Q fun _ _ _ => False), KX, hb, fun H a ns hl _ hS => Sw.law_sp Lw.law_eq H a ns hl hS, fun base _ _ => Sw.nox_lawG (Lw.ok_law T)⟩
