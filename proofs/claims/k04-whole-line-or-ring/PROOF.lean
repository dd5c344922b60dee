import PyProof.Rows.All
import Wide.All
import OpenK.AllK
import Wide.FinOn
import HandS.ForMost
import HandS.Exc
import HandS.WordsExc
import HandS.Deep
import HandS.Wide
import HandS.IsInst
import HandS.TupAny
import HandS.RaiseMore
import HandS.Style
import HandS.More
import HandS.Text
import HandS.CallSlots
import HandS.Iter
import HandS.Comp
import PyProof.StrOps2
import HandS.Defaults
import HandS.Zip
import HandS.Ends
import HandS.Words
import HandS.WordsDict
import HandS.Head0
import HandS.Head1
import HandS.Head2
import HandS.HeadEnd
import HandS.HeadHook1
import HandS.HeadHook2
import PySem.Challenge.RW_swiftkin_k04_whole_line_or_ring
set_option Elab.async false
set_option linter.all false
set_option maxRecDepth 100000
namespace Sw
open PySem PySem.Spec PyProof.Rows L2

/-! ### values as trees -/
inductive T where
  | non | bl (b : Bool) | int (i : Int) | str (s : List Nat) | ty (n : String)
  | tup (ts : List T) | fz (ts : List T) | ref (a : Nat) | scr (ns : List Int) | dic (ks vs : List T)
instance : Inhabited T := ⟨.non⟩
inductive Ob where
  | lst (ts : List T) | dct (ks vs : List T) | dead
inductive Sl where
  | emp | val (t : T) | own (o : Ob)
structure Stt where
  σ : List Sl
  S : List Ob
/-- what is raised: the class by its name, its fields -/
structure Xn where
  c : String
  fs : List (List Nat × T)
inductive R (α : Type) where
  | ok (a : α) | exc (x : Xn)
abbrev M (α : Type) := Stt → Option (R α × Stt)
instance : Monad M where
  pure a := fun st => some (.ok a, st)
  bind m f := fun st => match m st with
    | some (.ok a, st1) => f a st1
    | some (.exc x, st1) => some (.exc x, st1)
    | none => none
theorem pure_def {α : Type} (a : α) (st : Stt) : (pure a : M α) st = some (.ok a, st) := rfl
theorem bind_def {α β : Type} (m : M α) (f : α → M β) (st : Stt) : (m >>= f) st = match m st with
    | some (.ok a, st1) => f a st1
    | some (.exc x, st1) => some (.exc x, st1)
    | none => none := rfl
def stuck {α : Type} : M α := fun _ => none
def ofO {α : Type} : Option α → M α
  | some a => pure a
  | none => stuck

/-! ### ghosts -/
inductive Ow where
  | out | fz | slot (i : Nat) | box (a : Nat)
structure Gh where
  own : Addr → Ow
  Z : Hp
  ρ : Nat → Addr
  n : Nat

def sS (s : List Nat) : Str := ⟨s.toArray⟩
/-- a dict's key -/
def keyOf : T → Option Key
  | .int i => some (.inl i)
  | .str s => some (.inr (sS s))
  | _ => none
mutual
def RepT (K : PySem.W.Frag) (g : Gh) : T → V → Prop
  | .non, v => v = .non
  | .bl b, v => v = .bl b
  | .int i, v => v = .int i
  | .str s, v => v = .str (sS s)
  | .ty n, v => v = .ty n
  | .tup ts, v => ∃ a xs, v = .ref a ∧ SqT K g.Z a xs ∧ RepL K g ts xs
  | .fz ts, v => ∃ a xs, v = .ref a ∧ g.Z a = some (.lst xs) ∧ RepL K g ts xs
  | .ref n, v => n < g.n ∧ v = .ref (g.ρ n)
  | .scr ns, v => ∃ a, v = .ref a ∧ SqL K g.Z a (ns.map V.int)
  | .dic ks vs, v => ∃ a kvs, v = .ref a ∧ g.Z a = some (.dK kvs) ∧ ks.map keyOf = kvs.map (fun p => some p.1) ∧ RepL K g vs (kvs.map (·.2))
def RepL (K : PySem.W.Frag) (g : Gh) : List T → List V → Prop
  | [], xs => xs = []
  | t :: ts, xs => ∃ x r, xs = x :: r ∧ RepT K g t x ∧ RepL K g ts r
end
def RepO (K : PySem.W.Frag) (g : Gh) : Ob → Option HO → Prop
  | .lst ts, o => ∃ xs, o = some (.lst xs) ∧ RepL K g ts xs
  | .dct ks vs, o => ∃ kvs, o = some (.dK kvs) ∧ ks.map keyOf = kvs.map (fun p => some p.1) ∧ RepL K g vs (kvs.map (·.2))
  | .dead, _ => True
def SlotRel (K : PySem.W.Frag) (g : Gh) (H : Hp) (i : Nat) : Sl → Option V → Prop
  | .emp, _ => True
  | .val t, v => ∃ x, v = some x ∧ RepT K g t x
  | .own ob, v => ∃ p, v = some (.ref p) ∧ g.own p = .slot i ∧ RepO K g ob (H p)
structure RelS (K : PySem.W.Frag) (g : Gh) (S : List Ob) (H : Hp) : Prop where
  zs : Same g.Z H
  zo : ∀ p o, g.Z p = some o → g.own p = .fz
  fr : ∀ p, H p = none → g.own p = .out
  n : g.n = S.length
  box : ∀ a ob, S[a]? = some ob → g.own (g.ρ a) = .box a ∧ RepO K g ob (H (g.ρ a))
structure Rel (K : PySem.W.Frag) (g : Gh) (st : Stt) (σV : L2.St) (H : Hp) : Prop extends RelS K g st.S H where
  len : st.σ.length = σV.length
  slot : ∀ i s v, st.σ[i]? = some s → σV[i]? = some v → SlotRel K g H i s v
structure Stp (g g' : Gh) (H H' : Hp) : Prop where
  z : Same g.Z g'.Z
  n : g.n ≤ g'.n
  ρ : ∀ a, a < g.n → g'.ρ a = g.ρ a
  out : ∀ p o, g.own p = .out → H p = some o → g'.own p = .out ∧ H' p = some o
theorem Stp.refl (g : Gh) (H : Hp) : Stp g g H H := ⟨Same.refl _, Nat.le_refl _, fun _ _ => rfl, fun _ _ a b => ⟨a, b⟩⟩
theorem Stp.trans {g g1 g2 : Gh} {H H1 H2 : Hp} (a : Stp g g1 H H1) (b : Stp g1 g2 H1 H2) : Stp g g2 H H2 :=
  ⟨a.z.trans b.z, Nat.le_trans a.n b.n, fun c h => (b.ρ c (Nat.lt_of_lt_of_le h a.n)).trans (a.ρ c h), fun p o h e => b.out p o (a.out p o h e).1 (a.out p o h e).2⟩

theorem sameT {K : PySem.W.Frag} {H H' : Hp} {a : Addr} {xs : List V} (e : Same H H') (h : SqT K H a xs) : SqT K H' a xs := by
  rcases h with (h | ⟨o, h⟩) | h
  · exact .inl (.inl (e _ _ h))
  · exact .inl (.inr ⟨o, e _ _ h⟩)
  · exact .inr h
section
variable {K : PySem.W.Frag} {g g' : Gh} {H H' : Hp}
mutual
theorem RepT.step (s : Stp g g' H H') : ∀ {t : T} {v : V}, RepT K g t v → RepT K g' t v
  | .non, v, h => by unfold RepT at h ⊢; exact h
  | .bl _, v, h => by unfold RepT at h ⊢; exact h
  | .int _, v, h => by unfold RepT at h ⊢; exact h
  | .str _, v, h => by unfold RepT at h ⊢; exact h
  | .ty _, v, h => by unfold RepT at h ⊢; exact h
  | .tup ts, v, h => by
    unfold RepT at h ⊢
    obtain ⟨a, xs, e, q, r⟩ := h
    exact ⟨a, xs, e, sameT s.z q, RepL.step s r⟩
  | .fz ts, v, h => by
    unfold RepT at h ⊢
    obtain ⟨a, xs, e, q, r⟩ := h
    exact ⟨a, xs, e, s.z _ _ q, RepL.step s r⟩
  | .ref n, v, h => by
    unfold RepT at h ⊢
    exact ⟨Nat.lt_of_lt_of_le h.1 s.n, by rw [h.2, s.ρ n h.1]⟩
  | .scr ns, v, h => by
    unfold RepT at h ⊢
    obtain ⟨a, e, q⟩ := h
    exact ⟨a, e, s.z.seq q⟩
  | .dic ks vs, v, h => by
    unfold RepT at h ⊢
    obtain ⟨a, kvs, e, q, hk, r⟩ := h
    exact ⟨a, kvs, e, s.z _ _ q, hk, RepL.step s r⟩
theorem RepL.step (s : Stp g g' H H') : ∀ {ts : List T} {xs : List V}, RepL K g ts xs → RepL K g' ts xs
  | [], xs, h => by unfold RepL at h ⊢; exact h
  | t :: ts, xs, h => by
    unfold RepL at h ⊢
    obtain ⟨x, r, e, a, b⟩ := h
    exact ⟨x, r, e, RepT.step s a, RepL.step s b⟩
end
end

theorem PE.mono {X : Cx} {e : Expr} {t t' : TE} (h : PE X e t) (w : ∀ σ H Q, t' σ H Q → t σ H Q) : PE X e t' :=
  ⟨fun pins s σ H Q I q => h.run pins s σ H Q I (w σ H Q q)⟩
theorem PT.mono {X : Cx} {e : Expr} {t t' : TT} (h : PT X e t) (w : ∀ σ H Q, t' σ H Q → t σ H Q) : PT X e t' :=
  ⟨fun pins s σ H Q I q => h.run pins s σ H Q I (w σ H Q q)⟩
theorem PA.mono {X : Cx} {e : List Expr} {t t' : TA} (h : PA X e t) (w : ∀ σ H Q, t' σ H Q → t σ H Q) : PA X e t' :=
  ⟨fun pos pins s σ H Q I q => h.run pos pins s σ H Q I (w σ H Q q)⟩
theorem PS.mono {X : Cx} {st : Stmt} {t t' : TS} (h : PS X st t) (w : ∀ D σ H, t' D σ H → t D σ H) : PS X st t' :=
  ⟨fun pins s σ H D I q => h.run pins s σ H D I (w D σ H q)⟩
theorem PSs.mono {X : Cx} {st : List Stmt} {t t' : TS} (h : PSs X st t) (w : ∀ D σ H, t' D σ H → t D σ H) : PSs X st t' :=
  ⟨fun pins s σ H D I q => h.run pins s σ H D I (w D σ H q)⟩


/-! ### the judgements -/
/-- what surrounds: the written part, and how an exception lies -/
structure Ev where
  K : PySem.W.Frag
  W : WX
  RX : Gh → Xn → Value → Option Addr → Hp → Prop
def run {α : Type} (m : M α) (st : Stt) (ok : α → Stt → Prop) (ex : Xn → Stt → Prop) : Prop :=
  match m st with
  | none => False
  | some (.ok a, st') => ok a st'
  | some (.exc x, st') => ex x st'
theorem run_pure {α : Type} {a : α} {st : Stt} {ok ex} (h : run (pure a : M α) st ok ex) : ok a st := h
theorem run_bind {α β : Type} {m : M α} {f : α → M β} {st : Stt} {ok : β → Stt → Prop} {ex} (h : run (m >>= f) st ok ex) :
    run m st (fun a st1 => run (f a) st1 ok ex) ex := by
  unfold run at h ⊢
  rw [bind_def] at h
  cases e : m st with
  | none => rw [e] at h; exact h
  | some p =>
    rw [e] at h
    obtain ⟨r, st1⟩ := p
    cases r with
    | ok a => exact h
    | exc x => exact h
theorem run_mono {α : Type} {m : M α} {st : Stt} {ok ok' : α → Stt → Prop} {ex ex' : Xn → Stt → Prop} (h : run m st ok ex) (h1 : ∀ a st', ok a st' → ok' a st') (h2 : ∀ x st', ex x st' → ex' x st') : run m st ok' ex' := by
  unfold run at h ⊢
  cases e : m st with
  | none => rw [e] at h; exact h
  | some p =>
    rw [e] at h
    obtain ⟨r, st1⟩ := p
    cases r with
    | ok a => exact h1 _ _ h
    | exc x => exact h2 _ _ h

section
variable (E : Ev)
/-- what is wanted where x is raised -/
def exW (g : Gh) (H : Hp) (σ : L2.St) (x : Xn) (st' : Stt) : Prop :=
  ∀ g' H' c d, Rel E.K g' st' σ H' → Stp g g' H H' → E.RX g' x c d H' → E.W c d σ H'
/-- behind a computation: any ghost and heap that bear the state -/
def beh (g : Gh) (H : Hp) (σ : L2.St) (st' : Stt) (P : Gh → Hp → Prop) : Prop :=
  ∀ g' H', Rel E.K g' st' σ H' → Stp g g' H H' → P g' H'
/-- the computation m at (g, st), its value told by Φ -/
def at_ {α : Type} (m : M α) (g : Gh) (σ : L2.St) (H : Hp) (Φ : α → Stt → Prop) : Prop :=
  ∃ st, Rel E.K g st σ H ∧ run m st Φ (exW E g H σ)
def okT (g : Gh) (H : Hp) (σ : L2.St) (Q : VK) (t : T) (st' : Stt) : Prop := beh E g H σ st' fun g' H' => ∀ v, RepT E.K g' t v → Q v H'
def teM (m : M T) : TE := fun σ H Q => ∃ g, at_ E m g σ H (okT E g H σ Q)
def okB (g : Gh) (H : Hp) (σ : L2.St) (Q : Bool → Hp → Prop) (b : Bool) (st' : Stt) : Prop := beh E g H σ st' fun _ H' => Q b H'
def ttM (m : M Bool) : TT := fun σ H Q => ∃ g, at_ E m g σ H (okB E g H σ Q)
def okL (g : Gh) (H : Hp) (σ : L2.St) (Q : List V → Hp → Prop) (ts : List T) (st' : Stt) : Prop := beh E g H σ st' fun g' H' => ∀ vs, RepL E.K g' ts vs → Q vs H'
def taM (m : M (List T)) : TA := fun σ H Q => ∃ g, at_ E m g σ H (okL E g H σ Q)
/-- a fresh object: what it is, laid where nothing was -/
def okF (g : Gh) (H : Hp) (σ : L2.St) (Q : VK) (ob : Ob) (st' : Stt) : Prop := beh E g H σ st' fun g' H' => ∀ p o, H' p = none → RepO E.K g' ob (some o) → Q (.ref p) (upd H' p o)
def tfM (m : M Ob) : TE := fun σ H Q => ∃ g, at_ E m g σ H (okF E g H σ Q)
/-- readers: a value that may change till it is read -/
abbrev Rdr := Stt → Option T
/-- as RepT, a list or dict as it stands in the heap now -/
def RepK (g : Gh) (H : Hp) : T → V → Prop
  | .fz ts, v => ∃ a xs, v = .ref a ∧ H a = some (.lst xs) ∧ RepL E.K g ts xs
  | .dic ks vs, v => ∃ a kvs, v = .ref a ∧ H a = some (.dK kvs) ∧ ks.map keyOf = kvs.map (fun p => some p.1) ∧ RepL E.K g vs (kvs.map (·.2))
  | t, v => RepT E.K g t v
def Reads (g : Gh) (H : Hp) (σ : L2.St) (rd : Rdr) (v : V) : Prop :=
  ∀ g' st' H' t, Rel E.K g' st' σ H' → Stp g g' H H' → rd st' = some t → RepK E g' H' t v
def okR (g : Gh) (H : Hp) (σ : L2.St) (Q : VK) (rd : Rdr) (st' : Stt) : Prop := beh E g H σ st' fun g' H' => ∀ v, Reads E g' H' σ rd v → Q v H'
def toM (m : M Rdr) : TE := fun σ H Q => ∃ g, at_ E m g σ H (okR E g H σ Q)
structure ME (X : Cx) (e : Expr) (m : M T) : Prop where pe : PE X e (teM E m)
structure TM (X : Cx) (e : Expr) (m : M Bool) : Prop where pt : PT X e (ttM E m)
structure AM (X : Cx) (e : List Expr) (m : M (List T)) : Prop where pa : PA X e (taM E m)
structure FE (X : Cx) (e : Expr) (m : M Ob) : Prop where pe : PE X e (tfM E m)
structure OE (X : Cx) (e : Expr) (m : M Rdr) : Prop where pe : PE X e (toM E m)
end

section
variable {E : Ev} {g g1 : Gh} {H H1 : Hp} {σ : L2.St}
theorem exW.step (s : Stp g g1 H H1) {x : Xn} {st' : Stt} (h : exW E g H σ x st') : exW E g1 H1 σ x st' := fun g' H' c d r t => h g' H' c d r (s.trans t)
theorem beh.step (s : Stp g g1 H H1) {st' : Stt} {P : Gh → Hp → Prop} (h : beh E g H σ st' P) : beh E g1 H1 σ st' P := fun g' H' r t => h g' H' r (s.trans t)
/-- m, then f: what m's end is to give -/
theorem at_bind {α β : Type} {m : M α} {f : α → M β} {Φ : β → Stt → Prop} {Ψ : α → Stt → Prop} (h : at_ E (m >>= f) g σ H Φ)
    (k : ∀ a st1, (∀ g1 H1, Rel E.K g1 st1 σ H1 → Stp g g1 H H1 → ∃ st, Rel E.K g1 st σ H1 ∧ run (f a) st Φ (exW E g1 H1 σ)) → Ψ a st1) : at_ E m g σ H Ψ := by
  obtain ⟨st, r, h⟩ := h
  refine ⟨st, r, run_mono (run_bind h) (fun a st1 q => k a st1 fun g1 H1 r1 s1 => ⟨st1, r1, run_mono q (fun _ _ z => z) fun _ _ z => z.step s1⟩) fun _ _ z => z⟩
theorem at_mono {α : Type} {m : M α} {Φ Ψ : α → Stt → Prop} (h : at_ E m g σ H Φ) (k : ∀ a st, Φ a st → Ψ a st) : at_ E m g σ H Ψ := by
  obtain ⟨st, r, h⟩ := h
  exact ⟨st, r, run_mono h k fun _ _ z => z⟩
theorem at_pure {α : Type} {a : α} {Φ : α → Stt → Prop} (h : at_ E (pure a) g σ H Φ) : ∃ st, Rel E.K g st σ H ∧ Φ a st := h
theorem at_ofO {α : Type} {o : Option α} {Φ : α → Stt → Prop} (h : at_ E (ofO o) g σ H Φ) : ∃ a st, o = some a ∧ Rel E.K g st σ H ∧ Φ a st := by
  cases o with
  | none => obtain ⟨_, _, h⟩ := h; exact h.elim
  | some a => obtain ⟨st, r, h⟩ := h; exact ⟨a, st, rfl, r, h⟩
end
end Sw
namespace Sw
open PySem PySem.Spec PyProof.Rows L2

section
variable {E : Ev} {g g1 : Gh} {H H1 : Hp} {σ : L2.St}
/-- a family of ends that goes with the ghost -/
def Steps {β : Type} (Φ : Gh → Hp → β → Stt → Prop) : Prop := ∀ g g1 H H1 b st, Stp g g1 H H1 → Φ g H b st → Φ g1 H1 b st
theorem st_okT {Q : VK} : Steps (fun g H => okT E g H σ Q) := fun _ _ _ _ _ _ s h => beh.step s h
theorem st_okB {Q : Bool → Hp → Prop} : Steps (fun g H => okB E g H σ Q) := fun _ _ _ _ _ _ s h => beh.step s h
theorem st_okL {Q : List V → Hp → Prop} : Steps (fun g H => okL E g H σ Q) := fun _ _ _ _ _ _ s h => beh.step s h
theorem st_okF {Q : VK} : Steps (fun g H => okF E g H σ Q) := fun _ _ _ _ _ _ s h => beh.step s h
theorem st_okR {Q : VK} : Steps (fun g H => okR E g H σ Q) := fun _ _ _ _ _ _ s h => beh.step s h

theorem at_step {α : Type} {m : M α} {Φ Ψ : α → Stt → Prop} {st : Stt} (r : Rel E.K g1 st σ H1) (q : run m st Φ (exW E g1 H1 σ)) (k : ∀ a st, Φ a st → Ψ a st) : at_ E m g1 σ H1 Ψ := ⟨st, r, run_mono q k fun _ _ z => z⟩
theorem seq_any {α β : Type} {m : M α} {f : α → M β} {Φ : Gh → Hp → β → Stt → Prop} (hΦ : Steps Φ) {Ψ : α → Stt → Prop} (h : at_ E (m >>= f) g σ H (Φ g H))
    (k : ∀ a st1, (∀ g1 H1, Rel E.K g1 st1 σ H1 → Stp g g1 H H1 → at_ E (f a) g1 σ H1 (Φ g1 H1)) → Ψ a st1) : at_ E m g σ H Ψ :=
  at_bind h fun a st1 q => k a st1 fun g1 H1 r1 s1 => by
    obtain ⟨st, r, z⟩ := q g1 H1 r1 s1
    exact ⟨st, r, run_mono z (fun b st' y => hΦ _ _ _ _ b st' s1 y) fun _ _ y => y⟩
theorem seqT {β : Type} {m : M T} {f : T → M β} {Φ : Gh → Hp → β → Stt → Prop} (hΦ : Steps Φ) {Q : VK} (h : at_ E (m >>= f) g σ H (Φ g H))
    (k : ∀ t v g1 H1, Stp g g1 H H1 → RepT E.K g1 t v → at_ E (f t) g1 σ H1 (Φ g1 H1) → Q v H1) : teM E m σ H Q :=
  ⟨g, seq_any hΦ h fun t st1 q g1 H1 r1 s1 v rv => k t v g1 H1 s1 rv (q g1 H1 r1 s1)⟩
theorem seqB {β : Type} {m : M Bool} {f : Bool → M β} {Φ : Gh → Hp → β → Stt → Prop} (hΦ : Steps Φ) {Q : Bool → Hp → Prop} (h : at_ E (m >>= f) g σ H (Φ g H))
    (k : ∀ b g1 H1, Stp g g1 H H1 → at_ E (f b) g1 σ H1 (Φ g1 H1) → Q b H1) : ttM E m σ H Q :=
  ⟨g, seq_any hΦ h fun t st1 q g1 H1 r1 s1 => k t g1 H1 s1 (q g1 H1 r1 s1)⟩
theorem seqO {β : Type} {m : M Rdr} {f : Rdr → M β} {Φ : Gh → Hp → β → Stt → Prop} (hΦ : Steps Φ) {Q : VK} (h : at_ E (m >>= f) g σ H (Φ g H))
    (k : ∀ t v g1 H1, Stp g g1 H H1 → Reads E g1 H1 σ t v → at_ E (f t) g1 σ H1 (Φ g1 H1) → Q v H1) : toM E m σ H Q :=
  ⟨g, seq_any hΦ h fun t st1 q g1 H1 r1 s1 v rv => k t v g1 H1 s1 rv (q g1 H1 r1 s1)⟩
theorem seqL {β : Type} {m : M (List T)} {f : List T → M β} {Φ : Gh → Hp → β → Stt → Prop} (hΦ : Steps Φ) {Q : List V → Hp → Prop} (h : at_ E (m >>= f) g σ H (Φ g H))
    (k : ∀ t v g1 H1, Stp g g1 H H1 → RepL E.K g1 t v → at_ E (f t) g1 σ H1 (Φ g1 H1) → Q v H1) : taM E m σ H Q :=
  ⟨g, seq_any hΦ h fun t st1 q g1 H1 r1 s1 v rv => k t v g1 H1 s1 rv (q g1 H1 r1 s1)⟩

/-! ### what stands is read as it stands -/
theorem RepT.k (zs : Same g.Z H) : ∀ {t : T} {v : V}, RepT E.K g t v → RepK E g H t v
  | .fz ts, v, h => by
    unfold RepT at h
    obtain ⟨a, xs, e, q, r⟩ := h
    exact ⟨a, xs, e, zs _ _ q, r⟩
  | .non, _, h => h
  | .bl _, _, h => h
  | .int _, _, h => h
  | .str _, _, h => h
  | .ty _, _, h => h
  | .tup _, _, h => h
  | .ref _, _, h => h
  | .scr _, _, h => h
  | .dic ks vs, v, h => by
    unfold RepT at h
    obtain ⟨a, kvs, e, q, hk, r⟩ := h
    exact ⟨a, kvs, e, zs _ _ q, hk, r⟩
theorem Reads.const {t : T} {v : V} (h : RepT E.K g t v) : Reads E g H σ (fun _ => some t) v := fun g' st' H' t' r s e => by
  cases e
  exact RepT.k r.zs (h.step s)
theorem Reads.step {rd : Rdr} {v : V} (s : Stp g g1 H H1) (h : Reads E g H σ rd v) : Reads E g1 H1 σ rd v := fun g' st' H' t r s' e => h g' st' H' t r (s.trans s') e
end

/-! ### names -/
def peekS : Sl → Option T
  | .emp => none
  | .val t => some t
  | .own (.lst ts) => some (.fz ts)
  | .own (.dct ks vs) => some (.dic ks vs)
  | .own _ => none
/-- a name's value as it stands, a boxed list as its items -/
def peekT (S : List Ob) : T → Option T
  | .ref a => match S[a]? with
    | some (.lst ts) => some (.fz ts)
    | some (.dct ks vs) => some (.dic ks vs)
    | _ => none
  | t => some t
def rVar (i : Nat) : Rdr := fun st => match st.σ[i]? with
  | some s => (peekS s).bind (peekT st.S)
  | none => none
/-- a name to be read -/
def oVar (i : Nat) : M Rdr := fun st => match st.σ[i]? with
  | some .emp => none
  | none => none
  | some _ => some (.ok (rVar i), st)
/-- a name's value -/
def eVar (i : Nat) : M T := fun st => match st.σ[i]? with
  | some (.val t) => some (.ok t, st)
  | _ => none
/-- a name's own list, given away: from here on it stands still -/
def eFrz (i : Nat) : M T := fun st => match st.σ[i]? with
  | some (.own (.lst ts)) => some (.ok (.fz ts), { st with σ := st.σ.set i (.val (.fz ts)) })
  | _ => none

section
variable {E : Ev} {g g1 : Gh} {H H1 : Hp} {σ : L2.St}
/-- an address comes to stand still -/
def Gh.frz (g : Gh) (p : Addr) (o : HO) : Gh := { g with own := fun q => if q = p then .fz else g.own q, Z := upd g.Z p o }
theorem Gh.frz_z {p : Addr} {o : HO} (h : g.Z p = none) : Same g.Z (g.frz p o).Z := fun b u e => by
  show upd g.Z p o b = some u
  rw [upd_ne (ne_of_none e h)]
  exact e
theorem Gh.frz_own {p q : Addr} {o : HO} (h : q ≠ p) : (g.frz p o).own q = g.own q := by
  show (if q = p then _ else _) = _
  rw [if_neg h]
/-- the ghost alone goes on -/
structure GStp (g g' : Gh) : Prop where
  z : Same g.Z g'.Z
  n : g.n ≤ g'.n
  ρ : ∀ a, a < g.n → g'.ρ a = g.ρ a
theorem Stp.gs {g g' : Gh} (s : Stp g g' H H1) : GStp g g' := ⟨s.z, s.n, s.ρ⟩
section
variable {K : PySem.W.Frag} {g' : Gh}
mutual
theorem RepT.gstep (s : GStp g g') : ∀ {t : T} {v : V}, RepT K g t v → RepT K g' t v
  | .non, v, h => by unfold RepT at h ⊢; exact h
  | .bl _, v, h => by unfold RepT at h ⊢; exact h
  | .int _, v, h => by unfold RepT at h ⊢; exact h
  | .str _, v, h => by unfold RepT at h ⊢; exact h
  | .ty _, v, h => by unfold RepT at h ⊢; exact h
  | .tup ts, v, h => by
    unfold RepT at h ⊢
    obtain ⟨a, xs, e, q, r⟩ := h
    exact ⟨a, xs, e, sameT s.z q, RepL.gstep s r⟩
  | .fz ts, v, h => by
    unfold RepT at h ⊢
    obtain ⟨a, xs, e, q, r⟩ := h
    exact ⟨a, xs, e, s.z _ _ q, RepL.gstep s r⟩
  | .ref n, v, h => by
    unfold RepT at h ⊢
    exact ⟨Nat.lt_of_lt_of_le h.1 s.n, by rw [h.2, s.ρ n h.1]⟩
  | .scr ns, v, h => by
    unfold RepT at h ⊢
    obtain ⟨a, e, q⟩ := h
    exact ⟨a, e, s.z.seq q⟩
  | .dic ks vs, v, h => by
    unfold RepT at h ⊢
    obtain ⟨a, kvs, e, q, hk, r⟩ := h
    exact ⟨a, kvs, e, s.z _ _ q, hk, RepL.gstep s r⟩
theorem RepL.gstep (s : GStp g g') : ∀ {ts : List T} {xs : List V}, RepL K g ts xs → RepL K g' ts xs
  | [], xs, h => by unfold RepL at h ⊢; exact h
  | t :: ts, xs, h => by
    unfold RepL at h ⊢
    obtain ⟨x, r, e, a, b⟩ := h
    exact ⟨x, r, e, RepT.gstep s a, RepL.gstep s b⟩
end
theorem RepO.gstep (s : GStp g g') : ∀ {ob : Ob} {o : Option HO}, RepO K g ob o → RepO K g' ob o
  | .lst _, _, ⟨xs, e, r⟩ => ⟨xs, e, r.gstep s⟩
  | .dct _ _, _, ⟨kvs, e, hk, r⟩ => ⟨kvs, e, hk, r.gstep s⟩
  | .dead, _, h => h
end
/-- a new object, laid to stand still -/
theorem Rel.frz {st : Stt} {p : Addr} {o : HO} (r : Rel E.K g st σ H) (hp : H p = none) : Rel E.K (g.frz p o) st σ (upd H p o) ∧ Stp g (g.frz p o) H (upd H p o) := by
  have zp : g.Z p = none := r.zs.free hp
  have op : g.own p = .out := r.fr p hp
  have gs : GStp g (g.frz p o) := ⟨Gh.frz_z zp, Nat.le_refl _, fun _ _ => rfl⟩
  refine ⟨⟨⟨fun b u e => ?_, fun b u e => ?_, fun b e => ?_, r.n, fun a ob e => ?_⟩, r.len, fun i s v e1 e2 => ?_⟩, ⟨gs.z, gs.n, gs.ρ, fun b u h1 h2 => ?_⟩⟩
  · by_cases hb : b = p
    · subst hb
      have e : upd g.Z b o b = some u := e
      rw [upd_same] at e ⊢
      exact e
    · have e : upd g.Z p o b = some u := e
      rw [upd_ne hb] at e ⊢
      exact r.zs b u e
  · by_cases hb : b = p
    · show (if b = p then _ else _) = _
      rw [if_pos hb]
    · have e : upd g.Z p o b = some u := e
      rw [upd_ne hb] at e
      rw [Gh.frz_own hb]
      exact r.zo b u e
  · by_cases hb : b = p
    · subst hb
      rw [upd_same] at e
      cases e
    · rw [upd_ne hb] at e
      rw [Gh.frz_own hb]
      exact r.fr b e
  · obtain ⟨h1, h2⟩ := r.box a ob e
    have hb : g.ρ a ≠ p := fun z => by rw [z, op] at h1; cases h1
    refine ⟨?_, ?_⟩
    · rw [Gh.frz_own (show (g.frz p o).ρ a ≠ p from hb)]
      exact h1
    · show RepO E.K _ ob (upd H p o (g.ρ a))
      rw [upd_ne hb]
      exact h2.gstep gs
  · have q := r.slot i s v e1 e2
    cases s with
    | emp => trivial
    | val t =>
      obtain ⟨x, e, q⟩ := q
      exact ⟨x, e, q.gstep gs⟩
    | own ob =>
      obtain ⟨p', e, q1, q2⟩ := q
      have hb : p' ≠ p := fun z => by rw [z, op] at q1; cases q1
      refine ⟨p', e, ?_, ?_⟩
      · rw [Gh.frz_own hb]
        exact q1
      · rw [upd_ne hb]
        exact q2.gstep gs
  · have hb : b ≠ p := ne_of_none h2 hp
    rw [Gh.frz_own hb, upd_ne hb]
    exact ⟨h1, h2⟩

theorem Reads.val {t : T} {v : V} (h : RepT E.K g t v) : Reads E g H σ (fun st => peekT st.S t) v := fun g' st' H' t' r s e => by
  cases t with
  | ref a =>
    unfold peekT at e
    have h' := h.step s
    unfold RepT at h'
    cases eb : st'.S[a]? with
    | none => simp only [eb] at e; cases e
    | some ob =>
      simp only [eb] at e
      cases ob with
      | lst ts =>
        cases e
        obtain ⟨_, xs, e1, e2⟩ := r.box a _ eb
        exact ⟨g'.ρ a, xs, h'.2, e1, e2⟩
      | dct ks vs =>
        cases e
        obtain ⟨_, kvs, e1, e2, e3⟩ := r.box a _ eb
        exact ⟨g'.ρ a, kvs, h'.2, e1, e2, e3⟩
      | dead => cases e
  | _ => cases e; exact RepT.k r.zs (h.step s)
/-- a value, read where it comes -/
def oE (m : M T) : M Rdr := do let t ← m; pure fun st => peekT st.S t
theorem ME.o {X : Cx} {e : Expr} {m : M T} (h : ME E X e m) : OE E X e (oE m) :=
  ⟨PE.mono h.pe fun σ H Q ⟨g, q⟩ => seqT st_okR q fun t v g1 H1 s1 rv q1 => by
    obtain ⟨st, r, z⟩ := at_pure q1
    exact z g1 H1 r (Stp.refl _ _) v (Reads.val rv)⟩
theorem var_rd {i : Nat} {st : Stt} {v : V} (h : σ[i]? = some (some v)) : Reads E g H σ (rVar i) v := fun g' st' H' t r s e => by
  unfold rVar at e
  cases es : st'.σ[i]? with
  | none => rw [es] at e; cases e
  | some sl =>
    rw [es] at e
    have q := r.slot i sl (some v) es h
    cases sl with
    | emp => cases e
    | val u =>
      obtain ⟨x, ex, rx⟩ := q
      cases ex
      have e : peekT st'.S u = some t := e
      cases u with
      | ref a =>
        unfold peekT at e
        cases eb : st'.S[a]? with
        | none => simp only [eb] at e; cases e
        | some ob =>
          simp only [eb] at e
          cases ob with
          | lst ts =>
            cases e
            obtain ⟨_, b2⟩ := r.box a _ eb
            unfold RepT at rx
            obtain ⟨xs, e1, e2⟩ := b2
            exact ⟨g'.ρ a, xs, rx.2, e1, e2⟩
          | dct ks vs =>
            cases e
            obtain ⟨_, b2⟩ := r.box a _ eb
            unfold RepT at rx
            obtain ⟨kvs, e1, e2, e3⟩ := b2
            exact ⟨g'.ρ a, kvs, rx.2, e1, e2, e3⟩
          | dead => cases e
      | _ => cases e; exact RepT.k r.zs rx
    | own ob =>
      obtain ⟨p, ex, _, ro⟩ := q
      cases ex
      cases ob with
      | lst ts =>
        have e : some (T.fz ts) = some t := e
        cases e
        obtain ⟨xs, e1, e2⟩ := ro
        exact ⟨p, xs, rfl, e1, e2⟩
      | dct ks vs =>
        have e : some (T.dic ks vs) = some t := e
        cases e
        obtain ⟨kvs, e1, e2, e3⟩ := ro
        exact ⟨p, kvs, rfl, e1, e2, e3⟩
      | dead => cases e
theorem oe_var {X : Cx} {i : Nat} {e : Expr} (h : PE X e (tVar i)) : OE E X e (oVar i) := by
  refine ⟨PE.mono h fun σ H Q ⟨g, st, r, q⟩ => ?_⟩
  unfold run oVar at q
  have key : ∀ s, st.σ[i]? = some s → s ≠ .emp → ∃ v, σ[i]? = some (some v) := fun s es hs => by
    have hi : i < σ.length := by rw [← r.len]; exact (List.getElem?_eq_some_iff.mp es).1
    have ev : σ[i]? = some σ[i] := List.getElem?_eq_getElem hi
    have z := r.slot i s _ es ev
    cases s with
    | emp => exact absurd rfl hs
    | val t => obtain ⟨x, e, _⟩ := z; exact ⟨x, by rw [ev, e]⟩
    | own ob => obtain ⟨p, e, _⟩ := z; exact ⟨_, by rw [ev, e]⟩
  cases es : st.σ[i]? with
  | none => rw [es] at q; exact q.elim
  | some s =>
    rw [es] at q
    cases s with
    | emp => exact q.elim
    | val t =>
      obtain ⟨v, ev⟩ := key _ es (fun z => by cases z)
      exact ⟨v, ev, q g H r (Stp.refl _ _) v (var_rd (st := st) ev)⟩
    | own ob =>
      obtain ⟨v, ev⟩ := key _ es (fun z => by cases z)
      exact ⟨v, ev, q g H r (Stp.refl _ _) v (var_rd (st := st) ev)⟩
theorem me_var {X : Cx} {i : Nat} {e : Expr} (h : PE X e (tVar i)) : ME E X e (eVar i) := by
  refine ⟨PE.mono h fun σ H Q ⟨g, st, r, q⟩ => ?_⟩
  unfold run eVar at q
  cases es : st.σ[i]? with
  | none => rw [es] at q; exact q.elim
  | some s =>
    rw [es] at q
    cases s with
    | emp => exact q.elim
    | own _ => exact q.elim
    | val t =>
      have hi : i < σ.length := by rw [← r.len]; exact (List.getElem?_eq_some_iff.mp es).1
      have ev : σ[i]? = some σ[i] := List.getElem?_eq_getElem hi
      obtain ⟨x, e, rx⟩ := r.slot i _ _ es ev
      exact ⟨x, by rw [ev, e], q g H r (Stp.refl _ _) x rx⟩
/-- an own list of a slot, frozen -/
theorem Rel.freeze {st : Stt} {i : Nat} {p : Addr} {ts : List T} {xs : List V} (r : Rel E.K g st σ H) (es : st.σ[i]? = some (.own (.lst ts))) (ev : σ[i]? = some (some (.ref p))) (op : g.own p = .slot i) (hp : H p = some (.lst xs)) (rl : RepL E.K g ts xs) :
    Rel E.K (g.frz p (.lst xs)) { st with σ := st.σ.set i (.val (.fz ts)) } σ H ∧ Stp g (g.frz p (.lst xs)) H H ∧ RepT E.K (g.frz p (.lst xs)) (.fz ts) (.ref p) := by
  have zp : g.Z p = none := by
    cases z : g.Z p with
    | none => rfl
    | some o => rw [r.zo p o z] at op; cases op
  have gs : GStp g (g.frz p (.lst xs)) := ⟨Gh.frz_z zp, Nat.le_refl _, fun _ _ => rfl⟩
  have zz : (g.frz p (.lst xs)).Z p = some (.lst xs) := upd_same
  have rt : RepT E.K (g.frz p (.lst xs)) (.fz ts) (.ref p) := by
    unfold RepT
    exact ⟨p, xs, rfl, zz, rl.gstep gs⟩
  refine ⟨⟨⟨fun b u e => ?_, fun b u e => ?_, fun b e => ?_, r.n, fun a ob e => ?_⟩, by simpa using r.len, fun j s v e1 e2 => ?_⟩, ⟨gs.z, gs.n, gs.ρ, fun b u h1 h2 => ?_⟩, rt⟩
  · by_cases hb : b = p
    · subst hb
      rw [zz] at e
      rw [hp]
      exact e
    · have e : upd g.Z p (.lst xs) b = some u := e
      rw [upd_ne hb] at e
      exact r.zs b u e
  · by_cases hb : b = p
    · show (if b = p then _ else _) = _
      rw [if_pos hb]
    · have e : upd g.Z p (.lst xs) b = some u := e
      rw [upd_ne hb] at e
      rw [Gh.frz_own hb]
      exact r.zo b u e
  · have hb : b ≠ p := fun z => by rw [z, hp] at e; cases e
    rw [Gh.frz_own hb]
    exact r.fr b e
  · obtain ⟨h1, h2⟩ := r.box a ob e
    have hb : g.ρ a ≠ p := fun z => by rw [z, op] at h1; cases h1
    refine ⟨?_, h2.gstep gs⟩
    rw [Gh.frz_own (show (g.frz p (.lst xs)).ρ a ≠ p from hb)]
    exact h1
  · by_cases hj : j = i
    · subst hj
      have hi : j < st.σ.length := (List.getElem?_eq_some_iff.mp es).1
      have e1 : (st.σ.set j (.val (.fz ts)))[j]? = some s := e1
      rw [List.getElem?_set_self hi] at e1
      cases e1
      rw [ev] at e2
      cases e2
      exact ⟨_, rfl, rt⟩
    · have e1 : (st.σ.set i (.val (.fz ts)))[j]? = some s := e1
      rw [List.getElem?_set_ne (Ne.symm hj)] at e1
      have q := r.slot j s v e1 e2
      cases s with
      | emp => trivial
      | val t =>
        obtain ⟨x, e, q⟩ := q
        exact ⟨x, e, q.gstep gs⟩
      | own ob =>
        obtain ⟨p', e, q1, q2⟩ := q
        have hb : p' ≠ p := fun z => by
          rw [z, op] at q1
          injection q1 with q1
          exact hj q1.symm
        refine ⟨p', e, ?_, q2.gstep gs⟩
        rw [Gh.frz_own hb]
        exact q1
  · have hb : b ≠ p := fun z => by rw [z, op] at h1; cases h1
    rw [Gh.frz_own hb]
    exact ⟨h1, h2⟩
theorem me_frz {X : Cx} {i : Nat} {e : Expr} (h : PE X e (tVar i)) : ME E X e (eFrz i) := by
  refine ⟨PE.mono h fun σ H Q ⟨g, st, r, q⟩ => ?_⟩
  unfold run eFrz at q
  cases es : st.σ[i]? with
  | none => rw [es] at q; exact q.elim
  | some s =>
    rw [es] at q
    cases s with
    | emp => exact q.elim
    | val _ => exact q.elim
    | own ob =>
      cases ob with
      | dct _ _ => exact q.elim
      | dead => exact q.elim
      | lst ts =>
        have hi : i < σ.length := by rw [← r.len]; exact (List.getElem?_eq_some_iff.mp es).1
        have ev : σ[i]? = some σ[i] := List.getElem?_eq_getElem hi
        obtain ⟨p, e, op, xs, hp, rl⟩ := r.slot i _ _ es ev
        rw [e] at ev
        obtain ⟨r', s', rt⟩ := r.freeze es ev op hp rl
        exact ⟨_, ev, q _ H r' s' _ rt⟩
end
end Sw
namespace Sw
open PySem PySem.Spec PyProof.Rows L2

/-! ### trees as data: ==, in -/
mutual
def T.pd : T → PyData
  | .non => .none
  | .bl b => .bool b
  | .int i => .int i
  | .str s => .str (sS s)
  | .ty _ => .none
  | .tup ts => .tuple (T.pds ts)
  | .fz ts => .list (T.pds ts)
  | .ref _ => .none
  | .scr _ => .none
  | .dic _ _ => .none
def T.pds : List T → List PyData
  | [] => []
  | t :: ts => t.pd :: T.pds ts
end
mutual
/-- plain data, of depth at most n -/
def T.dat : Nat → T → Bool
  | _, .non => true
  | _, .bl _ => true
  | _, .int _ => true
  | _, .str s => s.all (· < 0x110000)
  | _, .ty _ => false
  | 0, .tup _ => false
  | n + 1, .tup ts => T.dats n ts
  | 0, .fz _ => false
  | n + 1, .fz ts => T.dats n ts
  | _, .ref _ => false
  | _, .scr _ => false
  | _, .dic _ _ => false
def T.dats : Nat → List T → Bool
  | _, [] => true
  | n, t :: ts => T.dat n t && T.dats n ts
end
mutual
def T.eqv : T → T → Bool
  | .non, .non => true
  | .bl a, .bl b => a == b
  | .bl a, .int j => (if a then 1 else 0) == j
  | .int i, .bl b => i == (if b then 1 else 0)
  | .int i, .int j => i == j
  | .str x, .str y => x == y
  | .tup xs, .tup ys => T.eqvs xs ys
  | .fz xs, .fz ys => T.eqvs xs ys
  | _, _ => false
def T.eqvs : List T → List T → Bool
  | [], [] => true
  | x :: xs, y :: ys => T.eqv x y && T.eqvs xs ys
  | _, _ => false
end
theorem sS_eq {x y : List Nat} : (sS x == sS y) = (x == y) := by
  by_cases e : x = y
  · subst e
    simp
  · have h : sS x ≠ sS y := fun z => e (by
      have : x.toArray = y.toArray := congrArg Str.cps z
      simpa using this)
    rw [beq_eq_false_iff_ne.mpr e, beq_eq_false_iff_ne.mpr h]
mutual
theorem T.eqv_pd : ∀ {n m : Nat} {t u : T}, t.dat n = true → u.dat m = true → PyData.eqv t.pd u.pd = T.eqv t u
  | n, m, .ty _, u, h, _ => by cases n <;> simp [T.dat] at h
  | n, m, .ref _, u, h, _ => by cases n <;> simp [T.dat] at h
  | n, m, .scr _, u, h, _ => by cases n <;> simp [T.dat] at h
  | n, m, .dic _ _, u, h, _ => by cases n <;> simp [T.dat] at h
  | n, m, t, .ty _, _, h => by cases m <;> simp [T.dat] at h
  | n, m, t, .ref _, _, h => by cases m <;> simp [T.dat] at h
  | n, m, t, .scr _, _, h => by cases m <;> simp [T.dat] at h
  | n, m, t, .dic _ _, _, h => by cases m <;> simp [T.dat] at h
  | 0, m, .tup _, u, h, _ => by simp [T.dat] at h
  | 0, m, .fz _, u, h, _ => by simp [T.dat] at h
  | n, 0, t, .tup _, _, h => by simp [T.dat] at h
  | n, 0, t, .fz _, _, h => by simp [T.dat] at h
  | n + 1, m + 1, .tup xs, .tup ys, h, h' => by
    have h : T.dats n xs = true := by simpa [T.dat] using h
    have h' : T.dats m ys = true := by simpa [T.dat] using h'
    unfold T.pd T.eqv PyData.eqv
    exact T.eqvs_pd h h'
  | n + 1, m + 1, .fz xs, .fz ys, h, h' => by
    have h : T.dats n xs = true := by simpa [T.dat] using h
    have h' : T.dats m ys = true := by simpa [T.dat] using h'
    unfold T.pd T.eqv PyData.eqv
    exact T.eqvs_pd h h'
  | _, _, .non, .non, _, _ => by simp [T.pd, T.eqv, PyData.eqv]
  | _, _, .non, .bl _, _, _ => by simp [T.pd, T.eqv, PyData.eqv]
  | _, _, .non, .int _, _, _ => by simp [T.pd, T.eqv, PyData.eqv]
  | _, _, .non, .str _, _, _ => by simp [T.pd, T.eqv, PyData.eqv]
  | _, _ + 1, .non, .tup _, _, _ => by simp [T.pd, T.eqv, PyData.eqv]
  | _, _ + 1, .non, .fz _, _, _ => by simp [T.pd, T.eqv, PyData.eqv]
  | _, _, .bl _, .non, _, _ => by simp [T.pd, T.eqv, PyData.eqv]
  | _, _, .bl _, .bl _, _, _ => by simp [T.pd, T.eqv, PyData.eqv]
  | _, _, .bl _, .int _, _, _ => by simp [T.pd, T.eqv, PyData.eqv]
  | _, _, .bl _, .str _, _, _ => by simp [T.pd, T.eqv, PyData.eqv]
  | _, _ + 1, .bl _, .tup _, _, _ => by simp [T.pd, T.eqv, PyData.eqv]
  | _, _ + 1, .bl _, .fz _, _, _ => by simp [T.pd, T.eqv, PyData.eqv]
  | _, _, .int _, .non, _, _ => by simp [T.pd, T.eqv, PyData.eqv]
  | _, _, .int _, .bl _, _, _ => by simp [T.pd, T.eqv, PyData.eqv]
  | _, _, .int _, .int _, _, _ => by simp [T.pd, T.eqv, PyData.eqv]
  | _, _, .int _, .str _, _, _ => by simp [T.pd, T.eqv, PyData.eqv]
  | _, _ + 1, .int _, .tup _, _, _ => by simp [T.pd, T.eqv, PyData.eqv]
  | _, _ + 1, .int _, .fz _, _, _ => by simp [T.pd, T.eqv, PyData.eqv]
  | _, _, .str _, .non, _, _ => by simp [T.pd, T.eqv, PyData.eqv]
  | _, _, .str _, .bl _, _, _ => by simp [T.pd, T.eqv, PyData.eqv]
  | _, _, .str _, .int _, _, _ => by simp [T.pd, T.eqv, PyData.eqv]
  | _, _, .str x, .str y, _, _ => by
    unfold T.pd T.eqv PyData.eqv
    exact sS_eq
  | _, _ + 1, .str _, .tup _, _, _ => by simp [T.pd, T.eqv, PyData.eqv]
  | _, _ + 1, .str _, .fz _, _, _ => by simp [T.pd, T.eqv, PyData.eqv]
  | _ + 1, _, .tup _, .non, _, _ => by simp [T.pd, T.eqv, PyData.eqv]
  | _ + 1, _, .tup _, .bl _, _, _ => by simp [T.pd, T.eqv, PyData.eqv]
  | _ + 1, _, .tup _, .int _, _, _ => by simp [T.pd, T.eqv, PyData.eqv]
  | _ + 1, _, .tup _, .str _, _, _ => by simp [T.pd, T.eqv, PyData.eqv]
  | _ + 1, _ + 1, .tup _, .fz _, _, _ => by simp [T.pd, T.eqv, PyData.eqv]
  | _ + 1, _, .fz _, .non, _, _ => by simp [T.pd, T.eqv, PyData.eqv]
  | _ + 1, _, .fz _, .bl _, _, _ => by simp [T.pd, T.eqv, PyData.eqv]
  | _ + 1, _, .fz _, .int _, _, _ => by simp [T.pd, T.eqv, PyData.eqv]
  | _ + 1, _, .fz _, .str _, _, _ => by simp [T.pd, T.eqv, PyData.eqv]
  | _ + 1, _ + 1, .fz _, .tup _, _, _ => by simp [T.pd, T.eqv, PyData.eqv]
theorem T.eqvs_pd : ∀ {n m : Nat} {ts us : List T}, T.dats n ts = true → T.dats m us = true → PyData.eqvAll (T.pds ts) (T.pds us) = T.eqvs ts us
  | n, m, [], [], _, _ => by simp [T.pds, T.eqvs, PyData.eqvAll]
  | n, m, [], _ :: _, _, _ => by simp [T.pds, T.eqvs, PyData.eqvAll]
  | n, m, _ :: _, [], _, _ => by simp [T.pds, T.eqvs, PyData.eqvAll]
  | n, m, t :: ts, u :: us, h, h' => by
    have h : t.dat n = true ∧ T.dats n ts = true := by simpa [T.dats] using h
    have h' : u.dat m = true ∧ T.dats m us = true := by simpa [T.dats] using h'
    unfold T.pds T.eqvs PyData.eqvAll
    rw [T.eqv_pd h.1 h'.1, T.eqvs_pd h.2 h'.2]
end
mutual
theorem T.pd_ok : ∀ {n : Nat} {t : T}, t.dat n = true → t.pd.canLay0 = true ∧ t.pd.depth ≤ n
  | n, .ty _, h => by cases n <;> simp [T.dat] at h
  | n, .ref _, h => by cases n <;> simp [T.dat] at h
  | n, .scr _, h => by cases n <;> simp [T.dat] at h
  | n, .dic _ _, h => by cases n <;> simp [T.dat] at h
  | 0, .tup _, h => by simp [T.dat] at h
  | 0, .fz _, h => by simp [T.dat] at h
  | n, .non, _ => by simp [T.pd, PyData.canLay0, PyData.depth]
  | n, .bl _, _ => by simp [T.pd, PyData.canLay0, PyData.depth]
  | n, .int _, _ => by simp [T.pd, PyData.canLay0, PyData.depth]
  | n, .str s, h => by
    have h : s.all (· < 0x110000) = true := by cases n <;> simpa [T.dat] using h
    refine ⟨?_, by simp [T.pd, PyData.depth]⟩
    unfold T.pd PyData.canLay0 PySem.PyData.strOk sS
    simpa using h
  | n + 1, .tup ts, h => by
    have h : T.dats n ts = true := by simpa [T.dat] using h
    have q := T.pds_ok h
    unfold T.pd PyData.canLay0 PyData.depth
    exact ⟨q.1, Nat.succ_le_succ q.2⟩
  | n + 1, .fz ts, h => by
    have h : T.dats n ts = true := by simpa [T.dat] using h
    have q := T.pds_ok h
    unfold T.pd PyData.canLay0 PyData.depth
    exact ⟨q.1, Nat.succ_le_succ q.2⟩
theorem T.pds_ok : ∀ {n : Nat} {ts : List T}, T.dats n ts = true → PyData.canLayAll0 (T.pds ts) = true ∧ PyData.depthAll (T.pds ts) ≤ n
  | n, [], _ => by simp [T.pds, PyData.canLayAll0, PyData.depthAll]
  | n, t :: ts, h => by
    have h : t.dat n = true ∧ T.dats n ts = true := by simpa [T.dats] using h
    have q1 := T.pd_ok h.1
    have q2 := T.pds_ok h.2
    unfold T.pds PyData.canLayAll0 PyData.depthAll
    exact ⟨by rw [q1.1, q2.1]; rfl, Nat.max_le.mpr ⟨q1.2, q2.2⟩⟩
end
theorem T.shaped {t : T} {n : Nat} (h : t.dat n = true) (hn : n ≤ 64) : SeqAt.shaped t.pd = true := by
  have q := T.pd_ok h
  unfold SeqAt.shaped
  rw [q.1, Bool.true_and]
  exact decide_eq_true (Nat.le_trans q.2 hn)
section
variable {E : Ev} {g : Gh} {H : Hp}
mutual
theorem RepT.dp (zs : Same g.Z H) : ∀ {n : Nat} {t : T} {v : V}, t.dat n = true → RepT E.K g t v → Dp E.K H v t.pd
  | n, .ty _, _, h, _ => by cases n <;> simp [T.dat] at h
  | n, .ref _, _, h, _ => by cases n <;> simp [T.dat] at h
  | n, .scr _, _, h, _ => by cases n <;> simp [T.dat] at h
  | n, .dic _ _, _, h, _ => by cases n <;> simp [T.dat] at h
  | 0, .tup _, _, h, _ => by simp [T.dat] at h
  | 0, .fz _, _, h, _ => by simp [T.dat] at h
  | _, .non, v, _, r => by unfold RepT at r; subst r; exact .non
  | _, .bl b, v, _, r => by unfold RepT at r; subst r; exact .bl b
  | _, .int i, v, _, r => by unfold RepT at r; subst r; exact .int i
  | _, .str s, v, _, r => by unfold RepT at r; subst r; exact .str _
  | n + 1, .tup ts, v, h, r => by
    have h : T.dats n ts = true := by simpa [T.dat] using h
    unfold RepT at r
    obtain ⟨a, xs, rfl, q, r⟩ := r
    exact .tup (sameT zs q) (RepL.dp zs h r)
  | n + 1, .fz ts, v, h, r => by
    have h : T.dats n ts = true := by simpa [T.dat] using h
    unfold RepT at r
    obtain ⟨a, xs, rfl, q, r⟩ := r
    exact .lst (.inl (.inl (zs _ _ q))) (RepL.dp zs h r)
theorem RepL.dp (zs : Same g.Z H) : ∀ {n : Nat} {ts : List T} {xs : List V}, T.dats n ts = true → RepL E.K g ts xs → DpAll E.K H xs (T.pds ts)
  | n, [], xs, _, r => by unfold RepL at r; subst r; exact .nil
  | n, t :: ts, xs, h, r => by
    have h : t.dat n = true ∧ T.dats n ts = true := by simpa [T.dats] using h
    unfold RepL at r
    obtain ⟨x, q, rfl, r1, r2⟩ := r
    exact .cons (RepT.dp zs h.1 r1) (RepL.dp zs h.2 r2)
end
theorem RepK.dp (zs : Same g.Z H) {n : Nat} {t : T} {v : V} (h : t.dat n = true) (r : RepK E g H t v) : Dp E.K H v t.pd := by
  cases t with
  | fz ts =>
    obtain ⟨a, xs, rfl, q, r⟩ := r
    cases n with
    | zero => simp [T.dat] at h
    | succ n =>
      have h : T.dats n ts = true := by simpa [T.dat] using h
      exact .lst (.inl (.inl q)) (RepL.dp zs h r)
  | dic _ _ => cases n <;> simp [T.dat] at h
  | _ => exact RepT.dp (E := E) zs h r
end
/-- == where both are plain data -/
def eqO (t u : T) : Option Bool := if t.dat 60 && u.dat 60 then some (T.eqv t u) else none
def neO (t u : T) : Option Bool := if t.dat 60 && u.dat 60 then some (!T.eqv t u) else none
/-- x in a list -/
def inO (t u : T) : Option Bool := match u with
  | .fz us => if t.dat 60 && T.dats 59 us then some (us.any fun z => T.eqv z t) else none
  | _ => none
def ninO (t u : T) : Option Bool := match u with
  | .fz us => if t.dat 60 && T.dats 59 us then some (!us.any fun z => T.eqv z t) else none
  | _ => none
end Sw
namespace Sw
open PySem PySem.Spec PyProof.Rows L2

section
variable {E : Ev} {g g1 : Gh} {H H1 : Hp} {σ : L2.St} {X : Cx} {pos : Pos}

/-! ### constants -/
theorem at_con {t : T} {v : V} {Q : VK} (rt : ∀ g, RepT E.K g t v) (h : teM E (pure t) σ H Q) : Q v H := by
  obtain ⟨g, q⟩ := h
  obtain ⟨st, r, z⟩ := at_pure q
  exact z g H r (Stp.refl _ _) v (rt g)
theorem me_of {e : Expr} {t : T} {v : V} (h : PE X e (tC v)) (rt : ∀ g, RepT E.K g t v) : ME E X e (pure t) := ⟨PE.mono h fun _ _ _ q => at_con rt q⟩
theorem me_int {i : Int} {j} : ME E X (.Constant (.int i) j pos) (pure (.int i)) := me_of pe_int fun g => by unfold RepT; rfl
theorem me_bl {b : Bool} {j} : ME E X (.Constant (.bool b) j pos) (pure (.bl b)) := me_of pe_bl fun g => by unfold RepT; rfl
theorem me_non {j} : ME E X (.Constant .none j pos) (pure .non) := me_of pe_non fun g => by unfold RepT; rfl
theorem me_str {x : Str} {s : List Nat} {j} (h : x = sS s) : ME E X (.Constant (.str x) j pos) (pure (.str s)) := me_of pe_str fun g => by unfold RepT; rw [h]
/-- a module's constant -/
theorem me_glob {x : Str} {v : V} {u : Value} {t : T} (hg : Gl X x) (hm : X.mg x = some u) (r : RelV v u) (rt : ∀ g, RepT E.K g t v) (hd : (x == ("__debug__" : Str)) = false := by decide) : ME E X (.Name x pos) (pure t) := me_of (pe_glob hg hm r hd) rt

/-! ### operators by values -/
/-- the rule r gives f's value, nothing new laid -/
def LR2 (E : Ev) (r : R2) (f : T → T → Option T) : Prop := ∀ (g : Gh) (H : Hp) (t u s : T) (v w : V) (Q : VK), Same g.Z H → RepK E g H t v → RepK E g H u w → f t u = some s → (∀ x, RepT E.K g s x → Q x H) → r v w H Q
def eOp2 (f : T → T → Option T) (ma mb : M Rdr) : M T := do
  let ra ← ma
  let rb ← mb
  fun st => match ra st, rb st with
    | some a, some b => ofO (f a b) st
    | _, _ => none
/-- two readers, as they are read at the end -/
theorem at_rd2 {β : Type} {ra rb : Rdr} {f : T → T → M β} {Φ : β → Stt → Prop} {v w : V}
    (h : at_ E (fun st => match ra st, rb st with | some a, some b => f a b st | _, _ => none) g σ H Φ) (r1 : Reads E g H σ ra v) (r2 : Reads E g H σ rb w) :
    ∃ a b, RepK E g H a v ∧ RepK E g H b w ∧ at_ E (f a b) g σ H Φ := by
  obtain ⟨st, r, h⟩ := h
  unfold run at h
  cases e1 : ra st with
  | none => simp only [e1] at h
  | some a =>
    cases e2 : rb st with
    | none => simp only [e1, e2] at h
    | some b =>
      simp only [e1, e2] at h
      exact ⟨a, b, r1 g st H a r (Stp.refl _ _) e1, r2 g st H b r (Stp.refl _ _) e2, st, r, h⟩
theorem at_rd1 {β : Type} {ra : Rdr} {f : T → M β} {Φ : β → Stt → Prop} {v : V}
    (h : at_ E (fun st => match ra st with | some a => f a st | none => none) g σ H Φ) (r1 : Reads E g H σ ra v) :
    ∃ a, RepK E g H a v ∧ at_ E (f a) g σ H Φ := by
  obtain ⟨st, r, h⟩ := h
  unfold run at h
  cases e1 : ra st with
  | none => simp only [e1] at h
  | some a =>
    simp only [e1] at h
    exact ⟨a, r1 g st H a r (Stp.refl _ _) e1, st, r, h⟩
theorem at_zs {β : Type} {m : M β} {Φ : β → Stt → Prop} (h : at_ E m g σ H Φ) : Same g.Z H := let ⟨_, r, _⟩ := h; r.zs
theorem tOp_lift {r : R2} {f : T → T → Option T} {ta tb : TE} {ma mb : M Rdr} (hl : LR2 E r f) (ha : ∀ σ H Q, toM E ma σ H Q → ta σ H Q) (hb : ∀ σ H Q, toM E mb σ H Q → tb σ H Q) {Q : VK}
    (h : teM E (eOp2 f ma mb) σ H Q) : tOp r ta tb σ H Q := by
  obtain ⟨g, h⟩ := h
  refine ha _ _ _ (seqO st_okT h fun ra v g1 H1 s1 rd1 h1 => hb _ _ _ (seqO st_okT h1 fun rb w g2 H2 s2 rd2 h2 => ?_))
  obtain ⟨a, b, k1, k2, h3⟩ := at_rd2 h2 (rd1.step s2) rd2
  obtain ⟨s, st, e, rl, z⟩ := at_ofO h3
  exact hl g2 H2 a b s v w Q rl.zs k1 k2 e fun x rx => z g2 H2 rl (Stp.refl _ _) x rx
theorem me_op {op : Operator} {r : R2} {f : T → T → Option T} {a b : Expr} {ma mb : M Rdr} (ho : OpR X (binaryOp op) r) (hl : LR2 E r f) (ha : OE E X a ma) (hb : OE E X b mb) : ME E X (.BinOp a op b pos) (eOp2 f ma mb) :=
  ⟨PE.mono (pe_op ho ha.pe hb.pe) fun _ _ _ h => tOp_lift hl (fun _ _ _ z => z) (fun _ _ _ z => z) h⟩
theorem me_cmp {op : CmpOp} {r : R2} {f : T → T → Option T} {a b : Expr} {ma mb : M Rdr} (ho : OpR X (compareOp op) r) (hl : LR2 E r f) (ha : OE E X a ma) (hb : OE E X b mb) (hm : behindInMarks op b = false) : ME E X (.Compare a [op] [b] pos) (eOp2 f ma mb) :=
  ⟨PE.mono (pe_cmpR ho ha.pe hb.pe hm) fun _ _ _ h => tOp_lift hl (fun _ _ _ z => z) (fun _ _ _ z => z) h⟩
theorem me_ix {r : R2} {f : T → T → Option T} {a b : Expr} {ma mb : M Rdr} (ho : IxR X r) (hl : LR2 E r f) (ha : OE E X a ma) (hb : OE E X b mb) (hs : PlainIx b) : ME E X (.Subscript a b pos) (eOp2 f ma mb) :=
  ⟨PE.mono (pe_ix ho ha.pe hb.pe hs) fun _ _ _ h => tOp_lift hl (fun _ _ _ z => z) (fun _ _ _ z => z) h⟩
/-- a test by a value that is a bool -/
def asB (m : M T) : M Bool := do
  match ← m with
  | .bl b => pure b
  | _ => stuck
theorem RepT.bl_of {K : PySem.W.Frag} {b : Bool} {v : V} (h : RepT K g (.bl b) v) : v = .bl b := by unfold RepT at h; exact h
theorem asB_lift {m : M T} {Q : Bool → Hp → Prop} (h : ttM E (asB m) σ H Q) : teM E m σ H fun x H' => ∃ k, x = .bl k ∧ Q k H' := by
  obtain ⟨g, h⟩ := h
  refine seqT st_okB h fun t v g1 H1 s1 rt h1 => ?_
  cases t with
  | bl b =>
    obtain ⟨st, r, z⟩ := at_pure h1
    exact ⟨b, rt.bl_of, z g1 H1 r (Stp.refl _ _)⟩
  | _ => obtain ⟨_, _, z⟩ := h1; exact z.elim
theorem tm_val {e : Expr} {m : M T} (h : ME E X e m) (he : ∀ whole, isTrue e X.env whole = (do let v ← whole; standAt e.pos; holding [v] (truthy v)) := by intro _; rfl) : TM E X e (asB m) :=
  ⟨PT.mono (pt_val h.pe he) fun _ _ _ q => asB_lift q⟩
theorem tm_cmp {op : CmpOp} {r : R2} {f : T → T → Option T} {a b : Expr} {ma mb : M Rdr} (ho : OpR X (compareOp op) r) (hl : LR2 E r f) (ha : OE E X a ma) (hb : OE E X b mb) (hm : behindInMarks op b = false) : TM E X (.Compare a [op] [b] pos) (asB (eOp2 f ma mb)) :=
  ⟨PT.mono (pt_cmpR ho ha.pe hb.pe hm) fun σ H Q q => tOp_lift hl (fun _ _ _ z => z) (fun _ _ _ z => z) (asB_lift q)⟩
/-- a op b op' c -/
def eChain (f f' : T → T → Option T) (ma mb mc : M Rdr) : M T := do
  let ra ← ma
  let rb ← mb
  let z ← (fun st => match ra st, rb st with
    | some a, some b => ofO (f a b) st
    | _, _ => none : M T)
  match z with
  | .bl true => do
    let rc ← mc
    fun st => match rb st, rc st with
      | some b, some c => ofO (f' b c) st
      | _, _ => none
  | .bl false => pure (.bl false)
  | _ => stuck
theorem chain_lift {r r' : R2} {f f' : T → T → Option T} {ma mb mc : M Rdr} (hl : LR2 E r f) (hl' : LR2 E r' f') {Q : VK} (h : teM E (eChain f f' ma mb mc) σ H Q) : tChain r r' (toM E ma) (toM E mb) (toM E mc) σ H Q := by
  obtain ⟨g, h⟩ := h
  refine seqO st_okT h fun ra v g1 H1 s1 rd1 h1 => seqO st_okT h1 fun rb w g2 H2 s2 rd2 h2 => ?_
  obtain ⟨st, rl, h2⟩ := h2
  have h2 := run_bind h2
  unfold run at h2
  cases e1 : ra st with
  | none => simp only [e1] at h2
  | some a =>
    cases e2 : rb st with
    | none => simp only [e1, e2] at h2
    | some b =>
      simp only [e1, e2] at h2
      cases ef : f a b with
      | none => simp only [ef, ofO, stuck] at h2
      | some z =>
        simp only [ef, ofO, pure_def] at h2
        have k1 := rd1 g2 st H2 a rl s2 e1
        have k2 := rd2 g2 st H2 b rl (Stp.refl _ _) e2
        refine hl g2 H2 a b z v w _ rl.zs k1 k2 ef fun x rx => ?_
        cases z with
        | bl k =>
          cases k with
          | false => exact ⟨false, rx.bl_of, iteF (h2 g2 H2 rl (Stp.refl _ _) (.bl false) (by unfold RepT; rfl))⟩
          | true =>
            refine ⟨true, rx.bl_of, iteT ?_⟩
            have h3 : at_ E (mc >>= fun rc => (fun st => match rb st, rc st with | some b, some c => ofO (f' b c) st | _, _ => none : M T)) g2 σ H2 (okT E g2 H2 σ Q) := ⟨st, rl, h2⟩
            refine seqO st_okT h3 fun rc u g3 H3 s3 rd3 h4 => ?_
            obtain ⟨b', c', k3, k4, h5⟩ := at_rd2 h4 (rd2.step s3) rd3
            obtain ⟨s, st', e, rl', z⟩ := at_ofO h5
            exact hl' g3 H3 b' c' s w u Q rl'.zs k3 k4 e fun x rx => z g3 H3 rl' (Stp.refl _ _) x rx
        | _ => exact h2.elim
theorem me_chain {op op' : CmpOp} {r r' : R2} {f f' : T → T → Option T} {a b c : Expr} {ma mb mc : M Rdr} (ho : OpR X (compareOp op) r) (ho' : OpR X (compareOp op') r') (hl : LR2 E r f) (hl' : LR2 E r' f') (ha : OE E X a ma) (hb : OE E X b mb) (hc : OE E X c mc)
    (hm : lastMarks [op, op'] [b, c] = false := by with_unfolding_all rfl) : ME E X (.Compare a [op, op'] [b, c] pos) (eChain f f' ma mb mc) :=
  ⟨PE.mono (pe_chain ho ho' ha.pe hb.pe hc.pe hm) fun _ _ _ q => chain_lift hl hl' q⟩
theorem tm_chain {op op' : CmpOp} {r r' : R2} {f f' : T → T → Option T} {a b c : Expr} {ma mb mc : M Rdr} (ho : OpR X (compareOp op) r) (ho' : OpR X (compareOp op') r') (hl : LR2 E r f) (hl' : LR2 E r' f') (ha : OE E X a ma) (hb : OE E X b mb) (hc : OE E X c mc)
    (hm : lastMarks [op, op'] [b, c] = false := by with_unfolding_all rfl) : TM E X (.Compare a [op, op'] [b, c] pos) (asB (eChain f f' ma mb mc)) :=
  ⟨PT.mono (pt_chain ho ho' ha.pe hb.pe hc.pe hm) fun _ _ _ q => chain_lift hl hl' (asB_lift q)⟩

/-! ### not, and, or, if -/
def bNot (m : M Bool) : M Bool := do let b ← m; pure (!b)
def bAnd (m k : M Bool) : M Bool := do if ← m then k else pure false
def bOr (m k : M Bool) : M Bool := do if ← m then pure true else k
structure WM (E : Ev) (X : Cx) (e : Expr) (m : M Bool) : Prop where pw : PW X e (ttM E m)
theorem PW.mono {e : Expr} {t t' : TT} (h : PW X e t) (w : ∀ σ H Q, t' σ H Q → t σ H Q) : PW X e t' := ⟨fun wh pins s σ H Q I q => h.run wh pins s σ H Q I (w σ H Q q)⟩
theorem WM.tm {e : Expr} {m : M Bool} (h : WM E X e m) : TM E X e m := ⟨h.pw.pt⟩
theorem tm_not {a : Expr} {m : M Bool} (h : TM E X a m) : TM E X (.UnaryOp .Not a pos) (bNot m) :=
  ⟨PT.mono (pt_not h.pt) fun σ H Q ⟨g, q⟩ => seqB st_okB q fun b g1 H1 s1 h1 => by
    obtain ⟨st, r, z⟩ := at_pure h1
    exact z g1 H1 r (Stp.refl _ _)⟩
theorem wm_and1 {a : Expr} {m : M Bool} (h : TM E X a m) : WM E X (.BoolOp .And [a] pos) m := ⟨pw_and1 h.pt⟩
theorem wm_or1 {a : Expr} {m : M Bool} (h : TM E X a m) : WM E X (.BoolOp .Or [a] pos) m := ⟨pw_or1 h.pt⟩
theorem wm_and {a b : Expr} {rest : List Expr} {m k : M Bool} (ha : TM E X a m) (hb : WM E X (.BoolOp .And (b :: rest) pos) k) : WM E X (.BoolOp .And (a :: b :: rest) pos) (bAnd m k) :=
  ⟨PW.mono (pw_and ha.pt hb.pw) fun σ H Q ⟨g, q⟩ => seqB st_okB q fun c g1 H1 s1 h1 => by
    cases c with
    | true => exact iteT ⟨g1, h1⟩
    | false =>
      obtain ⟨st, r, z⟩ := at_pure h1
      exact iteF (z g1 H1 r (Stp.refl _ _))⟩
theorem wm_or {a b : Expr} {rest : List Expr} {m k : M Bool} (ha : TM E X a m) (hb : WM E X (.BoolOp .Or (b :: rest) pos) k) : WM E X (.BoolOp .Or (a :: b :: rest) pos) (bOr m k) :=
  ⟨PW.mono (pw_or ha.pt hb.pw) fun σ H Q ⟨g, q⟩ => seqB st_okB q fun c g1 H1 s1 h1 => by
    cases c with
    | false => exact iteF ⟨g1, h1⟩
    | true =>
      obtain ⟨st, r, z⟩ := at_pure h1
      exact iteT (z g1 H1 r (Stp.refl _ _))⟩
/-- .. as values, all but the last bools -/
def eNot (m : M T) : M T := do let b ← asB m; pure (.bl (!b))
def eAnd (m k : M T) : M T := do if ← asB m then k else pure (.bl false)
def eOr (m k : M T) : M T := do if ← asB m then pure (.bl true) else k
theorem at_asB {m : M T} {β : Type} {f : Bool → M β} {Φ : Gh → Hp → β → Stt → Prop} (hΦ : Steps Φ) (h : at_ E (asB m >>= f) g σ H (Φ g H)) {Q : VK}
    (k : ∀ b g1 H1, Stp g g1 H H1 → at_ E (f b) g1 σ H1 (Φ g1 H1) → ∃ c, V.bl b = .bl c ∧ Q (.bl c) H1) : teM E m σ H fun x H1 => ∃ c, x = .bl c ∧ Q (.bl c) H1 :=
  asB_lift (Q := fun c H1 => Q (.bl c) H1) (seqB hΦ h fun b g1 H1 s1 h1 => by
    obtain ⟨c, e, q⟩ := k b g1 H1 s1 h1
    cases e
    exact q)
theorem asB_seq {m : M T} {β : Type} {f : Bool → M β} {Φ : Gh → Hp → β → Stt → Prop} (hΦ : Steps Φ) (h : at_ E (asB m >>= f) g σ H (Φ g H)) {P : Bool → Hp → Prop}
    (k : ∀ b g1 H1, Stp g g1 H H1 → at_ E (f b) g1 σ H1 (Φ g1 H1) → P b H1) : teM E m σ H fun x H1 => ∃ c, x = .bl c ∧ P c H1 :=
  asB_lift (seqB hΦ h k)
theorem me_not {a : Expr} {m : M T} (h : ME E X a m) : ME E X (.UnaryOp .Not a pos) (eNot m) :=
  ⟨PE.mono (pe_not h.pe) fun σ H Q ⟨g, q⟩ => asB_seq st_okT q fun b g1 H1 s1 h1 => by
    obtain ⟨st, r, z⟩ := at_pure h1
    exact z g1 H1 r (Stp.refl _ _) _ (by unfold RepT; rfl)⟩
theorem me_one {op} {a : Expr} {m : M T} (h : ME E X a m) : ME E X (.BoolOp op [a] pos) m := ⟨pe_one h.pe⟩
theorem me_and {a b : Expr} {rest : List Expr} {m k : M T} (ha : ME E X a m) (hb : ME E X (.BoolOp .And (b :: rest) pos) k) : ME E X (.BoolOp .And (a :: b :: rest) pos) (eAnd m k) :=
  ⟨PE.mono (pe_and ha.pe hb.pe) fun σ H Q ⟨g, q⟩ => asB_seq st_okT q fun c g1 H1 s1 h1 => by
    cases c with
    | true => exact iteT ⟨g1, h1⟩
    | false =>
      obtain ⟨st, r, z⟩ := at_pure h1
      exact iteF (z g1 H1 r (Stp.refl _ _) _ (by unfold RepT; rfl))⟩
theorem me_or {a b : Expr} {rest : List Expr} {m k : M T} (ha : ME E X a m) (hb : ME E X (.BoolOp .Or (b :: rest) pos) k) : ME E X (.BoolOp .Or (a :: b :: rest) pos) (eOr m k) :=
  ⟨PE.mono (pe_or ha.pe hb.pe) fun σ H Q ⟨g, q⟩ => asB_seq st_okT q fun c g1 H1 s1 h1 => by
    cases c with
    | false => exact iteF ⟨g1, h1⟩
    | true =>
      obtain ⟨st, r, z⟩ := at_pure h1
      exact iteT (z g1 H1 r (Stp.refl _ _) _ (by unfold RepT; rfl))⟩
def eIf (c : M Bool) (a b : M T) : M T := do if ← c then a else b
theorem me_if {c a b : Expr} {mc : M Bool} {ma mb : M T} (hc : TM E X c mc) (ha : ME E X a ma) (hb : ME E X b mb) : ME E X (.IfExp c a b pos) (eIf mc ma mb) :=
  ⟨PE.mono (pe_ifExp hc.pt ha.pe hb.pe) fun σ H Q ⟨g, q⟩ => seqB st_okT q fun d g1 H1 s1 h1 => by
    cases d with
    | true => exact iteT ⟨g1, h1⟩
    | false => exact iteF ⟨g1, h1⟩⟩

/-! ### argument lists, displays -/
def aNil : M (List T) := pure []
def aCons (m : M T) (k : M (List T)) : M (List T) := do let t ← m; let ts ← k; pure (t :: ts)
theorem am_nil : AM E X [] aNil := ⟨PA.mono pa_nil fun σ H Q ⟨g, q⟩ => by
  obtain ⟨st, r, z⟩ := at_pure q
  exact z g H r (Stp.refl _ _) [] (by unfold RepL; rfl)⟩
theorem am_cons {e : Expr} {es : List Expr} {m : M T} {k : M (List T)} (ha : ME E X e m) (hr : AM E X es k) (hs : starEach (e :: es) X.env = (false, eval e X.env) :: starEach es X.env := by rfl) : AM E X (e :: es) (aCons m k) :=
  ⟨PA.mono (pa_cons ha.pe hr.pa hs) fun σ H Q ⟨g, q⟩ => seqT st_okL q fun t v g1 H1 s1 rt h1 => seqL st_okL h1 fun ts vs g2 H2 s2 rl h2 => by
    obtain ⟨st, r, z⟩ := at_pure h2
    exact z g2 H2 r (Stp.refl _ _) _ (by unfold RepL; exact ⟨v, vs, rfl, rt.step s2, rl⟩)⟩
theorem RepL.len {K : PySem.W.Frag} : ∀ {ts : List T} {xs : List V}, RepL K g ts xs → xs.length = ts.length
  | [], xs, h => by unfold RepL at h; rw [h]; rfl
  | t :: ts, xs, h => by
    unfold RepL at h
    obtain ⟨x, r, rfl, _, h⟩ := h
    rw [List.length_cons, List.length_cons, RepL.len h]
theorem thou {n : Nat} (h : n ≤ 1000) : n ≤ sizeLine := Nat.le_of_lt (small1000 h)
def eTup (m : M (List T)) : M T := do let ts ← m; if ts.length ≤ 1000 then pure (.tup ts) else stuck
def fLst (m : M (List T)) : M Ob := do let ts ← m; if ts.length ≤ 1000 then pure (.lst ts) else stuck
theorem rep_tup {ts : List T} {xs : List V} {p : Addr} (hp : H p = none) (zs : Same g.Z H) (r : RepL E.K g ts xs) : RepT E.K (g.frz p (.tup xs)) (.tup ts) (.ref p) := by
  unfold RepT
  exact ⟨p, xs, rfl, .inl (.inl upd_same), r.gstep ⟨Gh.frz_z (zs.free hp), Nat.le_refl _, fun _ _ => rfl⟩⟩
theorem rep_fz {ts : List T} {xs : List V} {p : Addr} (hp : H p = none) (zs : Same g.Z H) (r : RepL E.K g ts xs) : RepT E.K (g.frz p (.lst xs)) (.fz ts) (.ref p) := by
  unfold RepT
  exact ⟨p, xs, rfl, upd_same, r.gstep ⟨Gh.frz_z (zs.free hp), Nat.le_refl _, fun _ _ => rfl⟩⟩
/-- a new tuple -/
theorem new_tup {ts : List T} {xs : List V} {st : Stt} {Q : VK} (z : okT E g H σ Q (.tup ts) st) (r : Rel E.K g st σ H) (rl : RepL E.K g ts xs) : ∀ p, H p = none → Q (.ref p) (upd H p (.tup xs)) := fun p hp => by
  obtain ⟨r2, s2⟩ := r.frz (o := .tup xs) hp
  exact z _ _ r2 s2 _ (rep_tup hp r.zs rl)
theorem me_tup {es : List Expr} {m : M (List T)} {x1} (h : AM E X es m) : ME E X (.Tuple es x1 pos) (eTup m) :=
  ⟨PE.mono (pe_tup h.pa) fun σ H Q ⟨g, q⟩ => seqL st_okT q fun ts vs g1 H1 s1 rl h1 => by
    by_cases hz : ts.length ≤ 1000
    · rw [if_pos hz] at h1
      obtain ⟨st, r, z⟩ := at_pure h1
      exact ⟨by rw [rl.len]; exact thou hz, new_tup z r rl⟩
    · rw [if_neg hz] at h1
      obtain ⟨_, _, z⟩ := h1
      exact z.elim⟩
theorem fe_lst {es : List Expr} {m : M (List T)} (h : AM E X es m) : FE E X (.List es pos) (fLst m) :=
  ⟨PE.mono (pe_lst h.pa) fun σ H Q ⟨g, q⟩ => seqL st_okF q fun ts vs g1 H1 s1 rl h1 => by
    by_cases hz : ts.length ≤ 1000
    · rw [if_pos hz] at h1
      obtain ⟨st, r, z⟩ := at_pure h1
      exact ⟨by rw [rl.len]; exact thou hz, fun p hp => z g1 H1 r (Stp.refl _ _) p (.lst vs) hp ⟨vs, rfl, rl⟩⟩
    · rw [if_neg hz] at h1
      obtain ⟨_, _, z⟩ := h1
      exact z.elim⟩
/-- a fresh list that stands still -/
def eFz (m : M Ob) : M T := do
  match ← m with
  | .lst ts => pure (.fz ts)
  | _ => stuck
theorem FE.fz {e : Expr} {m : M Ob} (h : FE E X e m) : ME E X e (eFz m) :=
  ⟨PE.mono h.pe fun σ H Q ⟨g, q⟩ => ⟨g, seq_any (Φ := fun g H => okT E g H σ Q) st_okT q fun ob st1 k g1 H1 r1 s1 p o hp ro => by
    have h2 := k g1 H1 r1 s1
    cases ob with
    | lst ts =>
      obtain ⟨st, r, z⟩ := at_pure h2
      obtain ⟨xs, e, rl⟩ := ro
      cases e
      obtain ⟨r2, s2⟩ := r.frz (o := .lst xs) hp
      exact z _ _ r2 s2 _ (rep_fz hp r.zs rl)
    | _ => obtain ⟨_, _, z⟩ := h2; exact z.elim⟩⟩
end
end Sw
namespace Sw
open PySem PySem.Spec PyProof.Rows L2

section
variable {E : Ev} {g g1 : Gh} {H H1 : Hp} {σ : L2.St} {X : Cx} {pos : Pos}
theorem RepK.int_of {i : Int} {v : V} (h : RepK E g H (.int i) v) : v = .int i := by have h : RepT E.K g (.int i) v := h; unfold RepT at h; exact h
theorem RepK.bl_of {b : Bool} {v : V} (h : RepK E g H (.bl b) v) : v = .bl b := by have h : RepT E.K g (.bl b) v := h; unfold RepT at h; exact h
theorem RepK.str_of {s : List Nat} {v : V} (h : RepK E g H (.str s) v) : v = .str (sS s) := by have h : RepT E.K g (.str s) v := h; unfold RepT at h; exact h
theorem RepK.non_of {v : V} (h : RepK E g H .non v) : v = .non := by have h : RepT E.K g .non v := h; unfold RepT at h; exact h
theorem RepK.tup_of {ts : List T} {v : V} (h : RepK E g H (.tup ts) v) : ∃ a xs, v = .ref a ∧ SqT E.K g.Z a xs ∧ RepL E.K g ts xs := by have h : RepT E.K g (.tup ts) v := h; unfold RepT at h; exact h
theorem rt_int {K : PySem.W.Frag} (i : Int) : RepT K g (.int i) (.int i) := by unfold RepT; rfl
theorem rt_bl {K : PySem.W.Frag} (b : Bool) : RepT K g (.bl b) (.bl b) := by unfold RepT; rfl
theorem rt_str {K : PySem.W.Frag} (s : List Nat) : RepT K g (.str s) (.str (sS s)) := by unfold RepT; rfl
theorem rt_non {K : PySem.W.Frag} : RepT K g .non .non := by unfold RepT; rfl

/-! ### arithmetic -/
def iiO (c : Int → Int → Bool) (f : Int → Int → T) : T → T → Option T
  | .int i, .int j => if c i j then some (f i j) else none
  | _, _ => none
theorem lr_ii {C : Int → Int → Prop} {c : Int → Int → Bool} {f : Int → Int → V} {F : Int → Int → T} (hc : ∀ i j, c i j = true → C i j) (hf : ∀ (g : Gh) (K : PySem.W.Frag) i j, RepT K g (F i j) (f i j)) : LR2 E (rI C f) (iiO c F) := by
  intro g H t u s v w Q zs h1 h2 e q
  cases t <;> cases u <;> simp only [iiO] at e <;> try contradiction
  rename_i i j
  split at e
  · rename_i hq
    cases e
    rw [h1.int_of, h2.int_of]
    exact ⟨i, j, rfl, rfl, hc i j hq, q _ (hf g E.K i j)⟩
  · contradiction
theorem lr_ii0 {f : Int → Int → V} {F : Int → Int → T} (hf : ∀ (g : Gh) (K : PySem.W.Frag) i j, RepT K g (F i j) (f i j)) : LR2 E (rI0 f) (iiO (fun _ _ => true) F) := by
  intro g H t u s v w Q zs h1 h2 e q
  cases t <;> cases u <;> simp only [iiO] at e <;> try contradiction
  rename_i i j
  simp only [if_true] at e
  cases e
  rw [h1.int_of, h2.int_of]
  exact ⟨i, j, rfl, rfl, q _ (hf g E.K i j)⟩
def subO := iiO (fun _ _ => true) fun i j => .int (i - j)
theorem lr_sub : LR2 E (rI0 fun i j => .int (i - j)) subO := lr_ii0 fun _ _ _ _ => rt_int _
def mulC (i j : Int) : Bool := decide (-(2 ^ 64) < i ∧ i < 2 ^ 64) || decide (-(2 ^ 64) < j ∧ j < 2 ^ 64)
def modC (_ j : Int) : Bool := decide (0 < j)
def divC (_ j : Int) : Bool := decide (0 < j) && decide (j.natAbs.log2 < 9000)
def powC (i j : Int) : Bool := decide (0 ≤ j ∧ j ≤ 1000000 ∧ i.natAbs < 2 ^ 64)
def mulO := iiO mulC fun i j => .int (i * j)
def modO := iiO modC fun i j => .int (i % j)
def divO := iiO divC fun i j => .int (i / j)
def powO := iiO powC fun i j => .int (i ^ j.toNat)
theorem lr_mul : LR2 E (rI CMul fun i j => .int (i * j)) mulO := lr_ii (fun i j h => by
  unfold mulC at h
  rw [Bool.or_eq_true] at h
  rcases h with h | h
  · exact .inl (of_decide_eq_true h)
  · exact .inr (of_decide_eq_true h)) fun _ _ _ _ => rt_int _
theorem lr_mod : LR2 E (rI (fun _ j => 0 < j) fun i j => .int (i % j)) modO := lr_ii (fun i j h => of_decide_eq_true h) fun _ _ _ _ => rt_int _
theorem lr_div : LR2 E (rI CDivW fun i j => .int (i / j)) divO := lr_ii (fun i j h => by
  unfold divC at h
  rw [Bool.and_eq_true] at h
  exact ⟨of_decide_eq_true h.1, of_decide_eq_true h.2⟩) fun _ _ _ _ => rt_int _
theorem lr_pow : LR2 E (rI CPow fun i j => .int (i ^ j.toNat)) powO := lr_ii (fun i j h => by unfold powC at h; exact (of_decide_eq_true h : 0 ≤ j ∧ j ≤ 1000000 ∧ i.natAbs < 2 ^ 64)) fun _ _ _ _ => rt_int _
def ltO := iiO (fun _ _ => true) fun i j => .bl (decide (i < j))
def leO := iiO (fun _ _ => true) fun i j => .bl (decide (i ≤ j))
def gtO := iiO (fun _ _ => true) fun i j => .bl (decide (j < i))
def geO := iiO (fun _ _ => true) fun i j => .bl (decide (j ≤ i))
theorem lr_lt : LR2 E (rI0 fun i j => .bl (decide (i < j))) ltO := lr_ii0 fun _ _ _ _ => rt_bl _
theorem lr_le : LR2 E (rI0 fun i j => .bl (decide (i ≤ j))) leO := lr_ii0 fun _ _ _ _ => rt_bl _
theorem lr_gt : LR2 E (rI0 fun i j => .bl (decide (j < i))) gtO := lr_ii0 fun _ _ _ _ => rt_bl _
theorem lr_ge : LR2 E (rI0 fun i j => .bl (decide (j ≤ i))) geO := lr_ii0 fun _ _ _ _ => rt_bl _

theorem OpR.or {f : Value → Value → Sem Value} {r r' : R2} (h : OpR X f r) (h' : OpR X f r') : OpR X f (fun x y H Q => r x y H Q ∨ r' x y H Q) := by
  intro pins s σ H x y v u Q I rx ry q
  rcases q with q | q
  · exact h pins s σ H x y v u Q I rx ry q
  · exact h' pins s σ H x y v u Q I rx ry q
/-- ints, texts, tuples -/
def rAddS : R2 := fun x y H Q => ∃ i j, x = .str i ∧ y = .str j ∧ i.length + j.length ≤ sizeLine ∧ Q (.str (i ++ j)) H
def rAdd (K : PySem.W.Frag) : R2 := fun x y H Q => rI0 (fun i j => .int (i + j)) x y H Q ∨ rAddS x y H Q ∨ rCatA K x y H Q
theorem op_addA : OpR X (binaryOp .Add) (rAdd X.K) := OpR.or op_add (OpR.or op_add_str op_catA)
def addO : T → T → Option T
  | .int i, .int j => some (.int (i + j))
  | .str x, .str y => if x.length + y.length ≤ 1000000 then some (.str (x ++ y)) else none
  | _, _ => none
theorem sS_append (x y : List Nat) : sS x ++ sS y = sS (x ++ y) := by
  show (⟨x.toArray ++ y.toArray⟩ : Str) = ⟨(x ++ y).toArray⟩
  simp
theorem sS_len (x : List Nat) : (sS x).length = x.length := by
  show x.toArray.size = _
  simp
theorem mil {n : Nat} (h : n ≤ 1000000) : n ≤ sizeLine := by
  have : sizeLine = 16777216 := sizeLine_eq
  omega
theorem lr_add : LR2 E (rAdd E.K) addO := by
  intro g H t u s v w Q zs h1 h2 e q
  cases t <;> cases u <;> simp only [addO] at e <;> try contradiction
  · cases e
    rw [h1.int_of, h2.int_of]
    exact .inl ⟨_, _, rfl, rfl, q _ (rt_int _)⟩
  · split at e
    · rename_i hq
      cases e
      rw [h1.str_of, h2.str_of]
      refine .inr (.inl ⟨_, _, rfl, rfl, by rw [sS_len, sS_len]; exact mil hq, ?_⟩)
      rw [sS_append]
      exact q _ (rt_str _)
    · contradiction
def negO : T → Option T
  | .int i => some (.int (-i))
  | _ => none
def eNeg (m : M T) : M T := do
  match ← m with
  | .int i => pure (.int (-i))
  | _ => stuck
theorem me_neg {a : Expr} {m : M T} (h : ME E X a m) : ME E X (.UnaryOp .USub a pos) (eNeg m) :=
  ⟨PE.mono (pe_un un_neg h.pe) fun σ H Q ⟨g, q⟩ => seqT st_okT q fun t v g1 H1 s1 rt h1 => by
    cases t with
    | int i =>
      obtain ⟨st, r, z⟩ := at_pure h1
      exact ⟨i, (RepK.int_of (E := E) (g := g1) (H := H1) rt), z g1 H1 r (Stp.refl _ _) _ (rt_int _)⟩
    | _ => obtain ⟨_, _, z⟩ := h1; exact z.elim⟩

/-! ### comparisons of data -/
def eqT (t u : T) : Option T := (eqO t u).map .bl
def neT (t u : T) : Option T := (neO t u).map .bl
theorem lr_eq : LR2 E (rEqD E.K) eqT := by
  intro g H t u s v w Q zs h1 h2 e q
  unfold eqT eqO at e
  split at e
  · rename_i hq
    rw [Bool.and_eq_true] at hq
    cases e
    refine ⟨t.pd, u.pd, h1.dp zs hq.1, h2.dp zs hq.2, T.shaped hq.1 (by decide), T.shaped hq.2 (by decide), ?_⟩
    rw [T.eqv_pd hq.1 hq.2]
    exact q _ (rt_bl _)
  · contradiction
theorem lr_ne : LR2 E (rNeD E.K) neT := by
  intro g H t u s v w Q zs h1 h2 e q
  unfold neT neO at e
  split at e
  · rename_i hq
    rw [Bool.and_eq_true] at hq
    cases e
    refine ⟨t.pd, u.pd, h1.dp zs hq.1, h2.dp zs hq.2, T.shaped hq.1 (by decide), T.shaped hq.2 (by decide), ?_⟩
    rw [T.eqv_pd hq.1 hq.2]
    exact q _ (rt_bl _)
  · contradiction
/-- is None, is True -/
def isNO (t u : T) : Option T := match u with
  | .non => match t with
    | .non => some (.bl true)
    | _ => some (.bl false)
  | _ => none
def notNO (t u : T) : Option T := match u with
  | .non => match t with
    | .non => some (.bl false)
    | _ => some (.bl true)
  | _ => none
theorem RepK.ne_non {t : T} {v : V} (h : RepK E g H t v) (ht : t ≠ .non) : v ≠ .non := by
  cases t with
  | non => exact absurd rfl ht
  | bl b => rw [h.bl_of]; exact fun z => by cases z
  | int i => rw [h.int_of]; exact fun z => by cases z
  | str s => rw [h.str_of]; exact fun z => by cases z
  | ty n => have h : RepT E.K g (.ty n) v := h; unfold RepT at h; rw [h]; exact fun z => by cases z
  | tup ts => obtain ⟨a, xs, e, _⟩ := h.tup_of; rw [e]; exact fun z => by cases z
  | fz ts => obtain ⟨a, xs, e, _⟩ := h; rw [e]; exact fun z => by cases z
  | ref n => have h : RepT E.K g (.ref n) v := h; unfold RepT at h; rw [h.2]; exact fun z => by cases z
  | scr n => have h : RepT E.K g (.scr n) v := h; unfold RepT at h; obtain ⟨a, e, _⟩ := h; rw [e]; exact fun z => by cases z
  | dic ks vs => obtain ⟨a, kvs, e, _⟩ := h; rw [e]; exact fun z => by cases z
def rIsN : R2 := fun x y H Q => y = .non ∧ Q (.bl (decide (x = .non))) H
def rNotN : R2 := fun x y H Q => y = .non ∧ Q (.bl (!decide (x = .non))) H
theorem lr_isN : LR2 E rIsN isNO := by
  intro g H t u s v w Q zs h1 h2 e q
  cases u <;> simp only [isNO] at e <;> try contradiction
  refine ⟨h2.non_of, ?_⟩
  by_cases ht : t = .non
  · subst ht
    cases e
    rw [h1.non_of]
    exact q _ (rt_bl _)
  · rw [decide_eq_false (h1.ne_non ht)]
    have e' : s = .bl false := by
      cases t <;> first | exact absurd rfl ht | (simp only at e; cases e; rfl)
    rw [e'] at q
    exact q _ (rt_bl _)
theorem lr_notN : LR2 E rNotN notNO := by
  intro g H t u s v w Q zs h1 h2 e q
  cases u <;> simp only [notNO] at e <;> try contradiction
  refine ⟨h2.non_of, ?_⟩
  by_cases ht : t = .non
  · subst ht
    cases e
    rw [h1.non_of]
    exact q _ (rt_bl _)
  · rw [decide_eq_false (h1.ne_non ht)]
    have e' : s = .bl true := by
      cases t <;> first | exact absurd rfl ht | (simp only at e; cases e; rfl)
    rw [e'] at q
    exact q _ (rt_bl _)
def isBO (t u : T) : Option T := match t, u with
  | .bl a, .bl b => some (.bl (a == b))
  | _, _ => none
def notBO (t u : T) : Option T := match t, u with
  | .bl a, .bl b => some (.bl (!(a == b)))
  | _, _ => none
theorem lr_isB : LR2 E rIsB isBO := by
  intro g H t u s v w Q zs h1 h2 e q
  cases t <;> cases u <;> simp only [isBO] at e <;> try contradiction
  cases e
  rw [h1.bl_of, h2.bl_of]
  rename_i a b
  refine ⟨a, b, rfl, rfl, ?_⟩
  rw [show decide (a = b) = (a == b) by cases a <;> cases b <;> rfl]
  exact q _ (rt_bl _)
theorem lr_notB : LR2 E rNotB notBO := by
  intro g H t u s v w Q zs h1 h2 e q
  cases t <;> cases u <;> simp only [notBO] at e <;> try contradiction
  cases e
  rw [h1.bl_of, h2.bl_of]
  rename_i a b
  refine ⟨a, b, rfl, rfl, ?_⟩
  rw [show decide (a = b) = (a == b) by cases a <;> cases b <;> rfl]
  exact q _ (rt_bl _)
/-! ### in -/
def flatT : T → Bool
  | .non => true
  | .bl _ => true
  | .int _ => true
  | .str _ => true
  | _ => false
theorem RepK.flat {t : T} {v : V} (h : RepK E g H t v) (f : flatT t = true) : flatV v = true := by
  cases t <;> simp only [flatT] at f <;> try contradiction
  · rw [h.non_of]; rfl
  · rw [h.bl_of]; rfl
  · rw [h.int_of]; rfl
  · rw [h.str_of]; rfl
theorem flat_eqV {t u : T} {v w : V} (h1 : RepK E g H t v) (h2 : RepK E g H u w) (f1 : flatT t = true) (f2 : flatT u = true) : eqV v w = T.eqv t u := by
  cases t <;> simp only [flatT] at f1 <;> try contradiction
  all_goals (cases u <;> simp only [flatT] at f2 <;> try contradiction)
  all_goals (first | rw [h1.non_of] | rw [h1.bl_of] | rw [h1.int_of] | rw [h1.str_of])
  all_goals (first | rw [h2.non_of] | rw [h2.bl_of] | rw [h2.int_of] | rw [h2.str_of])
  all_goals (simp only [eqV, T.eqv] <;> try rfl)
  exact sS_eq
theorem RepL.flat (zs : Same g.Z H) : ∀ {ts : List T} {xs : List V}, RepL E.K g ts xs → ts.all flatT = true → xs.all flatV = true
  | [], xs, h, _ => by unfold RepL at h; rw [h]; rfl
  | t :: ts, xs, h, f => by
    rw [List.all_cons, Bool.and_eq_true] at f
    unfold RepL at h
    obtain ⟨x, r, rfl, h1, h2⟩ := h
    rw [List.all_cons, RepK.flat (E := E) (H := H) (RepT.k zs h1) f.1, RepL.flat zs h2 f.2]
    rfl
theorem RepL.inV (zs : Same g.Z H) {t : T} {v : V} (ht : RepK E g H t v) (ft : flatT t = true) : ∀ {ts : List T} {xs : List V}, RepL E.K g ts xs → ts.all flatT = true → inV v xs = ts.any fun z => T.eqv z t
  | [], xs, h, _ => by unfold RepL at h; rw [h]; rfl
  | u :: ts, xs, h, f => by
    rw [List.all_cons, Bool.and_eq_true] at f
    unfold RepL at h
    obtain ⟨x, r, rfl, h1, h2⟩ := h
    have ih := RepL.inV zs ht ft h2 f.2
    unfold L2.inV at ih ⊢
    rw [List.any_cons, List.any_cons, ih, flat_eqV (E := E) (H := H) (RepT.k zs h1) ht f.1 ft]
def rInS : R2 := fun x y H Q => ∃ (c : Nat) (z : Str), x = .str ⟨#[c]⟩ ∧ y = .str z ∧ Q (.bl (decide (c ∈ z.cps.toList))) H
def rNinS : R2 := fun x y H Q => ∃ (c : Nat) (z : Str), x = .str ⟨#[c]⟩ ∧ y = .str z ∧ Q (.bl (!decide (c ∈ z.cps.toList))) H
def rInA (K : PySem.W.Frag) : R2 := fun x y H Q => rInD K x y H Q ∨ rIn K false x y H Q ∨ rInS x y H Q
def rNinA (K : PySem.W.Frag) : R2 := fun x y H Q => rNotInD K x y H Q ∨ rIn K true x y H Q ∨ rNinS x y H Q
theorem op_inA (hu : X.A.units + 65 < cLine) : OpR X (compareOp .In) (rInA X.K) := OpR.or (op_inD hu) (OpR.or op_in_seq op_in_sign)
theorem op_ninA (hu : X.A.units + 65 < cLine) : OpR X (compareOp .NotIn) (rNinA X.K) := OpR.or (op_notInD hu) (OpR.or op_notIn_seq op_notIn_sign)
/-- x in a list of data, in a tuple of flat things, one sign in a text -/
def inB (t u : T) : Option Bool := match u with
  | .fz us => if t.dat 60 && T.dats 59 us then some (us.any fun z => T.eqv z t) else none
  | .tup us => if flatT t && us.all flatT then some (us.any fun z => T.eqv z t) else none
  | .str s => match t with
    | .str [c] => some (decide (c ∈ s))
    | _ => none
  | _ => none
def inT (t u : T) : Option T := (inB t u).map .bl
def ninT (t u : T) : Option T := (inB t u).map fun b => .bl (!b)
theorem any_pd {n m : Nat} {t : T} (ht : t.dat m = true) : ∀ {us : List T}, T.dats n us = true → ((T.pds us).any fun z => PyData.eqv z t.pd) = us.any fun z => T.eqv z t
  | [], _ => rfl
  | u :: us, h => by
    have h : u.dat n = true ∧ T.dats n us = true := by simpa [T.dats] using h
    unfold T.pds
    rw [List.any_cons, List.any_cons, any_pd ht h.2, T.eqv_pd h.1 ht]
theorem lr_in : LR2 E (rInA E.K) inT := by
  intro g H t u s v w Q zs h1 h2 e q
  unfold inT inB at e
  cases u <;> (try simp only [Option.map_none] at e) <;> try contradiction
  · rename_i z
    cases t <;> (try simp only [Option.map_none] at e) <;> try contradiction
    rename_i y
    match y, e with
    | [c], e =>
      simp only [Option.map_some] at e
      cases e
      rw [h1.str_of, h2.str_of]
      refine .inr (.inr ⟨c, sS z, rfl, rfl, ?_⟩)
      exact q _ (by have : (sS z).cps.toList = z := by simp [sS]
                    rw [this]; exact rt_bl _)
    | [], e => simp at e
    | _ :: _ :: _, e => simp at e
  · rename_i us
    split at e
    · rename_i hq
      rw [Bool.and_eq_true] at hq
      cases e
      obtain ⟨a, xs, rfl, hs, rl⟩ := h2.tup_of
      refine .inr (.inl ⟨a, xs, rfl, .inr (sameT zs hs), h1.flat hq.1, rl.flat zs hq.2, ?_⟩)
      rw [if_neg (by decide), rl.inV zs h1 hq.1 hq.2]
      exact q _ (rt_bl _)
    · contradiction
  · rename_i us
    split at e
    · rename_i hq
      rw [Bool.and_eq_true] at hq
      cases e
      have hd : (T.fz us).dat 60 = true := by unfold T.dat; exact hq.2
      refine .inl ⟨t.pd, T.pds us, h1.dp zs hq.1, h2.dp zs hd, T.shaped hq.1 (by decide), T.shaped hd (by decide), ?_⟩
      rw [any_pd hq.1 hq.2]
      exact q _ (rt_bl _)
    · contradiction
theorem lr_nin : LR2 E (rNinA E.K) ninT := by
  intro g H t u s v w Q zs h1 h2 e q
  unfold ninT inB at e
  cases u <;> (try simp only [Option.map_none] at e) <;> try contradiction
  · rename_i z
    cases t <;> (try simp only [Option.map_none] at e) <;> try contradiction
    rename_i y
    match y, e with
    | [c], e =>
      simp only [Option.map_some] at e
      cases e
      rw [h1.str_of, h2.str_of]
      refine .inr (.inr ⟨c, sS z, rfl, rfl, ?_⟩)
      exact q _ (by have : (sS z).cps.toList = z := by simp [sS]
                    rw [this]; exact rt_bl _)
    | [], e => simp at e
    | _ :: _ :: _, e => simp at e
  · rename_i us
    split at e
    · rename_i hq
      rw [Bool.and_eq_true] at hq
      cases e
      obtain ⟨a, xs, rfl, hs, rl⟩ := h2.tup_of
      refine .inr (.inl ⟨a, xs, rfl, .inr (sameT zs hs), h1.flat hq.1, rl.flat zs hq.2, ?_⟩)
      rw [if_pos rfl, rl.inV zs h1 hq.1 hq.2]
      exact q _ (rt_bl _)
    · contradiction
  · rename_i us
    split at e
    · rename_i hq
      rw [Bool.and_eq_true] at hq
      cases e
      have hd : (T.fz us).dat 60 = true := by unfold T.dat; exact hq.2
      refine .inl ⟨t.pd, T.pds us, h1.dp zs hq.1, h2.dp zs hd, T.shaped hq.1 (by decide), T.shaped hd (by decide), ?_⟩
      rw [any_pd hq.1 hq.2]
      exact q _ (rt_bl _)
    · contradiction

/-! ### items, slices -/
theorem RepL.get {K : PySem.W.Frag} : ∀ {ts : List T} {xs : List V} {i : Nat} {t : T}, RepL K g ts xs → ts[i]? = some t → ∃ x, xs[i]? = some x ∧ RepT K g t x
  | [], _, i, t, _, e => by simp at e
  | u :: ts, xs, i, t, h, e => by
    unfold RepL at h
    obtain ⟨x, r, rfl, h1, h2⟩ := h
    cases i with
    | zero =>
      rw [List.getElem?_cons_zero] at e
      cases e
      exact ⟨x, rfl, h1⟩
    | succ i =>
      rw [List.getElem?_cons_succ] at e
      rw [List.getElem?_cons_succ]
      exact RepL.get h2 e
theorem RepL.at_ {K : PySem.W.Frag} {ts : List T} {xs : List V} {i : Int} {t : T} (h : RepL K g ts xs) (e : atI ts i = some t) : ∃ x, atI xs i = some x ∧ RepT K g t x := by
  unfold atI at e ⊢
  rw [h.len]
  cases q : ixN ts.length i with
  | none => rw [q] at e; cases e
  | some j =>
    rw [q] at e
    exact h.get e
theorem RepL.drop {K : PySem.W.Frag} : ∀ {ts : List T} {xs : List V} (n : Nat), RepL K g ts xs → RepL K g (ts.drop n) (xs.drop n)
  | ts, xs, 0, h => h
  | [], xs, n + 1, h => by unfold RepL at h; rw [h]; simp; unfold RepL; rfl
  | t :: ts, xs, n + 1, h => by
    unfold RepL at h
    obtain ⟨x, r, rfl, _, h⟩ := h
    exact RepL.drop n h
theorem RepL.take {K : PySem.W.Frag} : ∀ {ts : List T} {xs : List V} (n : Nat), RepL K g ts xs → RepL K g (ts.take n) (xs.take n)
  | ts, xs, 0, h => by simp; unfold RepL; rfl
  | [], xs, n + 1, h => by unfold RepL at h; rw [h]; simp; unfold RepL; rfl
  | t :: ts, xs, n + 1, h => by
    unfold RepL at h
    obtain ⟨x, r, rfl, h1, h⟩ := h
    rw [List.take_succ_cons, List.take_succ_cons]
    unfold RepL
    exact ⟨x, _, rfl, h1, RepL.take n h⟩
theorem RepL.app {K : PySem.W.Frag} : ∀ {ts us : List T} {xs ys : List V}, RepL K g ts xs → RepL K g us ys → RepL K g (ts ++ us) (xs ++ ys)
  | [], us, xs, ys, h, h' => by unfold RepL at h; rw [h]; exact h'
  | t :: ts, us, xs, ys, h, h' => by
    unfold RepL at h
    obtain ⟨x, r, rfl, h1, h⟩ := h
    rw [List.cons_append, List.cons_append]
    unfold RepL
    exact ⟨x, _, rfl, h1, RepL.app h h'⟩
theorem RepL.nil {K : PySem.W.Frag} : RepL K g [] [] := by unfold RepL; rfl
theorem RepL.one {K : PySem.W.Frag} {t : T} {x : V} (h : RepT K g t x) : RepL K g [t] [x] := by unfold RepL; exact ⟨x, [], rfl, h, .nil⟩
theorem RepL.rev {K : PySem.W.Frag} : ∀ {ts : List T} {xs : List V}, RepL K g ts xs → RepL K g ts.reverse xs.reverse
  | [], xs, h => by unfold RepL at h; rw [h]; exact .nil
  | t :: ts, xs, h => by
    unfold RepL at h
    obtain ⟨x, r, rfl, h1, h⟩ := h
    rw [List.reverse_cons, List.reverse_cons]
    exact (RepL.rev h).app (.one h1)
def ixO (t u : T) : Option T := match u with
  | .int i => match t with
    | .fz ts => atI ts i
    | .tup ts => atI ts i
    | .str s => if s.length ≤ 1000000 then (atI s i).map fun c => .str [c] else none
    | _ => none
  | _ => none
theorem lr_ix : LR2 E (rIx E.K) ixO := by
  intro g H t u s v w Q zs h1 h2 e q
  cases u <;> simp only [ixO] at e <;> try contradiction
  rename_i i
  rw [h2.int_of]
  cases t <;> simp only at e <;> try contradiction
  · rename_i z
    split at e
    · rename_i hz
      cases ea : atI z i with
      | none => rw [ea] at e; cases e
      | some c =>
        rw [ea] at e
        cases e
        rw [h1.str_of]
        have : (sS z).cps.toList = z := by simp [sS]
        exact .inr (.inr ⟨sS z, i, c, rfl, rfl, by rw [sS_len]; exact mil hz, by rw [this]; exact ea, q _ (rt_str _)⟩)
    · contradiction
  · rename_i ts
    obtain ⟨a, xs, rfl, hs, rl⟩ := h1.tup_of
    obtain ⟨x, ex, rx⟩ := rl.at_ e
    exact .inr (.inl ⟨a, xs, i, x, rfl, rfl, sameT zs hs, ex, q _ rx⟩)
  · rename_i ts
    obtain ⟨a, xs, rfl, hs, rl⟩ := h1
    obtain ⟨x, ex, rx⟩ := rl.at_ e
    exact .inl ⟨a, xs, i, x, rfl, rfl, .inl (.inl hs), ex, q _ rx⟩
end
end Sw
namespace Sw
open PySem PySem.Spec PyProof.Rows L2

section
variable {E : Ev} {g g1 : Gh} {H H1 : Hp} {σ : L2.St} {X : Cx} {pos : Pos}
/-! ### calls of what is built in: arguments as readers -/
def ReadsL (E : Ev) (g : Gh) (H : Hp) (σ : L2.St) : List Rdr → List V → Prop
  | [], vs => vs = []
  | r :: rs, vs => ∃ v ws, vs = v :: ws ∧ Reads E g H σ r v ∧ ReadsL E g H σ rs ws
theorem ReadsL.step (s : Stp g g1 H H1) : ∀ {rs : List Rdr} {vs : List V}, ReadsL E g H σ rs vs → ReadsL E g1 H1 σ rs vs
  | [], _, h => h
  | r :: rs, _, ⟨v, ws, e, a, b⟩ => ⟨v, ws, e, a.step s, ReadsL.step s b⟩
def okRL (E : Ev) (g : Gh) (H : Hp) (σ : L2.St) (Q : List V → Hp → Prop) (rs : List Rdr) (st' : Stt) : Prop := beh E g H σ st' fun g' H' => ∀ vs, ReadsL E g' H' σ rs vs → Q vs H'
def tolM (E : Ev) (m : M (List Rdr)) : TA := fun σ H Q => ∃ g, at_ E m g σ H (okRL E g H σ Q)
structure OA (E : Ev) (X : Cx) (e : List Expr) (m : M (List Rdr)) : Prop where pa : PA X e (tolM E m)
theorem st_okRL {Q : List V → Hp → Prop} : Steps (fun g H => okRL E g H σ Q) := fun _ _ _ _ _ _ s h => beh.step s h
theorem seqRL {β : Type} {m : M (List Rdr)} {f : List Rdr → M β} {Φ : Gh → Hp → β → Stt → Prop} (hΦ : Steps Φ) {Q : List V → Hp → Prop} (h : at_ E (m >>= f) g σ H (Φ g H))
    (k : ∀ t v g1 H1, Stp g g1 H H1 → ReadsL E g1 H1 σ t v → at_ E (f t) g1 σ H1 (Φ g1 H1) → Q v H1) : tolM E m σ H Q :=
  ⟨g, seq_any hΦ h fun t st1 q g1 H1 r1 s1 v rv => k t v g1 H1 s1 rv (q g1 H1 r1 s1)⟩
def oNil : M (List Rdr) := pure []
def oCons (m : M Rdr) (k : M (List Rdr)) : M (List Rdr) := do let t ← m; let ts ← k; pure (t :: ts)
theorem oa_nil : OA E X [] oNil := ⟨PA.mono pa_nil fun σ H Q ⟨g, q⟩ => by
  obtain ⟨st, r, z⟩ := at_pure q
  exact z g H r (Stp.refl _ _) [] rfl⟩
theorem oa_cons {e : Expr} {es : List Expr} {m : M Rdr} {k : M (List Rdr)} (ha : OE E X e m) (hr : OA E X es k) (hs : starEach (e :: es) X.env = (false, eval e X.env) :: starEach es X.env := by rfl) : OA E X (e :: es) (oCons m k) :=
  ⟨PA.mono (pa_cons ha.pe hr.pa hs) fun σ H Q ⟨g, q⟩ => seqO st_okRL q fun t v g1 H1 s1 rt h1 => seqRL st_okRL h1 fun ts vs g2 H2 s2 rl h2 => by
    obtain ⟨st, r, z⟩ := at_pure h2
    exact z g2 H2 r (Stp.refl _ _) _ ⟨v, vs, rfl, rt.step s2, rl⟩⟩
def rdAll : List Rdr → Stt → Option (List T)
  | [], _ => some []
  | r :: rs, st => match r st, rdAll rs st with
    | some t, some ts => some (t :: ts)
    | _, _ => none
def RepKs (E : Ev) (g : Gh) (H : Hp) : List T → List V → Prop
  | [], vs => vs = []
  | t :: ts, vs => ∃ v ws, vs = v :: ws ∧ RepK E g H t v ∧ RepKs E g H ts ws
theorem ReadsL.rep {st : Stt} (r : Rel E.K g st σ H) : ∀ {rs : List Rdr} {vs : List V} {ts : List T}, ReadsL E g H σ rs vs → rdAll rs st = some ts → RepKs E g H ts vs
  | [], vs, ts, h, e => by cases e; exact h
  | rd :: rs, vs, ts, ⟨v, ws, ev, a, b⟩, e => by
    unfold rdAll at e
    cases e1 : rd st with
    | none => rw [e1] at e; cases e
    | some t =>
      cases e2 : rdAll rs st with
      | none => rw [e1, e2] at e; cases e
      | some us =>
        rw [e1, e2] at e
        cases e
        exact ⟨v, ws, ev, a g st H t r (Stp.refl _ _) e1, ReadsL.rep r b e2⟩
def rdM {α : Type} (rs : List Rdr) (f : List T → M α) : M α := fun st => match rdAll rs st with
  | some ts => f ts st
  | none => none
theorem at_rdM {α : Type} {rs : List Rdr} {f : List T → M α} {vs : List V} {Φ : α → Stt → Prop} (h : at_ E (rdM rs f) g σ H Φ) (r : ReadsL E g H σ rs vs) : ∃ ts, RepKs E g H ts vs ∧ at_ E (f ts) g σ H Φ := by
  obtain ⟨st, rl, h⟩ := h
  unfold run rdM at h
  cases e : rdAll rs st with
  | none => rw [e] at h; exact h.elim
  | some ts =>
    rw [e] at h
    exact ⟨ts, r.rep rl e, st, rl, h⟩
/-- a rule of a call: what f gives, nothing new laid -/
def LRC (E : Ev) (r : List V → Hp → VK → Prop) (f : List T → Option T) : Prop := ∀ (g : Gh) (H : Hp) (ts : List T) (s : T) (vs : List V) (Q : VK), Same g.Z H → RepKs E g H ts vs → f ts = some s → (∀ x, RepT E.K g s x → Q x H) → r vs H Q
/-- .. a new list -/
def LRF (E : Ev) (r : List V → Hp → VK → Prop) (f : List T → Option (List T)) : Prop := ∀ (g : Gh) (H : Hp) (ts us : List T) (vs : List V) (Q : VK), Same g.Z H → RepKs E g H ts vs → f ts = some us → (∀ p xs, H p = none → RepL E.K g us xs → Q (.ref p) (upd H p (.lst xs))) → r vs H Q
def eCall (f : List T → Option T) (m : M (List Rdr)) : M T := do let rs ← m; rdM rs fun ts => ofO (f ts)
def fCall (f : List T → Option (List T)) (m : M (List Rdr)) : M Ob := do let rs ← m; rdM rs fun ts => ofO ((f ts).map .lst)
theorem tCB_lift {r : List V → Hp → VK → Prop} {f : List T → Option T} {m : M (List Rdr)} (hl : LRC E r f) {Q : VK} (h : teM E (eCall f m) σ H Q) : tCB r (tolM E m) σ H Q := by
  obtain ⟨g, q⟩ := h
  refine seqRL st_okT q fun rs vs g1 H1 s1 rl h1 => ?_
  obtain ⟨ts, rk, h2⟩ := at_rdM h1 rl
  obtain ⟨s, st, e, r', z⟩ := at_ofO h2
  exact hl g1 H1 ts s vs Q r'.zs rk e fun x rx => z g1 H1 r' (Stp.refl _ _) x rx
theorem tCBF_lift {r : List V → Hp → VK → Prop} {f : List T → Option (List T)} {m : M (List Rdr)} (hl : LRF E r f) {Q : VK} (h : tfM E (fCall f m) σ H Q) : tCB r (tolM E m) σ H Q := by
  obtain ⟨g, q⟩ := h
  refine seqRL st_okF q fun rs vs g1 H1 s1 rl h1 => ?_
  obtain ⟨ts, rk, h2⟩ := at_rdM h1 rl
  obtain ⟨s, st, e, r', z⟩ := at_ofO h2
  cases ef : f ts with
  | none => rw [ef] at e; cases e
  | some us =>
    rw [ef] at e
    cases e
    exact hl g1 H1 ts us vs Q r'.zs rk ef fun p xs hp rx => z g1 H1 r' (Stp.refl _ _) p _ hp ⟨xs, rfl, rx⟩
section
variable {x : Str} {p : Pos} {e : Expr} {es : List Expr} {id Ty : String} {r : List V → Hp → VK → Prop}
theorem me_callB {f : List T → Option T} {m : M (List Rdr)} (hc : CallR X (.builtin id) r) (hl : LRC E r f) (hg : Gl X x) (hm : X.mg x = none) (hv : bootBuiltins x = some (.builtin id)) (ha : OA E X (e :: es) m) (hn : x ≠ "__name__" := by decide) (hdb : (x == ("__debug__" : Str)) = false := by decide)
    (he : starEach (e :: es) X.env = (false, eval e X.env) :: starEach es X.env := by rfl) (hpl : (backTo pos (starEach es X.env)).any (·.1) = false := by rfl) : ME E X (.Call (.Name x p) (e :: es) [] pos) (eCall f m) :=
  ⟨PE.mono (pe_callB hc hg hm hv ha.pa hn hdb he hpl) fun _ _ _ q => tCB_lift hl q⟩
theorem me_callTy {f : List T → Option T} {m : M (List Rdr)} (hc : CallR X (.type Ty) r) (hl : LRC E r f) (hg : Gl X x) (hm : X.mg x = none) (hv : bootBuiltins x = some (.type Ty)) (ha : OA E X (e :: es) m) (hn : x ≠ "__name__" := by decide) (hdb : (x == ("__debug__" : Str)) = false := by decide)
    (he : starEach (e :: es) X.env = (false, eval e X.env) :: starEach es X.env := by rfl) (hpl : (backTo pos (starEach es X.env)).any (·.1) = false := by rfl) : ME E X (.Call (.Name x p) (e :: es) [] pos) (eCall f m) :=
  ⟨PE.mono (pe_callTy hc hg hm hv ha.pa hn hdb he hpl) fun _ _ _ q => tCB_lift hl q⟩
theorem fe_callTy {f : List T → Option (List T)} {m : M (List Rdr)} (hc : CallR X (.type Ty) r) (hl : LRF E r f) (hg : Gl X x) (hm : X.mg x = none) (hv : bootBuiltins x = some (.type Ty)) (ha : OA E X (e :: es) m) (hn : x ≠ "__name__" := by decide) (hdb : (x == ("__debug__" : Str)) = false := by decide)
    (he : starEach (e :: es) X.env = (false, eval e X.env) :: starEach es X.env := by rfl) (hpl : (backTo pos (starEach es X.env)).any (·.1) = false := by rfl) : FE E X (.Call (.Name x p) (e :: es) [] pos) (fCall f m) :=
  ⟨PE.mono (pe_callTy hc hg hm hv ha.pa hn hdb he hpl) fun _ _ _ q => tCBF_lift hl q⟩
theorem fe_callB {f : List T → Option (List T)} {m : M (List Rdr)} (hc : CallR X (.builtin id) r) (hl : LRF E r f) (hg : Gl X x) (hm : X.mg x = none) (hv : bootBuiltins x = some (.builtin id)) (ha : OA E X (e :: es) m) (hn : x ≠ "__name__" := by decide) (hdb : (x == ("__debug__" : Str)) = false := by decide)
    (he : starEach (e :: es) X.env = (false, eval e X.env) :: starEach es X.env := by rfl) (hpl : (backTo pos (starEach es X.env)).any (·.1) = false := by rfl) : FE E X (.Call (.Name x p) (e :: es) [] pos) (fCall f m) :=
  ⟨PE.mono (pe_callB hc hg hm hv ha.pa hn hdb he hpl) fun _ _ _ q => tCBF_lift hl q⟩
end
theorem RepKs.one {t : T} {vs : List V} (h : RepKs E g H [t] vs) : ∃ v, vs = [v] ∧ RepK E g H t v := by
  obtain ⟨v, ws, e, a, b⟩ := h
  cases b
  exact ⟨v, e, a⟩
theorem RepKs.two {t u : T} {vs : List V} (h : RepKs E g H [t, u] vs) : ∃ v w, vs = [v, w] ∧ RepK E g H t v ∧ RepK E g H u w := by
  obtain ⟨v, ws, e, a, b⟩ := h
  obtain ⟨w, e2, c⟩ := b.one
  subst e2
  exact ⟨v, w, e, a, c⟩
/-! len, int, all, any, list, tuple, isinstance -/
def lenO : List T → Option T
  | [.str s] => if s.length ≤ 1000000 then some (.int s.length) else none
  | [.fz ts] => some (.int ts.length)
  | [.tup ts] => some (.int ts.length)
  | _ => none
theorem lr_len : LRC E (fun xs H Q => ∃ x n, xs = [x] ∧ LenV E.K x H n ∧ Q (.int n) H) lenO := by
  intro g H ts s vs Q zs rk e q
  match ts, e with
  | [.str z], e =>
    simp only [lenO] at e
    split at e
    · rename_i hz
      cases e
      obtain ⟨v, rfl, rv⟩ := rk.one
      rw [rv.str_of]
      exact ⟨_, z.length, rfl, ⟨by rw [sS_len]; exact mil hz, by rw [sS_len]⟩, q _ (rt_int _)⟩
    · contradiction
  | [.fz us], e =>
    simp only [lenO] at e
    cases e
    obtain ⟨v, rfl, rv⟩ := rk.one
    obtain ⟨a, xs, rfl, ha, rl⟩ := rv
    exact ⟨_, us.length, rfl, .inl ⟨xs, .inl (.inl ha), rl.len.symm⟩, q _ (rt_int _)⟩
  | [.tup us], e =>
    simp only [lenO] at e
    cases e
    obtain ⟨v, rfl, rv⟩ := rk.one
    obtain ⟨a, xs, rfl, ha, rl⟩ := rv.tup_of
    exact ⟨_, us.length, rfl, .inr ⟨xs, sameT zs ha, rl.len.symm⟩, q _ (rt_int _)⟩
def intO : List T → Option T
  | [.int i] => some (.int i)
  | [.bl b] => some (.int (if b then 1 else 0))
  | _ => none
theorem lr_int : LRC E (fun xs H Q => (∃ i, xs = [.int i] ∧ Q (.int i) H) ∨ ∃ k, xs = [.bl k] ∧ Q (.int (if k then 1 else 0)) H) intO := by
  intro g H ts s vs Q zs rk e q
  match ts, e with
  | [.int i], e =>
    simp only [intO] at e
    cases e
    obtain ⟨v, rfl, rv⟩ := rk.one
    rw [rv.int_of]
    exact .inl ⟨i, rfl, q _ (rt_int _)⟩
  | [.bl b], e =>
    simp only [intO] at e
    cases e
    obtain ⟨v, rfl, rv⟩ := rk.one
    rw [rv.bl_of]
    exact .inr ⟨b, rfl, q _ (rt_int _)⟩
def blsOf : List T → Option (List Bool)
  | [] => some []
  | .bl b :: ts => (blsOf ts).map (b :: ·)
  | _ => none
theorem RepL.bls {K : PySem.W.Frag} : ∀ {ts : List T} {xs : List V} {bs : List Bool}, RepL K g ts xs → blsOf ts = some bs → xs = bs.map V.bl
  | [], xs, bs, h, e => by unfold RepL at h; unfold blsOf at e; cases e; exact h
  | t :: ts, xs, bs, h, e => by
    unfold RepL at h
    obtain ⟨x, r, rfl, h1, h2⟩ := h
    cases t with
    | bl b =>
      unfold blsOf at e
      cases q : blsOf ts with
      | none => rw [q] at e; cases e
      | some cs =>
        rw [q] at e
        have e' : b :: cs = bs := Option.some.inj e
        rw [← e', RepL.bls h2 q, RepT.bl_of h1]
        rfl
    | _ => simp [blsOf] at e
def allO : List T → Option T
  | [.fz ts] => (blsOf ts).map fun bs => .bl (bs.all id)
  | _ => none
def anyO : List T → Option T
  | [.fz ts] => (blsOf ts).map fun bs => .bl (bs.any id)
  | _ => none
theorem lr_all : LRC E (rAll E.K) allO := by
  intro g H ts s vs Q zs rk e q
  match ts, e with
  | [.fz us], e =>
    simp only [allO] at e
    cases eb : blsOf us with
    | none => rw [eb] at e; cases e
    | some bs =>
      rw [eb] at e
      cases e
      obtain ⟨v, rfl, rv⟩ := rk.one
      obtain ⟨a, xs, rfl, ha, rl⟩ := rv
      rw [rl.bls eb] at ha
      exact ⟨a, bs, rfl, .inl (.inl ha), q _ (rt_bl _)⟩
theorem lr_any : LRC E (rAny E.K) anyO := by
  intro g H ts s vs Q zs rk e q
  match ts, e with
  | [.fz us], e =>
    simp only [anyO] at e
    cases eb : blsOf us with
    | none => rw [eb] at e; cases e
    | some bs =>
      rw [eb] at e
      cases e
      obtain ⟨v, rfl, rv⟩ := rk.one
      obtain ⟨a, xs, rfl, ha, rl⟩ := rv
      rw [rl.bls eb] at ha
      exact ⟨a, bs, rfl, .inl (.inl ha), q _ (rt_bl _)⟩
def listO : List T → Option (List T)
  | [.fz ts] => some ts
  | [.tup ts] => some ts
  | _ => none
theorem lr_list : LRF E (fun xs H Q => ∃ p ys, xs = [.ref p] ∧ (SqL E.K H p ys ∨ SqT E.K H p ys) ∧ ∀ l, H l = none → Q (.ref l) (upd H l (.lst ys))) listO := by
  intro g H ts us vs Q zs rk e q
  match ts, e with
  | [.fz ws], e =>
    simp only [listO] at e
    cases e
    obtain ⟨v, rfl, rv⟩ := rk.one
    obtain ⟨a, xs, rfl, ha, rl⟩ := rv
    exact ⟨a, xs, rfl, .inl (.inl (.inl ha)), fun l hl => q l xs hl rl⟩
  | [.tup ws], e =>
    simp only [listO] at e
    cases e
    obtain ⟨v, rfl, rv⟩ := rk.one
    obtain ⟨a, xs, rfl, ha, rl⟩ := rv.tup_of
    exact ⟨a, xs, rfl, .inr (sameT zs ha), fun l hl => q l xs hl rl⟩
/-- a tree's type -/
def T.tyOf : T → Option String
  | .non => some "NoneType"
  | .bl _ => some "bool"
  | .int _ => some "int"
  | .str _ => some "str"
  | .ty _ => none
  | .tup _ => some "tuple"
  | .fz _ => some "list"
  | .ref _ => none
  | .scr _ => none
  | .dic _ _ => none
theorem RepK.tyx (zs : Same g.Z H) {t : T} {v : V} {n : String} (h : RepK E g H t v) (e : t.tyOf = some n) : TyX E.K H v (.type n) := by
  cases t <;> simp only [T.tyOf] at e <;> try contradiction
  all_goals (injection e with e; subst e)
  · rw [h.non_of]; exact .base .non
  · rw [h.bl_of]; exact .base (.bl _)
  · rw [h.int_of]; exact .base (.int _)
  · rw [h.str_of]; exact .base (.str _)
  · obtain ⟨a, xs, rfl, hs, _⟩ := h.tup_of
    rcases sameT zs hs with (hs | ⟨o, hs⟩) | ⟨o, its, n, hk, hc, _⟩
    · exact .base (.tup hs)
    · exact .fTuple hs
    · exact .kTuple hk hc
  · obtain ⟨a, xs, rfl, hs, _⟩ := h
    exact .base (.lst hs)
/-- isinstance(x, one class), the answer by kitB -/
def isiO : List T → Option T
  | [t, .ty c] => match t.tyOf with
    | some n => (kitB n c).map .bl
    | none => none
  | _ => none
theorem lr_isi : LRC E (rIsi E.K) isiO := by
  intro g H ts s vs Q zs rk e q
  match ts, e with
  | [t, .ty c], e =>
    simp only [isiO] at e
    cases en : t.tyOf with
    | none => rw [en] at e; cases e
    | some n =>
      rw [en] at e
      simp only at e
      cases ek : kitB n c with
      | none => rw [ek] at e; cases e
      | some b =>
        rw [ek] at e
        cases e
        obtain ⟨v, w, rfl, rv, rw'⟩ := rk.two
        have ew : w = .ty c := by have h : RepT E.K g (.ty c) w := rw'; unfold RepT at h; exact h
        subst ew
        exact ⟨v, _, _, _, b, rfl, .ty c, rv.tyx zs en, kit_ty ek, q _ (rt_bl _)⟩
/-- a built-in class as a value -/
theorem me_ty {x : Str} {n : String} {p : Pos} (hg : Gl X x) (hm : X.mg x = none) (hv : bootBuiltins x = some (.type n)) (hn : x ≠ "__name__" := by decide) (hd : (x == ("__debug__" : Str)) = false := by decide) : ME E X (.Name x p) (pure (.ty n)) :=
  me_of (pe_bltn (v := .ty n) hg hm hv rfl hn hd) fun g => by unfold RepT; rfl

/-! ### slices -/
def cutL {α : Type} (xs : List α) (lo hi : Option Int) : List α := (xs.drop (HT.sIx xs.length 0 lo)).take (HT.sIx xs.length xs.length hi - HT.sIx xs.length 0 lo)
theorem RepL.cut {K : PySem.W.Frag} {ts : List T} {xs : List V} (h : RepL K g ts xs) (lo hi : Option Int) : RepL K g (cutL ts lo hi) (cutV xs lo hi) := by
  unfold cutL cutV
  rw [h.len]
  exact (h.drop _).take _
def okO (E : Ev) (g : Gh) (H : Hp) (σ : L2.St) (Q : Option Int → Hp → Prop) (o : Option Int) (st' : Stt) : Prop := beh E g H σ st' fun _ H' => Q o H'
def tpM (E : Ev) (m : M (Option Int)) : TO := fun σ H Q => ∃ g, at_ E m g σ H (okO E g H σ Q)
structure PM (E : Ev) (X : Cx) (e : Option Expr) (m : M (Option Int)) : Prop where po : PO X e (tpM E m)
theorem PO.mono {e : Option Expr} {t t' : TO} (h : PO X e t) (w : ∀ σ H Q, t' σ H Q → t σ H Q) : PO X e t' := ⟨fun pins s σ H Q I q => h.run pins s σ H Q I (w σ H Q q)⟩
theorem st_okO {Q : Option Int → Hp → Prop} : Steps (fun g H => okO E g H σ Q) := fun _ _ _ _ _ _ s h => beh.step s h
theorem seqP {β : Type} {m : M (Option Int)} {f : Option Int → M β} {Φ : Gh → Hp → β → Stt → Prop} (hΦ : Steps Φ) {Q : Option Int → Hp → Prop} (h : at_ E (m >>= f) g σ H (Φ g H))
    (k : ∀ o g1 H1, Stp g g1 H H1 → at_ E (f o) g1 σ H1 (Φ g1 H1) → Q o H1) : tpM E m σ H Q :=
  ⟨g, seq_any hΦ h fun t st1 q g1 H1 r1 s1 => k t g1 H1 s1 (q g1 H1 r1 s1)⟩
def pNo : M (Option Int) := pure none
def pSome (m : M T) : M (Option Int) := do
  match ← m with
  | .int i => pure (some i)
  | _ => stuck
theorem pm_no : PM E X none pNo := ⟨PO.mono po_none fun σ H Q ⟨g, q⟩ => by
  obtain ⟨st, r, z⟩ := at_pure q
  exact z g H r (Stp.refl _ _)⟩
theorem pm_some {e : Expr} {m : M T} (h : ME E X e m) : PM E X (some e) (pSome m) := ⟨PO.mono (po_some h.pe) fun σ H Q ⟨g, q⟩ => seqT st_okO q fun t v g1 H1 s1 rt h1 => by
  cases t with
  | int i =>
    obtain ⟨st, r, z⟩ := at_pure h1
    exact ⟨i, RepK.int_of (E := E) (g := g1) (H := H1) rt, z g1 H1 r (Stp.refl _ _)⟩
  | _ => obtain ⟨_, _, z⟩ := h1; exact z.elim⟩
/-- a list's slice, a new list -/
def fSlice (m : M Rdr) (ml mh : M (Option Int)) : M Ob := do
  let r ← m
  let lo ← ml
  let hi ← mh
  fun st => match r st with
    | some (.fz ts) => some (.ok (.lst (cutL ts lo hi)), st)
    | some (.scr ns) => some (.ok (.lst ((cutL ns lo hi).map .int)), st)
    | _ => none
theorem rep_ints {K : PySem.W.Frag} : ∀ ns : List Int, RepL K g (ns.map .int) (ns.map V.int)
  | [] => .nil
  | n :: ns => by
    rw [List.map_cons, List.map_cons]
    unfold RepL
    exact ⟨_, _, rfl, rt_int n, rep_ints ns⟩
theorem cutV_map (ns : List Int) (lo hi : Option Int) : cutV (ns.map V.int) lo hi = (cutL ns lo hi).map V.int := by
  unfold cutV cutL
  rw [List.length_map, ← List.map_drop, ← List.map_take]
theorem fe_slice {e : Expr} {lo hi : Option Expr} {p2 : Pos} {m : M Rdr} {ml mh : M (Option Int)} (he : OE E X e m) (hl : PM E X lo ml) (hh : PM E X hi mh) (hK : E.K = X.K := by rfl) : FE E X (.Subscript e (.Slice lo hi none p2) pos) (fSlice m ml mh) :=
  ⟨PE.mono (pe_slice sl_list he.pe hl.po hh.po) fun σ H Q ⟨g, q⟩ => seqO st_okF q fun rd v g1 H1 s1 rr h1 => seqP st_okF h1 fun l g2 H2 s2 h2 => seqP st_okF h2 fun u g3 H3 s3 h3 => by
    obtain ⟨st, r, z⟩ := h3
    unfold run at z
    cases e : rd st with
    | none => simp only [e] at z
    | some t =>
      simp only [e] at z
      cases t with
      | fz ts =>
        obtain ⟨a, xs, rfl, ha, rl⟩ := rr g3 st H3 _ r (s2.trans s3) e
        exact ⟨a, xs, rfl, .inl (.inl ha), fun p hp => z g3 H3 r (Stp.refl _ _) p _ hp ⟨_, rfl, rl.cut _ _⟩⟩
      | scr ns =>
        have h : RepT E.K g3 (.scr ns) v := rr g3 st H3 _ r (s2.trans s3) e
        unfold RepT at h
        obtain ⟨a, ev, ha⟩ := h
        rw [hK] at ha
        refine ⟨a, _, ev, r.zs.seq ha, fun p hp => z g3 H3 r (Stp.refl _ _) p _ hp ⟨_, rfl, ?_⟩⟩
        rw [cutV_map]
        exact rep_ints _
      | _ => exact z.elim⟩
/-- a text's slice, a tuple's slice -/
def eSlice (m : M Rdr) (ml mh : M (Option Int)) : M T := do
  let r ← m
  let lo ← ml
  let hi ← mh
  fun st => match r st with
    | some (.str s) => if s.length ≤ 1000000 then some (.ok (.str (cutL s lo hi)), st) else none
    | some (.tup ts) => some (.ok (.tup (cutL ts lo hi)), st)
    | _ => none
def rSlST (K : PySem.W.Frag) : V → Option Int → Option Int → Hp → VK → Prop := fun x lo hi H Q => rSlS x lo hi H Q ∨ rSlA K x lo hi H Q
theorem sl_st : SlR X (rSlST X.K) := by
  intro pins s σ H x v vl vu lo hi sl Q I rx hs pl pu h
  rcases h with h | h
  · exact sl_str pins s σ H x v vl vu lo hi sl Q I rx hs pl pu h
  · exact sl_tupA pins s σ H x v vl vu lo hi sl Q I rx hs pl pu h
theorem HT.sIx_whole {α : Type} {xs : List α} {lo hi : Option Int} (h : HT.sIx xs.length 0 lo = 0 ∧ HT.sIx xs.length xs.length hi = xs.length) : cutL xs lo hi = xs := by
  unfold cutL
  rw [h.1, h.2]
  simp
theorem me_slice {e : Expr} {lo hi : Option Expr} {p2 : Pos} {m : M Rdr} {ml mh : M (Option Int)} (he : OE E X e m) (hl : PM E X lo ml) (hh : PM E X hi mh) (hK : E.K = X.K := by rfl) : ME E X (.Subscript e (.Slice lo hi none p2) pos) (eSlice m ml mh) :=
  ⟨PE.mono (pe_slice sl_st he.pe hl.po hh.po) fun σ H Q ⟨g, q⟩ => seqO st_okT q fun rd v g1 H1 s1 rr h1 => seqP st_okT h1 fun l g2 H2 s2 h2 => seqP st_okT h2 fun u g3 H3 s3 h3 => by
    obtain ⟨st, r, z⟩ := h3
    unfold run at z
    cases e : rd st with
    | none => simp only [e] at z
    | some t =>
      simp only [e] at z
      cases t with
      | str s =>
        simp only at z
        by_cases hs : s.length ≤ 1000000
        · rw [if_pos hs] at z
          have ev := (rr g3 st H3 _ r (s2.trans s3) e).str_of
          subst ev
          refine .inl ⟨sS s, rfl, by rw [sS_len]; exact mil hs, ?_⟩
          have q2 := z g3 H3 r (Stp.refl _ _) (.str (sS (cutL s l u))) (rt_str _)
          have ec : cutS (sS s) l u = sS (cutL s l u) := by
            unfold cutS cutL
            rw [sS_len, show (sS s).cps.toList = s by simp [sS]]
            rfl
          rw [ec]
          exact q2
        · rw [if_neg hs] at z
          exact z.elim
      | tup ts =>
        obtain ⟨a, xs, rfl, ha, rl⟩ := (rr g3 st H3 _ r (s2.trans s3) e).tup_of
        rw [hK] at ha
        refine .inr ⟨a, xs, rfl, sameT r.zs ha, fun hw => ?_, fun _ => new_tup z r (rl.cut _ _)⟩
        refine z g3 H3 r (Stp.refl _ _) (.ref a) ?_
        rw [rl.len] at hw
        rw [HT.sIx_whole hw]
        unfold RepT
        rw [hK]
        exact ⟨a, xs, rfl, ha, by rw [← hK]; exact rl⟩
      | _ => exact z.elim⟩
/-- xs[::-1] -/
def fRev (m : M Rdr) : M Ob := do
  let r ← m
  fun st => match r st with
    | some (.fz ts) => some (.ok (.lst ts.reverse), st)
    | _ => none
theorem fe_rev {e : Expr} {k : Nat} {p1 p2 p3 : Pos} {m : M Rdr} (he : OE E X e m) : FE E X (.Subscript e (.Slice none none (some (.UnaryOp .USub (.Constant (.int 1) k p1) p2)) p3) pos) (fRev m) :=
  ⟨PE.mono (pe_revL he.pe) fun σ H Q ⟨g, q⟩ => seqO st_okF q fun rd v g1 H1 s1 rr h1 => by
    obtain ⟨st, r, z⟩ := h1
    unfold run at z
    cases e : rd st with
    | none => simp only [e] at z
    | some t =>
      simp only [e] at z
      cases t with
      | fz ts =>
        obtain ⟨a, xs, rfl, ha, rl⟩ := rr g1 st H1 _ r (Stp.refl _ _) e
        exact ⟨a, xs, rfl, .inl (.inl ha), fun p hp => z g1 H1 r (Stp.refl _ _) p _ hp ⟨_, rfl, rl.rev⟩⟩
      | _ => exact z.elim⟩
end
end Sw
namespace Sw
open PySem PySem.Spec PyProof.Rows L2

inductive Fl where
  | nxt | ret (t : T) | brk | cnt
abbrev Cmd := M Fl
section
variable {E : Ev} {g g1 : Gh} {H H1 : Hp} {σ : L2.St} {X : Cx} {pos : Pos}
/-! ### statements -/
def exS (E : Ev) (g : Gh) (H : Hp) (x : Xn) (st' : Stt) : Prop := ∀ g' σ' H' c d, Rel E.K g' st' σ' H' → Stp g g' H H' → E.RX g' x c d H' → E.W c d σ' H'
def endS (E : Ev) (D : Ends) (g' : Gh) (σ' : L2.St) (H' : Hp) : Fl → Prop
  | .nxt => D.nx σ' H'
  | .ret t => ∀ v, RepT E.K g' t v → D.rt v H'
  | .brk => D.bk σ' H'
  | .cnt => D.ct σ' H'
def okS (E : Ev) (D : Ends) (g : Gh) (H : Hp) (f : Fl) (st' : Stt) : Prop := ∀ g' σ' H', Rel E.K g' st' σ' H' → Stp g g' H H' → endS E D g' σ' H' f
def atS (E : Ev) (c : Cmd) (g : Gh) (σ : L2.St) (H : Hp) (D : Ends) : Prop := ∃ st, Rel E.K g st σ H ∧ run c st (okS E D g H) (exS E g H)
def tsM (E : Ev) (c : Cmd) : TS := fun D σ H => ∃ g, atS E c g σ H D
structure SM (E : Ev) (X : Cx) (st : Stmt) (c : Cmd) : Prop where ps : PS X st (tsM E c)
structure SSM (E : Ev) (X : Cx) (st : List Stmt) (c : Cmd) : Prop where pss : PSs X st (tsM E c)
theorem okS.step {D : Ends} (s : Stp g g1 H H1) {f : Fl} {st' : Stt} (h : okS E D g H f st') : okS E D g1 H1 f st' := fun g' σ' H' r t => h g' σ' H' r (s.trans t)
theorem exS.step (s : Stp g g1 H H1) {x : Xn} {st' : Stt} (h : exS E g H x st') : exS E g1 H1 x st' := fun g' σ' H' c d r t => h g' σ' H' c d r (s.trans t)
theorem exS.w {x : Xn} {st' : Stt} (h : exS E g H x st') : exW E g H σ x st' := fun g' H' c d r t => h g' σ H' c d r t
/-- first an expression's computation, then a statement's -/
theorem s_seq {α : Type} {m : M α} {f : α → Cmd} {D : Ends} (h : atS E (m >>= f) g σ H D) {Ψ : α → Stt → Prop}
    (k : ∀ a st1, (∀ g1 H1, Rel E.K g1 st1 σ H1 → Stp g g1 H H1 → atS E (f a) g1 σ H1 D) → Ψ a st1) : at_ E m g σ H Ψ := by
  obtain ⟨st, r, h⟩ := h
  exact ⟨st, r, run_mono (run_bind h) (fun a st1 q => k a st1 fun g1 H1 r1 s1 => ⟨st1, r1, run_mono q (fun _ _ z => z.step s1) fun _ _ z => z.step s1⟩) fun _ _ z => z.w⟩
theorem sT {m : M T} {f : T → Cmd} {D : Ends} {Q : VK} (h : atS E (m >>= f) g σ H D)
    (k : ∀ t v g1 H1, Stp g g1 H H1 → RepT E.K g1 t v → atS E (f t) g1 σ H1 D → Q v H1) : teM E m σ H Q :=
  ⟨g, s_seq h fun t st1 q g1 H1 r1 s1 v rv => k t v g1 H1 s1 rv (q g1 H1 r1 s1)⟩
theorem sB {m : M Bool} {f : Bool → Cmd} {D : Ends} {Q : Bool → Hp → Prop} (h : atS E (m >>= f) g σ H D)
    (k : ∀ t g1 H1, Stp g g1 H H1 → atS E (f t) g1 σ H1 D → Q t H1) : ttM E m σ H Q :=
  ⟨g, s_seq h fun t st1 q g1 H1 r1 s1 => k t g1 H1 s1 (q g1 H1 r1 s1)⟩
theorem sF {m : M Ob} {f : Ob → Cmd} {D : Ends} {Q : VK} (h : atS E (m >>= f) g σ H D)
    (k : ∀ ob p o g1 H1, Stp g g1 H H1 → H1 p = none → RepO E.K g1 ob (some o) → atS E (f ob) g1 σ H1 D → Q (.ref p) (upd H1 p o)) : tfM E m σ H Q :=
  ⟨g, s_seq h fun t st1 q g1 H1 r1 s1 p o hp ro => k t p o g1 H1 s1 hp ro (q g1 H1 r1 s1)⟩
theorem sO {m : M Rdr} {f : Rdr → Cmd} {D : Ends} {Q : VK} (h : atS E (m >>= f) g σ H D)
    (k : ∀ t v g1 H1, Stp g g1 H H1 → Reads E g1 H1 σ t v → atS E (f t) g1 σ H1 D → Q v H1) : toM E m σ H Q :=
  ⟨g, s_seq h fun t st1 q g1 H1 r1 s1 v rv => k t v g1 H1 s1 rv (q g1 H1 r1 s1)⟩
theorem atS_pure {f : Fl} {D : Ends} (h : atS E (pure f) g σ H D) : ∃ st, Rel E.K g st σ H ∧ okS E D g H f st := h
/-- one statement, then another -/
def cSeq (a b : Cmd) : Cmd := do
  match ← a with
  | .nxt => b
  | f => pure f
theorem ssm_nil : SSM E X [] (pure .nxt) := ⟨PSs.mono pss_nil fun D σ H ⟨g, st, r, q⟩ => q g σ H r (Stp.refl _ _)⟩
theorem ssm_one {s : Stmt} {c : Cmd} (h : SM E X s c) : SSM E X [s] c := ⟨pss_one h.ps⟩
theorem ssm_cons {s : Stmt} {rest : List Stmt} {c k : Cmd} (h1 : SM E X s c) (h2 : SSM E X rest k) : SSM E X (s :: rest) (cSeq c k) :=
  ⟨PSs.mono (pss_cons h1.ps h2.pss) fun D σ H ⟨g, st, r, q⟩ => ⟨g, st, r, run_mono (run_bind q) (fun f st1 z g1 σ1 H1 r1 s1 => by
    cases f with
    | nxt => exact ⟨g1, st1, r1, run_mono z (fun _ _ y => y.step s1) fun _ _ y => y.step s1⟩
    | ret t => exact z g1 σ1 H1 r1 s1
    | brk => exact z g1 σ1 H1 r1 s1
    | cnt => exact z g1 σ1 H1 r1 s1) fun _ _ z => z⟩⟩
theorem sm_pass : SM E X (.Pass pos) (pure .nxt) := ⟨PS.mono ps_pass fun D σ H ⟨g, st, r, q⟩ => q g σ H r (Stp.refl _ _)⟩
theorem sm_break : SM E X (.Break pos) (pure .brk) := ⟨PS.mono ps_break fun D σ H ⟨g, st, r, q⟩ => q g σ H r (Stp.refl _ _)⟩
theorem sm_continue : SM E X (.Continue pos) (pure .cnt) := ⟨PS.mono ps_continue fun D σ H ⟨g, st, r, q⟩ => q g σ H r (Stp.refl _ _)⟩
def cExpr (m : M T) : Cmd := do let _ ← m; pure .nxt
theorem sm_expr {e : Expr} {m : M T} (h : ME E X e m) (hs : swapsWith e none pos.line X.env = pure false := by rfl) : SM E X (.Expr e pos) (cExpr m) :=
  ⟨PS.mono (ps_expr h.pe hs) fun D σ H ⟨g, q⟩ => sT q fun t v g1 H1 s1 rv h1 => by
    obtain ⟨st, r, z⟩ := atS_pure h1
    exact z g1 σ H1 r (Stp.refl _ _)⟩
def cRet (m : M T) : Cmd := do let t ← m; pure (.ret t)
theorem sm_ret {e : Expr} {m : M T} (h : ME E X e m) : SM E X (.Return (some e) pos) (cRet m) :=
  ⟨PS.mono (ps_ret h.pe) fun D σ H ⟨g, q⟩ => sT q fun t v g1 H1 s1 rv h1 => by
    obtain ⟨st, r, z⟩ := atS_pure h1
    exact z g1 σ H1 r (Stp.refl _ _) v rv⟩
theorem sm_retN : SM E X (.Return none pos) (pure (.ret .non)) := ⟨PS.mono ps_retN fun D σ H ⟨g, st, r, q⟩ => q g σ H r (Stp.refl _ _) .non (by unfold RepT; rfl)⟩
def cIf (c : M Bool) (a b : Cmd) : Cmd := do if ← c then a else b
theorem sm_if {c : Expr} {a b : List Stmt} {m : M Bool} {ka kb : Cmd} (hc : TM E X c m) (ha : SSM E X a ka) (hb : SSM E X b kb) : SM E X (.If c a b pos) (cIf m ka kb) :=
  ⟨PS.mono (ps_if hc.pt ha.pss hb.pss) fun D σ H ⟨g, q⟩ => sB q fun b g1 H1 s1 h1 => by
    cases b with
    | true => exact iteT ⟨g1, h1⟩
    | false => exact iteF ⟨g1, h1⟩⟩

/-! ### names are stored -/
def setS (i : Nat) (s : Sl) (st : Stt) : Stt := { st with σ := st.σ.set i s }
theorem Rel.set {st : Stt} {i : Nat} {t : T} {v : V} (r : Rel E.K g st σ H) (rv : RepT E.K g t v) : Rel E.K g (setS i (.val t) st) (σ.set i (some v)) H := by
  refine ⟨r.toRelS, by simpa [setS] using r.len, fun j s w e1 e2 => ?_⟩
  by_cases hj : i = j
  · subst hj
    have e1 : (st.σ.set i (.val t))[i]? = some s := e1
    have hi : i < st.σ.length := by
      have := (List.getElem?_eq_some_iff.mp e1).1
      simpa using this
    rw [List.getElem?_set_self hi] at e1
    rw [List.getElem?_set_self (by rw [← r.len]; exact hi)] at e2
    cases e1
    cases e2
    exact ⟨v, rfl, rv⟩
  · have e1 : (st.σ.set i (.val t))[j]? = some s := e1
    rw [List.getElem?_set_ne hj] at e1 e2
    exact r.slot j s w e1 e2
def cSet (i : Nat) (m : M T) : Cmd := do let t ← m; fun st => some (.ok .nxt, setS i (.val t) st)
theorem tSet_lift {i : Nat} {te : TE} {m : M T} (hl : ∀ σ H Q, teM E m σ H Q → te σ H Q) {D : Ends} (h : tsM E (cSet i m) D σ H) : tAsg te (gName i) D σ H := by
  obtain ⟨g, q⟩ := h
  refine hl _ _ _ (sT q fun t v g1 H1 s1 rv h1 => ?_)
  obtain ⟨st, r, z⟩ := h1
  exact z g1 _ H1 (r.set rv) (Stp.refl _ _)
theorem sm_set {i : Nat} {x : Str} {e : Expr} {m : M T} {pos' : Pos} (hN : X.N.Nodup) (hi : X.N[i]? = some x) (hx : Loc X.env.scope x) (he : ME E X e m) (hs : swapsWith e (some (.Name x pos')) pos.line X.env = pure false := by rfl) (hf : X.fn x = true ∨ X.env.scope.names.lookup x = some .local := by first | exact .inl rfl | exact .inr rfl | assumption) :
    SM E X (.Assign [.Name x pos'] e pos) (cSet i m) := ⟨PS.mono (ps_set hN hi hx he.pe hs hf) fun D σ H h => tSet_lift (fun _ _ _ z => z) h⟩
/-- an address gets an owner -/
def Gh.give (g : Gh) (p : Addr) (l : Ow) : Gh := { g with own := fun q => if q = p then l else g.own q }
theorem Gh.give_own {p q : Addr} {l : Ow} (h : q ≠ p) : (g.give p l).own q = g.own q := by
  show (if q = p then _ else _) = _
  rw [if_neg h]
theorem Gh.give_gs {p : Addr} {l : Ow} : GStp g (g.give p l) := ⟨Same.refl _, Nat.le_refl _, fun _ _ => rfl⟩
/-- a new object, owned by slot i -/
theorem Rel.owns {st : Stt} {i : Nat} {p : Addr} {ob : Ob} {o : HO} (r : Rel E.K g st σ H) (hp : H p = none) (ro : RepO E.K g ob (some o)) :
    Rel E.K (g.give p (.slot i)) (setS i (.own ob) st) (σ.set i (some (.ref p))) (upd H p o) ∧ Stp g (g.give p (.slot i)) H (upd H p o) := by
  have op : g.own p = .out := r.fr p hp
  have zp : g.Z p = none := r.zs.free hp
  have gs : GStp g (g.give p (.slot i)) := Gh.give_gs
  refine ⟨⟨⟨fun b u e => ?_, fun b u e => ?_, fun b e => ?_, r.n, fun a ob' e => ?_⟩, by simpa [setS] using r.len, fun j s w e1 e2 => ?_⟩, ⟨gs.z, gs.n, gs.ρ, fun b u h1 h2 => ?_⟩⟩
  · have hb : b ≠ p := ne_of_none e zp
    rw [upd_ne hb]
    exact r.zs b u e
  · have hb : b ≠ p := ne_of_none e zp
    rw [Gh.give_own hb]
    exact r.zo b u e
  · by_cases hb : b = p
    · rw [hb, upd_same] at e
      cases e
    · rw [upd_ne hb] at e
      rw [Gh.give_own hb]
      exact r.fr b e
  · obtain ⟨h1, h2⟩ := r.box a ob' e
    have hb : g.ρ a ≠ p := fun z => by rw [z, op] at h1; cases h1
    refine ⟨?_, ?_⟩
    · rw [Gh.give_own (show (g.give p (.slot i)).ρ a ≠ p from hb)]
      exact h1
    · show RepO E.K _ ob' (upd H p o (g.ρ a))
      rw [upd_ne hb]
      exact h2.gstep gs
  · by_cases hj : i = j
    · subst hj
      have e1 : (st.σ.set i (.own ob))[i]? = some s := e1
      have hi : i < st.σ.length := by
        have := (List.getElem?_eq_some_iff.mp e1).1
        simpa using this
      rw [List.getElem?_set_self hi] at e1
      rw [List.getElem?_set_self (by rw [← r.len]; exact hi)] at e2
      cases e1
      cases e2
      refine ⟨p, rfl, ?_, ?_⟩
      · show (if p = p then _ else _) = _
        rw [if_pos rfl]
      · rw [upd_same]
        exact ro.gstep gs
    · have e1 : (st.σ.set i (.own ob))[j]? = some s := e1
      rw [List.getElem?_set_ne hj] at e1 e2
      have q := r.slot j s w e1 e2
      cases s with
      | emp => trivial
      | val t =>
        obtain ⟨x, e, q⟩ := q
        exact ⟨x, e, q.gstep gs⟩
      | own ob' =>
        obtain ⟨p', e, q1, q2⟩ := q
        have hb : p' ≠ p := fun z => by rw [z, op] at q1; cases q1
        refine ⟨p', e, ?_, ?_⟩
        · rw [Gh.give_own hb]
          exact q1
        · rw [upd_ne hb]
          exact q2.gstep gs
  · have hb : b ≠ p := ne_of_none h2 hp
    rw [Gh.give_own hb, upd_ne hb]
    exact ⟨h1, h2⟩
def cOwn (i : Nat) (m : M Ob) : Cmd := do let ob ← m; fun st => some (.ok .nxt, setS i (.own ob) st)
theorem tOwn_lift {i : Nat} {te : TE} {m : M Ob} (hl : ∀ σ H Q, tfM E m σ H Q → te σ H Q) {D : Ends} (h : tsM E (cOwn i m) D σ H) : tAsg te (gName i) D σ H := by
  obtain ⟨g, q⟩ := h
  refine hl _ _ _ (sF q fun ob p o g1 H1 s1 hp ro h1 => ?_)
  obtain ⟨st, r, z⟩ := h1
  obtain ⟨r2, s2⟩ := r.owns (i := i) hp ro
  exact z _ _ _ r2 s2
theorem sm_own {i : Nat} {x : Str} {e : Expr} {m : M Ob} {pos' : Pos} (hN : X.N.Nodup) (hi : X.N[i]? = some x) (hx : Loc X.env.scope x) (he : FE E X e m) (hs : swapsWith e (some (.Name x pos')) pos.line X.env = pure false := by rfl) (hf : X.fn x = true ∨ X.env.scope.names.lookup x = some .local := by first | exact .inl rfl | exact .inr rfl | assumption) :
    SM E X (.Assign [.Name x pos'] e pos) (cOwn i m) := ⟨PS.mono (ps_set hN hi hx he.pe hs hf) fun D σ H h => tOwn_lift (fun _ _ _ z => z) h⟩

/-! ### targets -/
inductive Tg where
  | nm (i : Nat)
  | tu (ts : List Tg)
mutual
def asgT : Tg → T → List Sl → Option (List Sl)
  | .nm i, t, σ => some (σ.set i (.val t))
  | .tu gs, .tup ts, σ => asgTs gs ts σ
  | .tu _, _, _ => none
def asgTs : List Tg → List T → List Sl → Option (List Sl)
  | [], [], σ => some σ
  | g :: gs, t :: ts, σ => (asgT g t σ).bind (asgTs gs ts)
  | _, _, _ => none
end
mutual
def Tg.ix : Tg → List Nat
  | .nm i => [i]
  | .tu gs => Tg.ixs gs
def Tg.ixs : List Tg → List Nat
  | [] => []
  | g :: gs => g.ix ++ Tg.ixs gs
end
/-- the slots of l alone have changed -/
def Only (l : List Nat) (σ σ' : L2.St) : Prop := σ'.length = σ.length ∧ ∀ i, i ∉ l → σ'[i]? = σ[i]?
theorem Only.refl (l : List Nat) (σ : L2.St) : Only l σ σ := ⟨rfl, fun _ _ => rfl⟩
theorem Only.trans {l : List Nat} {σ σ1 σ2 : L2.St} (a : Only l σ σ1) (b : Only l σ1 σ2) : Only l σ σ2 := ⟨b.1.trans a.1, fun i h => (b.2 i h).trans (a.2 i h)⟩
theorem Only.mono {l l' : List Nat} {σ σ' : L2.St} (a : Only l σ σ') (h : ∀ i ∈ l, i ∈ l') : Only l' σ σ' := ⟨a.1, fun i hi => a.2 i fun z => hi (h i z)⟩
theorem wipe_get {σ : L2.St} : ∀ {vs : List Nat} {i : Nat}, (wipe σ vs)[i]? = if i ∈ vs then (σ[i]?).map (fun _ => none) else σ[i]?
  | [], i => by simp [wipe]
  | v :: vs, i => by
    unfold wipe
    by_cases h : v = i
    · subst h
      rw [if_pos List.mem_cons_self]
      by_cases hv : v < σ.length
      · rw [List.getElem?_set_self (by rw [wipe_length]; exact hv), List.getElem?_eq_getElem hv]
        rfl
      · rw [List.getElem?_eq_none (by simp [wipe_length]; omega), List.getElem?_eq_none (by omega)]
        rfl
    · rw [List.getElem?_set_ne h, wipe_get]
      by_cases hm : i ∈ vs
      · rw [if_pos hm, if_pos (List.mem_cons_of_mem _ hm)]
      · rw [if_neg hm, if_neg (by simp only [List.mem_cons, not_or]; exact ⟨fun z => h z.symm, hm⟩)]
theorem Only.wipe {l : List Nat} {σ σ' : L2.St} (a : Only l σ σ') : L2.wipe σ' l = L2.wipe σ l := by
  apply List.ext_getElem?
  intro i
  rw [wipe_get, wipe_get]
  by_cases h : i ∈ l
  · rw [if_pos h, if_pos h]
    by_cases hi : i < σ.length
    · rw [List.getElem?_eq_getElem hi, List.getElem?_eq_getElem (by rw [a.1]; exact hi)]
      rfl
    · rw [List.getElem?_eq_none (Nat.le_of_not_lt (by rw [a.1]; exact hi)), List.getElem?_eq_none (Nat.le_of_not_lt hi)]
  · rw [if_neg h, if_neg h, a.2 i h]
def tgM (E : Ev) (tg : Tg) : TG := fun v σ H Q => ∃ g st t σ', Rel E.K g st σ H ∧ RepT E.K g t v ∧ asgT tg t st.σ = some σ' ∧ ∀ σV, Rel E.K g { st with σ := σ' } σV H → Only tg.ix σ σV → Q σV H
def tgsM (E : Ev) (tg : List Tg) : TGs := fun vs σ H Q => ∃ g st ts σ', Rel E.K g st σ H ∧ RepL E.K g ts vs ∧ asgTs tg ts st.σ = some σ' ∧ ∀ σV, Rel E.K g { st with σ := σ' } σV H → Only (Tg.ixs tg) σ σV → Q σV H
structure GM (E : Ev) (X : Cx) (e : Expr) (tg : Tg) : Prop where pg : PG X e (tgM E tg)
structure GsM (E : Ev) (X : Cx) (e : List Expr) (tg : List Tg) : Prop where pg : PGs X e (tgsM E tg)
theorem PG.mono {e : Expr} {t t' : TG} (h : PG X e t) (w : ∀ v σ H Q, t' v σ H Q → t v σ H Q) : PG X e t' := ⟨fun pins s σ H v u Q I r q => h.run pins s σ H v u Q I r (w v σ H Q q)⟩
theorem PGs.mono {e : List Expr} {t t' : TGs} (h : PGs X e t) (w : ∀ v σ H Q, t' v σ H Q → t v σ H Q) : PGs X e t' := ⟨fun pins s σ H v u Q I r q => h.run pins s σ H v u Q I r (w v σ H Q q)⟩
theorem gm_name {i : Nat} {x : Str} (hN : X.N.Nodup) (hi : X.N[i]? = some x) (hx : Loc X.env.scope x) (hf : X.fn x = true ∨ X.env.scope.names.lookup x = some .local := by first | exact .inl rfl | exact .inr rfl | assumption) : GM E X (.Name x pos) (.nm i) :=
  ⟨PG.mono (pg_name hN hi hx hf) fun v σ H Q ⟨g, st, t, σ', r, rv, e, q⟩ => by
    unfold asgT at e
    cases e
    refine q _ (r.set rv) ⟨by simp, fun j hj => ?_⟩
    have hj : j ≠ i := fun z => hj (by rw [z]; unfold Tg.ix; exact List.mem_singleton.mpr rfl)
    rw [List.getElem?_set_ne (Ne.symm hj)]⟩
theorem gsm_nil : GsM E X [] [] := ⟨PGs.mono pgs_nil fun v σ H Q ⟨g, st, t, σ', r, rv, e, q⟩ => by
  cases t with
  | nil =>
    unfold asgTs at e
    cases e
    unfold RepL at rv
    exact ⟨rv, q σ r (Only.refl _ _)⟩
  | cons _ _ => simp [asgTs] at e⟩
theorem gsm_cons {e : Expr} {es : List Expr} {tg : Tg} {tgs : List Tg} (h1 : GM E X e tg) (h2 : GsM E X es tgs)
    (hs : (assignEach (e :: es) X.env).map (·.2) = assign e X.env :: (assignEach es X.env).map (·.2) := by rfl) : GsM E X (e :: es) (tg :: tgs) :=
  ⟨PGs.mono (pgs_cons h1.pg h2.pg hs) fun vs σ H Q ⟨g, st, ts, σ', r, rv, e, q⟩ => by
    cases ts with
    | nil => simp [asgTs] at e
    | cons t ts =>
      unfold RepL at rv
      obtain ⟨v, ws, ev, r1, r2⟩ := rv
      unfold asgTs at e
      cases e1 : asgT tg t st.σ with
      | none => rw [e1] at e; cases e
      | some σ1 =>
        rw [e1] at e
        refine ⟨v, ws, ev, g, st, t, σ1, r, r1, e1, fun σV r' o1 => ⟨g, { st with σ := σ1 }, ts, σ', r', r2, e, fun σW r'' o2 => q σW r'' ?_⟩⟩
        unfold Tg.ixs
        exact (o1.mono fun i hi => List.mem_append_left _ hi).trans (o2.mono fun i hi => List.mem_append_right _ hi)⟩
theorem gm_tup {es : List Expr} {k : Nat} {tgs : List Tg} (hc : X.calm = true) (h : GsM E X es tgs)
    (hn : (assignEach es X.env).length = tgs.length := by rfl) (hst : (assignEach es X.env).findIdx? (·.1) = none := by rfl) (hK : E.K = X.K := by rfl) : GM E X (.Tuple es k pos) (.tu tgs) :=
  ⟨PG.mono (pg_tup hc h.pg hn hst) fun v σ H Q ⟨g, st, t, σ', r, rv, e, q⟩ => by
    cases t with
    | tup ts =>
      unfold asgT at e
      unfold RepT at rv
      obtain ⟨a, xs, ev, hs, rl⟩ := rv
      have hl : ∀ {gs : List Tg} {us : List T} {s s' : List Sl}, asgTs gs us s = some s' → us.length = gs.length := by
        intro gs
        induction gs with
        | nil =>
          intro us s s' e
          cases us with
          | nil => rfl
          | cons _ _ => simp [asgTs] at e
        | cons g gs ih =>
          intro us s s' e
          cases us with
          | nil => simp [asgTs] at e
          | cons u us =>
            unfold asgTs at e
            cases e1 : asgT g u s with
            | none => rw [e1] at e; cases e
            | some s1 =>
              rw [e1] at e
              rw [List.length_cons, List.length_cons, ih e]
      rw [hK] at hs
      exact ⟨a, xs, ev, sameT r.zs hs, by rw [rl.len, hl e], g, st, ts, σ', r, rl, e, fun σV r' o => q σV r' (by unfold Tg.ix; exact o)⟩
    | _ => simp [asgT] at e⟩
/-- a, b = e -/
def cUnp (tg : Tg) (m : M T) : Cmd := do
  let t ← m
  fun st => match asgT tg t st.σ with
    | some σ' => some (.ok .nxt, { st with σ := σ' })
    | none => none
theorem sm_unp {te e : Expr} {tg : Tg} {m : M T} (he : ME E X e m) (hg : GM E X te tg) (hs : swapsWithSole [te] e pos.line X.env = pure false := by rfl) (hw : swappedStores [te] e X.env = pure none := by rfl)
    (h1 : (assignEach [te] X.env).map (·.2) = [assign te X.env] := by rfl) : SM E X (.Assign [te] e pos) (cUnp tg m) :=
  ⟨PS.mono (ps_asg he.pe hg.pg hs hw h1) fun D σ H ⟨g, q⟩ => sT q fun t v g1 H1 s1 rv h1 => by
    obtain ⟨st, r, z⟩ := h1
    unfold run at z
    cases e : asgT tg t st.σ with
    | none => simp only [e] at z
    | some σ' =>
      simp only [e] at z
      exact ⟨g1, st, t, σ', r, rv, e, fun σV r' _ => z g1 σV H1 r' (Stp.refl _ _)⟩⟩

/-! ### defs: what they are, how they are called -/
abbrev FnM := List T → List Ob → Option (R T × List Ob)
def spM (K : PySem.W.Frag) (RX : Gh → Xn → Value → Option Addr → Hp → Prop) (n : Nat) (m : FnM) : Sp := fun vs H Q Ex => ∃ g S ts, ts.length = n ∧ RelS K g S H ∧ RepL K g ts vs ∧ (∀ p i, g.own p ≠ .slot i) ∧ match m ts S with
  | none => False
  | some (.ok t, S') => ∀ g' H' v, RelS K g' S' H' → Stp g g' H H' → RepT K g' t v → Q v H'
  | some (.exc x, S') => ∀ g' H' c d, RelS K g' S' H' → Stp g g' H H' → RX g' x c d H' → Ex c d H'
/-- a def's body, from its arguments -/
def fnM (n : Nat) (c : Cmd) : FnM := fun ts S => match c ⟨ts.map .val ++ List.replicate (n - ts.length) .emp, S⟩ with
  | some (.ok .nxt, st') => some (.ok .non, st'.S)
  | some (.ok (.ret t), st') => some (.ok t, st'.S)
  | some (.ok _, _) => none
  | some (.exc x, st') => some (.exc x, st'.S)
  | none => none
theorem start_rel {K : PySem.W.Frag} {S : List Ob} {ts : List T} {vs : List V} {N : List Str} (r : RelS K g S H) (rl : RepL K g ts vs) : Rel K g ⟨ts.map .val ++ List.replicate (N.length - ts.length) .emp, S⟩ (L2.start N vs) H := by
  have hl := rl.len
  refine ⟨r, by simp [L2.start, hl], fun i s v e1 e2 => ?_⟩
  by_cases hi : i < ts.length
  · have e1 : (ts.map Sl.val ++ List.replicate (N.length - ts.length) Sl.emp)[i]? = some s := e1
    rw [List.getElem?_append_left (by simpa using hi), List.getElem?_map, List.getElem?_eq_getElem hi] at e1
    cases e1
    unfold L2.start at e2
    rw [List.getElem?_append_left (by simpa [hl] using hi), List.getElem?_map] at e2
    obtain ⟨x, ex, rx⟩ := rl.get (List.getElem?_eq_getElem hi)
    rw [ex] at e2
    cases e2
    exact ⟨x, rfl, rx⟩
  · have e1 : (ts.map Sl.val ++ List.replicate (N.length - ts.length) Sl.emp)[i]? = some s := e1
    rw [List.getElem?_append_right (by simpa using hi), List.getElem?_replicate] at e1
    split at e1
    · cases e1
      trivial
    · cases e1
section
variable {P : Program} {w : World} {K : PySem.W.Frag} {mg : Str → Option Value} {base : Heap} {RX : Gh → Xn → Value → Option Addr → Hp → Prop}
/-- THE RULE for a def -/
theorem fn_okM {x qual : Str} {st : Stmt} {f : Addr} {fd : FuncData} {N ps : List Str} {k : Nat} {c : Cmd} (F : Fun K x qual st f fd) (S : FnScope N ps (defScope st))
    (hbody : ∀ (cdv : Value) (A : Around) (outer : List Env) (s : Shared) (H : Hp) (Ex : XK), Room k (A.deeper (envOfC qual (defScope st) s.heap.objs.size f cdv)) →
      Takes (cxOf (L2.CX P w) P w K mg base N qual (defScope st) f cdv A outer s H Ex) (fun cls d _ H => Ex cls d H) →
      SSM ⟨K, fun cls d _ H => Ex cls d H, RX⟩ (cxOf (L2.CX P w) P w K mg base N qual (defScope st) f cdv A outer s H Ex) (defBody st) c) :
    FnOk P w K mg base (L2.CX P w) (k + 1) f fd ps (spM K RX ps.length (fnM N.length c)) := by
  refine F.okX S (fun vs H Q Ex h => ?_) (fun cdv A outer s H vs Q Ex hr h => ?_)
  · obtain ⟨g, Sx, ts, hn, r, rl, _⟩ := h
    rw [rl.len, hn]
  · obtain ⟨g, Sx, ts, hn, r, rl, _, h⟩ := h
    refine ⟨_, (hbody cdv A outer s H Ex hr (takes_of rfl rfl rfl rfl)).pss, g, ⟨ts.map .val ++ List.replicate (N.length - ts.length) .emp, Sx⟩, start_rel r rl, ?_⟩
    unfold fnM at h
    unfold run
    cases e : c ⟨ts.map .val ++ List.replicate (N.length - ts.length) .emp, Sx⟩ with
    | none => rw [e] at h; exact h.elim
    | some p =>
      obtain ⟨q, st'⟩ := p
      rw [e] at h
      cases q with
      | exc x => exact fun g' σ' H' c d r' s' rx => h g' H' c d r'.toRelS s' rx
      | ok fl =>
        cases fl with
        | nxt => exact fun g' σ' H' r' s' => h g' H' .non r'.toRelS s' (by unfold RepT; rfl)
        | ret t => exact fun g' σ' H' r' s' v rv => h g' H' v r'.toRelS s' rv
        | brk => exact h.elim
        | cnt => exact h.elim
end
/-- the caller's own things are nobody's business below -/
def Gh.low (g : Gh) : Gh := { g with own := fun p => match g.own p with | .slot _ => .out | l => l }
def Gh.back (g g' : Gh) : Gh := { g' with own := fun p => match g.own p with | .slot i => .slot i | _ => (match g'.own p with | .slot _ => .out | l => l) }
theorem low_slot {g : Gh} {p : Addr} {i : Nat} : g.low.own p ≠ .slot i := by
  intro h
  have h : (match g.own p with | .slot _ => Ow.out | l => l) = .slot i := h
  cases e : g.own p <;> rw [e] at h <;> cases h
theorem Rel.low {K : PySem.W.Frag} {st : Stt} (r : Rel K g st σ H) : RelS K g.low st.S H := by
  have key : ∀ p, g.low.own p = (match g.own p with | .slot _ => .out | l => l) := fun _ => rfl
  have gs : GStp g g.low := ⟨Same.refl _, Nat.le_refl _, fun _ _ => rfl⟩
  refine ⟨r.zs, fun p o e => ?_, fun p e => ?_, r.n, fun a ob e => ?_⟩
  · rw [key, r.zo p o e]
  · rw [key, r.fr p e]
  · obtain ⟨h1, h2⟩ := r.box a ob e
    exact ⟨by rw [key]; show (match g.own (g.ρ a) with | .slot _ => Ow.out | l => l) = _; rw [h1], h2.gstep gs⟩
theorem Rel.back {K : PySem.W.Frag} {st : Stt} {g' : Gh} {H' : Hp} {S' : List Ob} (r : Rel K g st σ H) (r' : RelS K g' S' H') (s : Stp g.low g' H H') : Rel K (g.back g') ⟨st.σ, S'⟩ σ H' ∧ Stp g (g.back g') H H' ∧ GStp g' (g.back g') := by
  have key : ∀ p, (g.back g').own p = (match g.own p with | .slot i => .slot i | _ => (match g'.own p with | .slot _ => .out | l => l)) := fun _ => rfl
  have lo : ∀ p, g.low.own p = (match g.own p with | .slot _ => .out | l => l) := fun _ => rfl
  have gs : GStp g' (g.back g') := ⟨Same.refl _, Nat.le_refl _, fun _ _ => rfl⟩
  have gs2 : GStp g (g.back g') := ⟨s.z, s.n, s.ρ⟩
  -- an owned object of the caller's stays
  have stay : ∀ p i o, g.own p = .slot i → H p = some o → g'.own p = .out ∧ H' p = some o := fun p i o h1 h2 => s.out p o (by rw [lo, h1]) h2
  have some_ : ∀ p i, g.own p = .slot i → ∃ o, H p = some o := fun p i h => by
    cases e : H p with
    | some o => exact ⟨o, rfl⟩
    | none => rw [r.fr p e] at h; cases h
  refine ⟨⟨⟨r'.zs, fun p o e => ?_, fun p e => ?_, r'.n, fun a ob e => ?_⟩, r.len, fun i sl v e1 e2 => ?_⟩, ⟨s.z, s.n, s.ρ, fun p o h1 h2 => ?_⟩, gs⟩
  · rw [key]
    cases h : g.own p with
    | slot i =>
      obtain ⟨o', ho⟩ := some_ p i h
      have := (stay p i o' h ho).1
      rw [r'.zo p o e] at this
      cases this
    | _ => simp only [r'.zo p o e]
  · rw [key]
    cases h : g.own p with
    | slot i =>
      obtain ⟨o', ho⟩ := some_ p i h
      have := (stay p i o' h ho).2
      rw [e] at this
      cases this
    | _ => simp only [r'.fr p e]
  · obtain ⟨h1, h2⟩ := r'.box a ob e
    refine ⟨?_, h2.gstep gs⟩
    rw [key]
    show (match g.own (g'.ρ a) with | .slot i => Ow.slot i | _ => (match g'.own (g'.ρ a) with | .slot _ => Ow.out | l => l)) = .box a
    cases h : g.own (g'.ρ a) with
    | slot i =>
      obtain ⟨o', ho⟩ := some_ _ i h
      have := (stay _ i o' h ho).1
      rw [h1] at this
      cases this
    | _ => simp only [h1]
  · have q := r.slot i sl v e1 e2
    cases sl with
    | emp => trivial
    | val t =>
      obtain ⟨x, e, q⟩ := q
      exact ⟨x, e, q.gstep gs2⟩
    | own ob =>
      obtain ⟨p, e, q1, q2⟩ := q
      obtain ⟨o', ho⟩ := some_ p i q1
      refine ⟨p, e, by rw [key, q1], ?_⟩
      rw [(stay p i o' q1 ho).2, ← ho]
      exact q2.gstep gs2
  · have h3 := s.out p o (by rw [lo, h1]) h2
    refine ⟨?_, h3.2⟩
    rw [key, h1]
    simp only [h3.1]
/-- a call of a def -/
def eFn (m : FnM) (ma : M (List T)) : M T := do
  let ts ← ma
  fun st => match m ts st.S with
    | some (r, S') => some (r, { st with S := S' })
    | none => none
/-- what is told of an exception stays told -/
def RXok (RX : Gh → Xn → Value → Option Addr → Hp → Prop) : Prop := ∀ g g' x c d H, GStp g g' → RX g x c d H → RX g' x c d H
theorem fn_call {n : Nat} {m : FnM} {ma : M (List T)} {Q : VK} (hR : RXok E.RX) (hn : ∀ ts st, (∃ st', ma st = some (.ok ts, st')) → ts.length = n) (h : teM E (eFn m ma) σ H Q) :
    taM E ma σ H fun vs H1 => spM E.K E.RX n m (vs ++ []) H1 Q (fun c d H' => E.W c d σ H') := by
  obtain ⟨g, st, r, h⟩ := h
  have h := run_bind h
  refine ⟨g, st, r, ?_⟩
  unfold run at h ⊢
  cases e : ma st with
  | none => simp only [e] at h
  | some p =>
    obtain ⟨q, st1⟩ := p
    simp only [e] at h ⊢
    cases q with
    | exc x => exact h
    | ok ts =>
      simp only at h ⊢
      intro g1 H1 r1 s1 vs rl
      rw [List.append_nil]
      refine ⟨g1.low, st1.S, ts, hn ts st ⟨st1, e⟩, r1.low, rl.gstep (g := g1) (g' := g1.low) ⟨Same.refl _, Nat.le_refl _, fun _ _ => rfl⟩, fun _ _ => low_slot, ?_⟩
      cases em : m ts st1.S with
      | none => simp only [em] at h
      | some p =>
        obtain ⟨q, S'⟩ := p
        simp only [em] at h
        cases q with
        | ok t =>
          intro g' H' v r' s' rv
          obtain ⟨r2, s2, gs⟩ := r1.back r' s'
          exact h _ H' r2 (s1.trans s2) v (rv.gstep gs)
        | exc x =>
          intro g' H' c d r' s' rx
          obtain ⟨r2, s2, gs⟩ := r1.back r' s'
          exact h _ H' c d r2 (s1.trans s2) (hR _ _ _ _ _ _ gs rx)
theorem pass_at {W : WX} (tk : Takes X W) : ∀ σ, PassesAt (L2.CX X.prog X.w) X σ (fun c d H' => W c d σ H') := fun σ => passAt tk σ
theorem me_fn {k n : Nat} {f : Addr} {fd : FuncData} {ps : List Str} {m : FnM} {ma : M (List T)} {x : Str} {p : Pos} {e : Expr} {es : List Expr} (F : FnOk X.prog X.w X.K X.mg X.base (L2.CX X.prog X.w) k f fd ps (spM E.K E.RX n m)) (hr : Room k X.A) (hg : Gl X x) (hm : X.mg x = some (.ref f)) (hk : PySem.W.keepIn X.K (.ref f) = true) (hb : Binds X.K fd ps [])
    (tk : Takes X E.W) (hR : RXok E.RX) (ha : AM E X (e :: es) ma) (hn : ∀ ts st, (∃ st', ma st = some (.ok ts, st')) → ts.length = n) (hdb : (x == ("__debug__" : Str)) = false := by decide) (he : starEach (e :: es) X.env = (false, eval e X.env) :: starEach es X.env := by rfl) (hpl : (backTo pos (starEach es X.env)).any (·.1) = false := by rfl) :
    ME E X (.Call (.Name x p) (e :: es) [] pos) (eFn m ma) :=
  ⟨PE.mono (pe_callSD F hr hg hm hk hb .nil (pass_at tk) ha.pa hdb he hpl) fun σ H Q q => fn_call hR hn q⟩
end
end Sw
namespace Sw
open PySem PySem.Spec PyProof.Rows L2
open Classical

section
variable {E : Ev} {g g1 : Gh} {H H1 : Hp} {σ : L2.St} {X : Cx} {pos : Pos}
/-! ### what is walked -/
structure Itr where
  ts : List T
  chk : Stt → Prop
/-- the iterator J yields ts, as long as chk holds -/
structure ItOk (E : Ev) (g : Gh) (σ0 : L2.St) (l : List Nat) (J : It) (it : Itr) : Prop where
  go : ∀ g' st' σ' H' i, Rel E.K g' st' σ' H' → GStp g g' → it.chk st' → (∀ j ∈ l, σ'[j]? = σ0[j]?) → i < it.ts.length → J.go i H'
  stop : ∀ g' st' σ' H', Rel E.K g' st' σ' H' → GStp g g' → it.chk st' → (∀ j ∈ l, σ'[j]? = σ0[j]?) → J.stop it.ts.length H'
  yld : ∀ g' st' σ' H' i x H2, Rel E.K g' st' σ' H' → GStp g g' → it.chk st' → (∀ j ∈ l, σ'[j]? = σ0[j]?) → i < it.ts.length → J.yld i H' x H2 → ∃ g2 t, Rel E.K g2 st' σ' H2 ∧ Stp g' g2 H' H2 ∧ it.ts[i]? = some t ∧ RepT E.K g2 t x
def okI (E : Ev) (l : List Nat) (g : Gh) (H : Hp) (σ : L2.St) (R : It → Hp → Prop) (it : Itr) (st' : Stt) : Prop := beh E g H σ st' fun g' H' => ∀ J, ItOk E g' σ l J it → R J H'
def tiM (E : Ev) (l : List Nat) (m : M Itr) : TI := fun σ H R => ∃ g, at_ E m g σ H (okI E l g H σ R)
structure IM (E : Ev) (l : List Nat) (X : Cx) (tg iter : Expr) (m : M Itr) : Prop where pi : PI X tg iter (tiM E l m)
theorem PI.mono {tg e : Expr} {t t' : TI} (h : PI X tg e t) (w : ∀ σ H Q, t' σ H Q → t σ H Q) : PI X tg e t' := ⟨fun pins s σ H Q I q => h.run pins s σ H Q I (w σ H Q q)⟩
theorem st_okI {l : List Nat} {R : It → Hp → Prop} : Steps (fun g H => okI E l g H σ R) := fun _ _ _ _ _ _ s h => beh.step s h
theorem RepT.fz_of {K : PySem.W.Frag} {ts : List T} {v : V} (h : RepT K g (.fz ts) v) : ∃ a xs, v = .ref a ∧ g.Z a = some (.lst xs) ∧ RepL K g ts xs := by unfold RepT at h; exact h
theorem RepT.tup_of {K : PySem.W.Frag} {ts : List T} {v : V} (h : RepT K g (.tup ts) v) : ∃ a xs, v = .ref a ∧ SqT K g.Z a xs ∧ RepL K g ts xs := by unfold RepT at h; exact h
theorem RepT.str_of {K : PySem.W.Frag} {s : List Nat} {v : V} (h : RepT K g (.str s) v) : v = .str (sS s) := by unfold RepT at h; exact h
theorem RepT.int_of {K : PySem.W.Frag} {i : Int} {v : V} (h : RepT K g (.int i) v) : v = .int i := by unfold RepT at h; exact h
theorem lt_get {α : Type} {ts : List α} {i : Nat} (h : i < ts.length) : ∃ t, ts[i]? = some t := ⟨ts[i], List.getElem?_eq_getElem h⟩
theorem it_list {a : Addr} {xs : List V} {ts : List T} {l : List Nat} (hz : g.Z a = some (.lst xs)) (rl : RepL E.K g ts xs) : ItOk E g σ l (Itl X.K a) ⟨ts, fun _ => True⟩ := by
  have sq : ∀ {g' st' σ' H'}, Rel E.K g' st' σ' H' → GStp g g' → SqL X.K H' a xs := fun r s => .inl (.inl (r.zs _ _ (s.z _ _ hz)))
  refine ⟨fun g' st' σ' H' i r s _ _ hi => ?_, fun g' st' σ' H' r s _ _ => ⟨xs, sq r s, by rw [rl.len]; exact Nat.le_refl _⟩, fun g' st' σ' H' i x H2 r s _ _ hi y => ?_⟩
  · obtain ⟨t, e⟩ := lt_get hi
    obtain ⟨x, ex, _⟩ := rl.get e
    exact ⟨xs, x, sq r s, ex⟩
  · obtain ⟨t, e⟩ := lt_get hi
    obtain ⟨x', ex, rx⟩ := rl.get e
    obtain ⟨eH, y⟩ := y
    subst eH
    have e2 := y xs (sq r s)
    rw [ex] at e2
    cases e2
    exact ⟨g', t, r, Stp.refl _ _, e, rx.gstep s⟩
/-- a list that stands still -/
def iFz (m : M T) : M Itr := do
  match ← m with
  | .fz ts => pure ⟨ts, fun _ => True⟩
  | _ => stuck
theorem im_fz {l : List Nat} {tg e : Expr} {m : M T} (h : ME E X e m) : IM E l X tg e (iFz m) :=
  ⟨PI.mono (pi_list h.pe) fun σ H R ⟨g, q⟩ => seqT st_okI q fun t v g1 H1 s1 rv h1 => by
    cases t with
    | fz ts =>
      obtain ⟨st, r, z⟩ := at_pure h1
      obtain ⟨a, xs, e, hz, rl⟩ := rv.fz_of
      exact ⟨a, e, ⟨xs, .inl (.inl (r.zs _ _ hz))⟩, z g1 H1 r (Stp.refl _ _) _ (it_list hz rl)⟩
    | _ => obtain ⟨_, _, z⟩ := h1; exact z.elim⟩
/-- a tuple -/
def iTu (m : M T) : M Itr := do
  match ← m with
  | .tup ts => pure ⟨ts, fun _ => True⟩
  | _ => stuck
theorem im_tu {l : List Nat} {tg e : Expr} {m : M T} (h : ME E X e m) (hK : E.K = X.K := by rfl) : IM E l X tg e (iTu m) :=
  ⟨PI.mono (pi_tup h.pe) fun σ H R ⟨g, q⟩ => seqT st_okI q fun t v g1 H1 s1 rv h1 => by
    cases t with
    | tup ts =>
      obtain ⟨st, r, z⟩ := at_pure h1
      obtain ⟨a, xs, e, hz, rl⟩ := rv.tup_of
      rw [hK] at hz
      refine ⟨a, e, ⟨xs, sameT r.zs hz⟩, z g1 H1 r (Stp.refl _ _) _ ?_⟩
      have sq : ∀ {g' st' σ' H'}, Rel E.K g' st' σ' H' → GStp g1 g' → SqT X.K H' a xs := fun r s => sameT r.zs (sameT s.z hz)
      refine ⟨fun g' st' σ' H' i r s _ _ hi => ?_, fun g' st' σ' H' r s _ _ => ⟨xs, sq r s, by rw [rl.len]; exact Nat.le_refl _⟩, fun g' st' σ' H' i x H2 r s _ _ hi y => ?_⟩
      · obtain ⟨t, e⟩ := lt_get hi
        obtain ⟨x, ex, _⟩ := rl.get e
        exact ⟨xs, x, sq r s, ex⟩
      · obtain ⟨t, e⟩ := lt_get hi
        obtain ⟨x', ex, rx⟩ := rl.get e
        obtain ⟨eH, y⟩ := y
        subst eH
        have e2 := y xs (sq r s)
        rw [ex] at e2
        cases e2
        exact ⟨g', t, r, Stp.refl _ _, e, rx.gstep s⟩
    | _ => obtain ⟨_, _, z⟩ := h1; exact z.elim⟩
/-- a list as it stands at each turn: it must not change -/
def iVar (i : Nat) : M Itr := fun st => match rVar i st with
  | some (.fz ts) => some (.ok ⟨ts, fun st' => rVar i st' = some (.fz ts)⟩, st)
  | _ => none
/-- range(n) -/
def iRange (m : M (List T)) : M Itr := do
  match ← m with
  | [.int n] => if n ≤ 1000000 ∧ -1000000 ≤ n then pure ⟨(List.range n.toNat).map fun k => .int (k : Nat), fun _ => True⟩ else stuck
  | _ => stuck
theorem RepL.one_of {K : PySem.W.Frag} {t : T} {vs : List V} (h : RepL K g [t] vs) : ∃ v, vs = [v] ∧ RepT K g t v := by
  unfold RepL at h
  obtain ⟨v, r, e, a, b⟩ := h
  unfold RepL at b
  subst b
  exact ⟨v, e, a⟩
theorem it_range {lo : Int} {n : Nat} {l : List Nat} : ItOk E g σ l (L2.Itr lo n) ⟨(List.range n).map fun k => .int (lo + (k : Nat)), fun _ => True⟩ := by
  refine ⟨fun g' st' σ' H' i r s _ _ hi => by show i < n; simpa using hi, fun g' st' σ' H' r s _ _ => ?_, fun g' st' σ' H' i x H2 r s _ _ hi y => ?_⟩
  · show n ≤ _
    simp
  · obtain ⟨e1, e2⟩ := y
    subst e1
    subst e2
    have hi : i < n := by simpa using hi
    exact ⟨g', .int (lo + i), r, Stp.refl _ _, by simp [hi], rt_int _⟩
theorem im_range {l : List Nat} {tg a : Expr} {m : M (List T)} {p : Pos} (hg : Gl X "range") (hm : X.mg "range" = none) (ha : AM E X [a] m) (hs : starEach [a] X.env = [(false, eval a X.env)] := by rfl) : IM E l X tg (.Call (.Name "range" p) [a] [] pos) (iRange m) :=
  ⟨PI.mono (pi_range1 hg hm ha.pa hs) fun σ H R ⟨g, q⟩ => ⟨g, seq_any (Φ := fun g H => okI E l g H σ R) st_okI q fun ts st1 k g1 H1 r1 s1 vs rl => by
    have h1 := k g1 H1 r1 s1
    match ts, h1 with
    | [.int n], h1 =>
      simp only at h1
      by_cases hn : n ≤ 1000000 ∧ -1000000 ≤ n
      · rw [if_pos hn] at h1
        obtain ⟨st, r, z⟩ := at_pure h1
        obtain ⟨v, e, rv⟩ := rl.one_of
        refine ⟨n, by rw [e, rv.int_of], by omega, by omega, z g1 H1 r (Stp.refl _ _) _ ?_⟩
        have := it_range (E := E) (g := g1) (σ := σ) (lo := 0) (n := n.toNat) (l := l)
        simpa using this
      · rw [if_neg hn] at h1
        obtain ⟨_, _, z⟩ := h1
        exact z.elim
    | [], h1 => obtain ⟨_, _, z⟩ := h1; exact z.elim
    | .non :: _, h1 => obtain ⟨_, _, z⟩ := h1; exact z.elim
    | .bl _ :: _, h1 => obtain ⟨_, _, z⟩ := h1; exact z.elim
    | .str _ :: _, h1 => obtain ⟨_, _, z⟩ := h1; exact z.elim
    | .ty _ :: _, h1 => obtain ⟨_, _, z⟩ := h1; exact z.elim
    | .tup _ :: _, h1 => obtain ⟨_, _, z⟩ := h1; exact z.elim
    | .fz _ :: _, h1 => obtain ⟨_, _, z⟩ := h1; exact z.elim
    | .ref _ :: _, h1 => obtain ⟨_, _, z⟩ := h1; exact z.elim
    | .scr _ :: _, h1 => obtain ⟨_, _, z⟩ := h1; exact z.elim
    | .dic _ _ :: _, h1 => obtain ⟨_, _, z⟩ := h1; exact z.elim
    | .int _ :: _ :: _, h1 => obtain ⟨_, _, z⟩ := h1; exact z.elim⟩⟩
/-- a text, sign by sign -/
def iStrM (m : M T) : M Itr := do
  match ← m with
  | .str s => pure ⟨s.map fun c => .str [c], fun _ => True⟩
  | _ => stuck
theorem im_str {l : List Nat} {tg e : Expr} {m : M T} (h : ME E X e m) : IM E l X tg e (iStrM m) :=
  ⟨PI.mono (pi_str h.pe) fun σ H R ⟨g, q⟩ => seqT st_okI q fun t v g1 H1 s1 rv h1 => by
    cases t with
    | str s =>
      obtain ⟨st, r, z⟩ := at_pure h1
      have hz : (sS s).cps.size = s.length := by simp [sS]
      refine ⟨sS s, rv.str_of, z g1 H1 r (Stp.refl _ _) _ ⟨fun g' st' σ' H' i r s' _ _ hi => ?_, fun g' st' σ' H' r s' _ _ => ?_, fun g' st' σ' H' i x H2 r s' _ _ hi y => ?_⟩⟩
      · show i < (sS s).cps.size
        rw [hz]
        simpa using hi
      · show (sS s).cps.size ≤ _
        rw [hz]
        simp
      · obtain ⟨e1, c, e2, e3⟩ := y
        subst e1
        subst e3
        have e2 : s[i]? = some c := by simpa [sS] using e2
        exact ⟨g', .str [c], r, Stp.refl _ _, by simp [e2], rt_str _⟩
    | _ => obtain ⟨_, _, z⟩ := h1; exact z.elim⟩
/-- enumerate(a list that stands still) -/
def enumT (ts : List T) : List T := ts.mapIdx fun k t => .tup [.int (k : Nat), t]
def iEnumM (m : M (List T)) : M Itr := do
  match ← m with
  | [.fz ts] => pure ⟨enumT ts, fun _ => True⟩
  | _ => stuck
theorem RepL.two {K : PySem.W.Frag} {t u : T} {x y : V} (h1 : RepT K g t x) (h2 : RepT K g u y) : RepL K g [t, u] [x, y] := by
  unfold RepL
  exact ⟨x, [y], rfl, h1, .one h2⟩
theorem it_enum {a : Addr} {xs : List V} {ts : List T} {l : List Nat} (hz : g.Z a = some (.lst xs)) (rl : RepL E.K g ts xs) : ItOk E g σ l (Ite X.K a) ⟨enumT ts, fun _ => True⟩ := by
  have sq : ∀ {g' st' σ' H'}, Rel E.K g' st' σ' H' → GStp g g' → SqL X.K H' a xs := fun r s => .inl (.inl (r.zs _ _ (s.z _ _ hz)))
  have hlen : (enumT ts).length = ts.length := by simp [enumT]
  refine ⟨fun g' st' σ' H' i r s _ _ hi => ?_, fun g' st' σ' H' r s _ _ => ⟨xs, sq r s, by rw [rl.len, ← hlen]; exact Nat.le_refl _⟩, fun g' st' σ' H' i x H2 r s _ _ hi y => ?_⟩
  · have hi : i < ts.length := by rw [← hlen]; exact hi
    obtain ⟨t, e⟩ := lt_get hi
    obtain ⟨x, ex, _⟩ := rl.get e
    exact ⟨xs, x, sq r s, ex⟩
  · have hi : i < ts.length := by rw [← hlen]; exact hi
    obtain ⟨t, e⟩ := lt_get hi
    obtain ⟨x', ex, rx⟩ := rl.get e
    obtain ⟨p, z, e1, hp, e2, y⟩ := y
    have e3 := y xs (sq r s)
    rw [ex] at e3
    cases e3
    obtain ⟨r2, s2⟩ := r.frz (o := .tup [.int (i : Nat), x']) hp
    rw [e1, e2]
    refine ⟨_, .tup [.int (i : Nat), t], r2, s2, by simp [enumT, e], rep_tup hp r.zs (.two (rt_int _) (rx.gstep s))⟩
theorem im_enum {l : List Nat} {e : Expr} {m : M (List T)} {p tpos : Pos} {elts : List Expr} {kk : Nat} (hg : Gl X "enumerate") (hm : X.mg "enumerate" = none) (ha : AM E X [e] m) (hs : starEach [e] X.env = [(false, eval e X.env)] := by rfl) :
    IM E l X (.Tuple elts kk tpos) (.Call (.Name "enumerate" p) [e] [] pos) (iEnumM m) :=
  ⟨PI.mono (pi_enum hg hm ha.pa hs) fun σ H R ⟨g, q⟩ => ⟨g, seq_any (Φ := fun g H => okI E l g H σ R) st_okI q fun ts st1 k g1 H1 r1 s1 vs rl => by
    have h1 := k g1 H1 r1 s1
    match ts, h1 with
    | [.fz us], h1 =>
      obtain ⟨st, r, z⟩ := at_pure h1
      obtain ⟨v, e, rv⟩ := rl.one_of
      obtain ⟨a, xs, e2, hz, rl'⟩ := rv.fz_of
      exact ⟨a, xs, by rw [e, e2], .inl (.inl (r.zs _ _ hz)), z g1 H1 r (Stp.refl _ _) _ (it_enum hz rl')⟩
    | [], h1 => obtain ⟨_, _, z⟩ := h1; exact z.elim
    | .non :: _, h1 => obtain ⟨_, _, z⟩ := h1; exact z.elim
    | .bl _ :: _, h1 => obtain ⟨_, _, z⟩ := h1; exact z.elim
    | .str _ :: _, h1 => obtain ⟨_, _, z⟩ := h1; exact z.elim
    | .ty _ :: _, h1 => obtain ⟨_, _, z⟩ := h1; exact z.elim
    | .tup _ :: _, h1 => obtain ⟨_, _, z⟩ := h1; exact z.elim
    | .int _ :: _, h1 => obtain ⟨_, _, z⟩ := h1; exact z.elim
    | .ref _ :: _, h1 => obtain ⟨_, _, z⟩ := h1; exact z.elim
    | .scr _ :: _, h1 => obtain ⟨_, _, z⟩ := h1; exact z.elim
    | .dic _ _ :: _, h1 => obtain ⟨_, _, z⟩ := h1; exact z.elim
    | .fz _ :: _ :: _, h1 => obtain ⟨_, _, z⟩ := h1; exact z.elim⟩⟩
/-- zip of two lists that stand still -/
def zipT (ts us : List T) : List T := (ts.zip us).map fun p => .tup [p.1, p.2]
def iZipM (m : M (List T)) : M Itr := do
  match ← m with
  | [.fz ts, .fz us] => pure ⟨zipT ts us, fun _ => True⟩
  | _ => stuck
theorem RepL.two_of {K : PySem.W.Frag} {t u : T} {vs : List V} (h : RepL K g [t, u] vs) : ∃ v w, vs = [v, w] ∧ RepT K g t v ∧ RepT K g u w := by
  unfold RepL at h
  obtain ⟨v, r, e, a, b⟩ := h
  obtain ⟨w, e2, c⟩ := b.one_of
  subst e2
  exact ⟨v, w, e, a, c⟩
theorem it_zip {a b : Addr} {xs ys : List V} {ts us : List T} {l : List Nat} (hz : g.Z a = some (.lst xs)) (rl : RepL E.K g ts xs) (hz2 : g.Z b = some (.lst ys)) (rl2 : RepL E.K g us ys) : ItOk E g σ l (Itz X.K a b) ⟨zipT ts us, fun _ => True⟩ := by
  have sq : ∀ {g' st' σ' H'}, Rel E.K g' st' σ' H' → GStp g g' → SqL X.K H' a xs := fun r s => .inl (.inl (r.zs _ _ (s.z _ _ hz)))
  have sq2 : ∀ {g' st' σ' H'}, Rel E.K g' st' σ' H' → GStp g g' → SqL X.K H' b ys := fun r s => .inl (.inl (r.zs _ _ (s.z _ _ hz2)))
  have hlen : (zipT ts us).length = min ts.length us.length := by simp [zipT]
  refine ⟨fun g' st' σ' H' i r s _ _ hi => ?_, fun g' st' σ' H' r s _ _ => ⟨xs, ys, sq r s, sq2 r s, ?_⟩, fun g' st' σ' H' i x H2 r s _ _ hi y => ?_⟩
  · have hi : i < min ts.length us.length := by rw [← hlen]; exact hi
    obtain ⟨t, e⟩ := lt_get (show i < ts.length by omega)
    obtain ⟨x, ex, _⟩ := rl.get e
    obtain ⟨t, e⟩ := lt_get (show i < us.length by omega)
    obtain ⟨y, ey, _⟩ := rl2.get e
    exact ⟨xs, ys, x, y, sq r s, sq2 r s, ex, ey⟩
  · show xs.length ≤ (zipT ts us).length ∨ ys.length ≤ (zipT ts us).length
    rw [hlen, rl.len, rl2.len]
    omega
  · have hi : i < min ts.length us.length := by rw [← hlen]; exact hi
    obtain ⟨t, e⟩ := lt_get (show i < ts.length by omega)
    obtain ⟨x', ex, rx⟩ := rl.get e
    obtain ⟨u, e'⟩ := lt_get (show i < us.length by omega)
    obtain ⟨y', ey, ry⟩ := rl2.get e'
    obtain ⟨p, z, z2, e1, hp, e2, yx, yy⟩ := y
    have e3 := yx xs (sq r s)
    rw [ex] at e3
    cases e3
    have e4 := yy ys (sq2 r s)
    rw [ey] at e4
    cases e4
    obtain ⟨r2, s2⟩ := r.frz (o := .tup [x', y']) hp
    rw [e1, e2]
    refine ⟨_, .tup [t, u], r2, s2, ?_, rep_tup hp r.zs (.two (rx.gstep s) (ry.gstep s))⟩
    simp only [zipT]
    have ez : (ts.zip us)[i]? = some (t, u) := List.getElem?_zip_eq_some.mpr ⟨e, e'⟩
    rw [List.getElem?_map, ez]
    rfl
theorem im_zip {l : List Nat} {e e2 : Expr} {m : M (List T)} {p tpos : Pos} {elts : List Expr} {kk : Nat} (hg : Gl X "zip") (hm : X.mg "zip" = none) (ha : AM E X [e, e2] m)
    (hs : starEach [e, e2] X.env = (false, eval e X.env) :: starEach [e2] X.env := by rfl) (hpl : (backTo pos (starEach [e2] X.env)).any (·.1) = false := by rfl) :
    IM E l X (.Tuple elts kk tpos) (.Call (.Name "zip" p) [e, e2] [] pos) (iZipM m) :=
  ⟨PI.mono (pi_zip hg hm ha.pa hs hpl) fun σ H R ⟨g, q⟩ => ⟨g, seq_any (Φ := fun g H => okI E l g H σ R) st_okI q fun ts st1 k g1 H1 r1 s1 vs rl => by
    have h1 := k g1 H1 r1 s1
    have key : ∀ {α : Type} {Φ : α → Stt → Prop}, at_ E (stuck : M α) g1 σ H1 Φ → False := fun ⟨_, _, z⟩ => z
    match ts, h1 with
    | [.fz us, .fz ws], h1 =>
      obtain ⟨st, r, z⟩ := at_pure h1
      obtain ⟨v, w, e, rv, rw'⟩ := rl.two_of
      obtain ⟨a, xs, e1, hz, rl1⟩ := rv.fz_of
      obtain ⟨b, ys, e2, hz2, rl2⟩ := rw'.fz_of
      exact ⟨a, b, xs, ys, by rw [e, e1, e2], .inl (.inl (r.zs _ _ hz)), .inl (.inl (r.zs _ _ hz2)), z g1 H1 r (Stp.refl _ _) _ (it_zip hz rl1 hz2 rl2)⟩
    | [], h1 => exact (key h1).elim
    | [x], h1 => cases x <;> exact (key h1).elim
    | x :: y :: z :: r, h1 => cases x <;> first | exact (key h1).elim | (cases y <;> exact (key h1).elim)
    | [.non, _], h1 => exact (key h1).elim
    | [.bl _, _], h1 => exact (key h1).elim
    | [.int _, _], h1 => exact (key h1).elim
    | [.str _, _], h1 => exact (key h1).elim
    | [.ty _, _], h1 => exact (key h1).elim
    | [.tup _, _], h1 => exact (key h1).elim
    | [.ref _, _], h1 => exact (key h1).elim
    | [.scr _, _], h1 => exact (key h1).elim
    | [.dic _ _, _], h1 => exact (key h1).elim
    | [.fz _, .non], h1 => exact (key h1).elim
    | [.fz _, .bl _], h1 => exact (key h1).elim
    | [.fz _, .int _], h1 => exact (key h1).elim
    | [.fz _, .str _], h1 => exact (key h1).elim
    | [.fz _, .ty _], h1 => exact (key h1).elim
    | [.fz _, .tup _], h1 => exact (key h1).elim
    | [.fz _, .scr _], h1 => exact (key h1).elim
    | [.fz _, .dic _ _], h1 => exact (key h1).elim
    | [.fz _, .ref _], h1 => exact (key h1).elim⟩⟩

/-! ### for -/
noncomputable def forL (chk : Stt → Prop) (tg : Tg) (body : Cmd) : List T → Cmd
  | [] => fun st => if chk st then some (.ok .nxt, st) else none
  | t :: ts => fun st => if chk st then match asgT tg t st.σ with
      | none => none
      | some σ' => match body { st with σ := σ' } with
        | some (.ok .nxt, st') => forL chk tg body ts st'
        | some (.ok .cnt, st') => forL chk tg body ts st'
        | some (.ok .brk, st') => some (.ok .nxt, st')
        | some (.ok (.ret v), st') => some (.ok (.ret v), st')
        | some (.exc x, st') => some (.exc x, st')
        | none => none
    else none
noncomputable def cFor (mi : M Itr) (tg : Tg) (body : Cmd) : Cmd := do let it ← mi; forL it.chk tg body it.ts
theorem Stp.toG {g g' : Gh} {H H' : Hp} (s : Stp g g' H H') : GStp g g' := ⟨s.z, s.n, s.ρ⟩
theorem sm_for {tge iter : Expr} {body : List Stmt} {mi : M Itr} {tg : Tg} {c : Cmd} (hp : PassesOwn (model X.prog X.w) X.A X.env X.xe) (hc : X.calm = true) (hi : IM E [] X tge iter mi) (hg : GM E X tge tg) (hb : SSM E X body c)
    (hs : ∀ x, foldedSetIterable iter X.env x = pure x := by intro _; rfl) : SM E X (.For tge iter body [] pos) (cFor mi tg c) :=
  ⟨PS.mono (ps_for hp hc hi.pi hg.pg hb.pss hs) fun D σ H ⟨g, q⟩ => ⟨g, s_seq q fun it st1 k g1 H1 r1 s1 J ok => by
    obtain ⟨st, r, z⟩ := k g1 H1 r1 s1
    refine ⟨fun i m σ2 H2 => ∃ g2 st2, Rel E.K g2 st2 σ2 H2 ∧ Stp g1 g2 H1 H2 ∧ m = it.ts.length - i ∧ i ≤ it.ts.length ∧ run (forL it.chk tg c (it.ts.drop i)) st2 (okS E D g1 H1) (exS E g1 H1),
      ⟨it.ts.length, g1, st, r, Stp.refl _ _, rfl, Nat.zero_le _, z⟩, ?_⟩
    rintro i m σ2 H2 ⟨g2, st2, r2, s2, rfl, hi, z2⟩
    by_cases hlt : i < it.ts.length
    · have ed : it.ts.drop i = it.ts[i] :: it.ts.drop (i + 1) := List.drop_eq_getElem_cons hlt
      rw [ed] at z2
      unfold run forL at z2
      by_cases hch : it.chk st2
      · simp only [if_pos hch] at z2
        refine .inr ⟨ok.go g2 st2 σ2 H2 i r2 s2.toG hch (fun _ h => nomatch h) hlt, fun σ3 H3 => ∃ g3 st3, Rel E.K g3 st3 σ3 H3 ∧ Stp g1 g3 H1 H3 ∧ run (forL it.chk tg c (it.ts.drop (i + 1))) st3 (okS E D g1 H1) (exS E g1 H1), ?_, ?_⟩
        · rintro σ3 H3 ⟨g3, st3, r3, s3, z3⟩
          exact ⟨it.ts.length - (i + 1), by omega, g3, st3, r3, s3, rfl, hlt, z3⟩
        · intro x H3 y
          obtain ⟨g3, t, r3, s3, et, rt⟩ := ok.yld g2 st2 σ2 H2 i x H3 r2 s2.toG hch (fun _ h => nomatch h) hlt y
          rw [List.getElem?_eq_getElem hlt] at et
          cases et
          cases ea : asgT tg it.ts[i] st2.σ with
          | none => simp only [ea] at z2
          | some σ' =>
            simp only [ea] at z2
            refine ⟨g3, st2, it.ts[i], σ', r3, rt, ea, fun σV rV _ => ⟨g3, { st2 with σ := σ' }, rV, ?_⟩⟩
            have s13 := s2.trans s3
            unfold run
            cases eb : c { st2 with σ := σ' } with
            | none => simp only [eb] at z2
            | some p =>
              obtain ⟨fl, st4⟩ := p
              simp only [eb] at z2
              cases fl with
              | exc x => exact exS.step s13 z2
              | ok fl =>
                cases fl with
                | nxt => exact fun g' σ' H' r' s' => ⟨g', st4, r', s13.trans s', z2⟩
                | cnt => exact fun g' σ' H' r' s' => ⟨g', st4, r', s13.trans s', z2⟩
                | brk => exact fun g' σ' H' r' s' => z2 g' σ' H' r' (s13.trans s')
                | ret v => exact fun g' σ' H' r' s' => z2 g' σ' H' r' (s13.trans s')
      · simp only [if_neg hch] at z2
    · have e : i = it.ts.length := by omega
      subst e
      rw [List.drop_length] at z2
      unfold run forL at z2
      by_cases hch : it.chk st2
      · simp only [if_pos hch] at z2
        exact .inl ⟨ok.stop g2 st2 σ2 H2 r2 s2.toG hch (fun _ h => nomatch h), z2 g2 σ2 H2 r2 s2⟩
      · simp only [if_neg hch] at z2⟩⟩

/-! ### while -/
def whileL (b : M Bool) (body : Cmd) : Nat → Cmd
  | 0 => stuck
  | n + 1 => do
    if ← b then
      match ← body with
      | .nxt => whileL b body n
      | .cnt => whileL b body n
      | .brk => pure .nxt
      | .ret v => pure (.ret v)
    else pure .nxt
theorem sm_while {te : Expr} {body : List Stmt} {b : M Bool} {c : Cmd} (n : Nat) (hp : PassesOwn (model X.prog X.w) X.A X.env X.xe) (hb : TM E X te b) (hc : SSM E X body c) : SM E X (.While te body [] pos) (whileL b c n) :=
  ⟨PS.mono (ps_while hp hb.pt hc.pss) fun D σ H ⟨g, st, r, z⟩ => by
    refine ⟨fun m σ2 H2 => ∃ g2 st2, Rel E.K g2 st2 σ2 H2 ∧ Stp g g2 H H2 ∧ run (whileL b c m) st2 (okS E D g H) (exS E g H), ⟨n, g, st, r, Stp.refl _ _, z⟩, ?_⟩
    rintro m σ2 H2 ⟨g2, st2, r2, s2, z2⟩
    cases m with
    | zero => exact z2.elim
    | succ m =>
      have z2 := run_bind z2
      refine ⟨g2, st2, r2, run_mono z2 (fun d st3 y g3 H3 r3 s3 => ?_) fun _ _ y => (y.step s2).w⟩
      have s23 := s2.trans s3
      cases d with
      | false => exact iteF (y g3 σ2 H3 r3 s23)
      | true =>
        refine iteT ⟨fun σ4 H4 => ∃ g4 st4, Rel E.K g4 st4 σ4 H4 ∧ Stp g g4 H H4 ∧ run (whileL b c m) st4 (okS E D g H) (exS E g H), fun σ4 H4 ⟨g4, st4, r4, s4, z4⟩ => ⟨m, Nat.lt_succ_self m, g4, st4, r4, s4, z4⟩, ?_⟩
        refine ⟨g3, st3, r3, run_mono (run_bind y) (fun fl st4 y g4 σ4 H4 r4 s4 => ?_) fun _ _ y => y.step s23⟩
        cases fl with
        | nxt => exact ⟨g4, st4, r4, s23.trans s4, y⟩
        | cnt => exact ⟨g4, st4, r4, s23.trans s4, y⟩
        | brk => exact y g4 σ4 H4 r4 (s23.trans s4)
        | ret v => exact y g4 σ4 H4 r4 (s23.trans s4)⟩
end
end Sw
namespace Sw
open PySem PySem.Spec PyProof.Rows L2
open Classical

section
variable {E : Ev} {g g1 : Gh} {H H1 : Hp} {σ : L2.St} {X : Cx} {pos : Pos}
theorem rVar_some {st : Stt} {i : Nat} {t : T} (r : Rel E.K g st σ H) (e : rVar i st = some t) : ∃ v, σ[i]? = some (some v) := by
  unfold rVar at e
  cases es : st.σ[i]? with
  | none => rw [es] at e; cases e
  | some sl =>
    have hi : i < σ.length := by rw [← r.len]; exact (List.getElem?_eq_some_iff.mp es).1
    have ev : σ[i]? = some σ[i] := List.getElem?_eq_getElem hi
    have q := r.slot i sl _ es ev
    cases sl with
    | emp => rw [es] at e; cases e
    | val t => obtain ⟨x, e, _⟩ := q; exact ⟨x, by rw [ev, e]⟩
    | own ob => obtain ⟨p, e, _⟩ := q; exact ⟨_, by rw [ev, e]⟩
/-! ### a list as it stands at each turn -/
theorem im_var {tg e : Expr} {i : Nat} (h : PE X e (tVar i)) : IM E [i] X tg e (iVar i) :=
  ⟨PI.mono (pi_list h) fun σ H R ⟨g, st, r, z⟩ => by
    unfold run iVar at z
    cases e1 : rVar i st with
    | none => simp only [e1] at z
    | some t =>
      simp only [e1] at z
      cases t with
      | fz ts =>
        simp only at z
        obtain ⟨v, ev⟩ := rVar_some r e1
        have rd := var_rd (E := E) (g := g) (H := H) (st := st) ev
        obtain ⟨a, xs, e, ha, rl⟩ := rd g st H _ r (Stp.refl _ _) e1
        have sq : ∀ {g' st' σ' H'}, Rel E.K g' st' σ' H' → (∀ j ∈ [i], σ'[j]? = σ[j]?) → rVar i st' = some (.fz ts) → ∃ xs, H' a = some (.lst xs) ∧ RepL E.K g' ts xs := fun {g' st' σ' H'} r' hs e' => by
          have ev' : σ'[i]? = some (some v) := (hs i (List.mem_singleton.mpr rfl)).trans ev
          have rd' := var_rd (E := E) (g := g') (H := H') (st := st') ev'
          obtain ⟨b, ys, e2, hb, rl2⟩ := rd' g' st' H' _ r' (Stp.refl _ _) e'
          rw [e] at e2
          cases e2
          exact ⟨ys, hb, rl2⟩
        refine ⟨v, ev, a, e, ⟨xs, .inl (.inl ha)⟩, z g H r (Stp.refl _ _) _ ⟨fun g' st' σ' H' k r' s hch hs hi => ?_, fun g' st' σ' H' r' s hch hs => ?_, fun g' st' σ' H' k x H2 r' s hch hs hi y => ?_⟩⟩
        · obtain ⟨ys, hb, rl2⟩ := sq r' hs hch
          obtain ⟨t, e⟩ := lt_get hi
          obtain ⟨x, ex, _⟩ := rl2.get e
          exact ⟨ys, x, .inl (.inl hb), ex⟩
        · obtain ⟨ys, hb, rl2⟩ := sq r' hs hch
          exact ⟨ys, .inl (.inl hb), by rw [rl2.len]; exact Nat.le_refl _⟩
        · obtain ⟨ys, hb, rl2⟩ := sq r' hs hch
          obtain ⟨t, e⟩ := lt_get hi
          obtain ⟨x', ex, rx⟩ := rl2.get e
          obtain ⟨eH, y⟩ := y
          subst eH
          have e2 := y ys (.inl (.inl hb))
          rw [ex] at e2
          cases e2
          exact ⟨g', t, r', Stp.refl _ _, e, rx⟩
      | _ => exact z.elim⟩

/-! ### comprehensions -/
def Ev.nox (E : Ev) : Ev := { E with W := fun _ _ _ _ => False }
def wipeS (σ : List Sl) : List Nat → List Sl
  | [] => σ
  | v :: vs => (wipeS σ vs).set v .emp
def restS (σ0 σ : List Sl) : List Nat → List Sl
  | [] => σ
  | v :: vs => (restS σ0 σ vs).set v (σ0[v]?.getD .emp)
def notOwn : Option Sl → Bool
  | some (.own _) => false
  | _ => true
noncomputable def lcL (chk : Stt → Prop) (own : List Nat) (tg : Tg) (test : M Bool) (elt : M T) : List T → Stt → Option (List T × Stt)
  | [], st => if chk st then some ([], st) else none
  | t :: ts, st => if chk st then match asgT tg t st.σ with
      | none => none
      | some σ' => match test { st with σ := σ' } with
        | some (.ok true, st1) => match elt st1 with
          | some (.ok y, st2) => match lcL chk own tg test elt ts { st2 with σ := wipeS st2.σ own } with
            | some (ys, st3) => some (y :: ys, st3)
            | none => none
          | _ => none
        | some (.ok false, st1) => lcL chk own tg test elt ts { st1 with σ := wipeS st1.σ own }
        | _ => none
    else none
noncomputable def fComp (mi : M Itr) (own : List Nat) (tg : Tg) (test : M Bool) (elt : M T) : M Ob := do
  let it ← mi
  fun st => if it.ts.length ≤ 1000000 ∧ own.all (fun v => notOwn st.σ[v]?) = true then
      match lcL it.chk own tg test elt it.ts { st with σ := wipeS st.σ own } with
      | some (ys, st') => some (.ok (.lst ys), { st' with σ := restS st.σ st'.σ own })
      | none => none
    else none
theorem wipeS_len {σ : List Sl} : ∀ {vs : List Nat}, (wipeS σ vs).length = σ.length
  | [] => rfl
  | v :: vs => by unfold wipeS; rw [List.length_set, wipeS_len]
theorem restS_len {σ0 σ : List Sl} : ∀ {vs : List Nat}, (restS σ0 σ vs).length = σ.length
  | [] => rfl
  | v :: vs => by unfold restS; rw [List.length_set, restS_len]
theorem wipeS_get {σ : List Sl} : ∀ {vs : List Nat} {i : Nat} {s : Sl}, (wipeS σ vs)[i]? = some s → (i ∈ vs ∧ s = .emp) ∨ (i ∉ vs ∧ σ[i]? = some s)
  | [], i, s, h => .inr ⟨by simp, h⟩
  | v :: vs, i, s, h => by
    unfold wipeS at h
    by_cases e : v = i
    · subst e
      have hl : v < (wipeS σ vs).length := by
        have := (List.getElem?_eq_some_iff.mp h).1
        simpa using this
      rw [List.getElem?_set_self hl] at h
      cases h
      exact .inl ⟨List.mem_cons_self, rfl⟩
    · rw [List.getElem?_set_ne e] at h
      rcases wipeS_get h with ⟨h1, h2⟩ | ⟨h1, h2⟩
      · exact .inl ⟨List.mem_cons_of_mem _ h1, h2⟩
      · exact .inr ⟨by simp only [List.mem_cons, not_or]; exact ⟨fun z => e z.symm, h1⟩, h2⟩
theorem restS_get {σ0 σ : List Sl} : ∀ {vs : List Nat} {i : Nat} {s : Sl}, (restS σ0 σ vs)[i]? = some s → (i ∈ vs ∧ s = σ0[i]?.getD .emp) ∨ (i ∉ vs ∧ σ[i]? = some s)
  | [], i, s, h => .inr ⟨by simp, h⟩
  | v :: vs, i, s, h => by
    unfold restS at h
    by_cases e : v = i
    · subst e
      have hl : v < (restS σ0 σ vs).length := by
        have := (List.getElem?_eq_some_iff.mp h).1
        simpa using this
      rw [List.getElem?_set_self hl] at h
      cases h
      exact .inl ⟨List.mem_cons_self, rfl⟩
    · rw [List.getElem?_set_ne e] at h
      rcases restS_get h with ⟨h1, h2⟩ | ⟨h1, h2⟩
      · exact .inl ⟨List.mem_cons_of_mem _ h1, h2⟩
      · exact .inr ⟨by simp only [List.mem_cons, not_or]; exact ⟨fun z => e z.symm, h1⟩, h2⟩
theorem Rel.wipe {st : Stt} {vs : List Nat} (r : Rel E.K g st σ H) : Rel E.K g { st with σ := wipeS st.σ vs } (L2.wipe σ vs) H :=
  ⟨r.toRelS, by rw [wipe_length, wipeS_len, r.len], fun i s v e1 e2 => by
    rcases wipeS_get e1 with ⟨_, h2⟩ | ⟨h1, h2⟩
    · subst h2
      trivial
    · rw [wipe_get, if_neg h1] at e2
      exact r.slot i s v h2 e2⟩
theorem Rel.rest {st st' : Stt} {vs : List Nat} (r : Rel E.K g st σ H) (no : vs.all (fun v => notOwn st.σ[v]?) = true) (r' : Rel E.K g1 st' (L2.wipe σ vs) H1) (gs : GStp g g1) : Rel E.K g1 { st' with σ := restS st.σ st'.σ vs } σ H1 :=
  ⟨r'.toRelS, by rw [restS_len, r'.len, wipe_length], fun i s v e1 e2 => by
    rcases restS_get e1 with ⟨h1, h2⟩ | ⟨h1, h2⟩
    · have hn := List.all_eq_true.mp no i h1
      cases es : st.σ[i]? with
      | none =>
        rw [es] at h2
        subst h2
        trivial
      | some sl =>
        rw [es] at h2 hn
        have h2 : s = sl := h2
        subst h2
        have q := r.slot i s v es e2
        cases s with
        | emp => trivial
        | val t =>
          obtain ⟨x, e, q⟩ := q
          exact ⟨x, e, q.gstep gs⟩
        | own ob => cases hn
    · have e3 : (L2.wipe σ vs)[i]? = some v := by rw [wipe_get, if_neg h1]; exact e2
      exact r'.slot i s v h2 e3⟩
/-- an object that nobody owns is laid, changed, forgotten -/
theorem Rel.outUpd {st : Stt} {p : Addr} {o : HO} (r : Rel E.K g st σ H) (op : g.own p = .out) : Rel E.K g st σ (upd H p o) := by
  refine ⟨⟨fun b u e => ?_, r.zo, fun b e => ?_, r.n, fun a ob e => ?_⟩, r.len, fun i s v e1 e2 => ?_⟩
  · have hb : b ≠ p := fun z => by
      rw [z] at e
      have := r.zo p u e
      rw [op] at this
      cases this
    rw [upd_ne hb]
    exact r.zs b u e
  · by_cases hb : b = p
    · rw [hb]; exact op
    · rw [upd_ne hb] at e
      exact r.fr b e
  · obtain ⟨h1, h2⟩ := r.box a ob e
    have hb : g.ρ a ≠ p := fun z => by rw [z, op] at h1; cases h1
    rw [upd_ne hb]
    exact ⟨h1, h2⟩
  · have q := r.slot i s v e1 e2
    cases s with
    | emp => trivial
    | val t => exact q
    | own ob =>
      obtain ⟨p', e, q1, q2⟩ := q
      have hb : p' ≠ p := fun z => by rw [z, op] at q1; cases q1
      exact ⟨p', e, q1, by rw [upd_ne hb]; exact q2⟩
def forget (H : Hp) (p : Addr) : Hp := fun b => if b = p then none else H b
theorem forget_same {H : Hp} {p : Addr} : forget H p p = none := by unfold forget; rw [if_pos rfl]
theorem forget_ne {H : Hp} {b p : Addr} (h : b ≠ p) : forget H p b = H b := by unfold forget; rw [if_neg h]
theorem forget_upd {H : Hp} {p : Addr} {o : HO} (h : H p = some o) : upd (forget H p) p o = H := by
  funext b
  by_cases hb : b = p
  · subst hb; rw [upd_same, h]
  · rw [upd_ne hb, forget_ne hb]
theorem Rel.forget {st : Stt} {p : Addr} (r : Rel E.K g st σ H) (op : g.own p = .out) : Rel E.K g st σ (forget H p) := by
  refine ⟨⟨fun b u e => ?_, r.zo, fun b e => ?_, r.n, fun a ob e => ?_⟩, r.len, fun i s v e1 e2 => ?_⟩
  · have hb : b ≠ p := fun z => by
      rw [z] at e
      have := r.zo p u e
      rw [op] at this
      cases this
    rw [forget_ne hb]
    exact r.zs b u e
  · by_cases hb : b = p
    · rw [hb]; exact op
    · rw [forget_ne hb] at e
      exact r.fr b e
  · obtain ⟨h1, h2⟩ := r.box a ob e
    have hb : g.ρ a ≠ p := fun z => by rw [z, op] at h1; cases h1
    rw [forget_ne hb]
    exact ⟨h1, h2⟩
  · have q := r.slot i s v e1 e2
    cases s with
    | emp => trivial
    | val t => exact q
    | own ob =>
      obtain ⟨p', e, q1, q2⟩ := q
      have hb : p' ≠ p := fun z => by rw [z, op] at q1; cases q1
      exact ⟨p', e, q1, by rw [forget_ne hb]; exact q2⟩
theorem Only.wipes {l : List Nat} {σ σ1 : L2.St} {vs : List Nat} (a : Only l (L2.wipe σ vs) σ1) (h : ∀ i ∈ l, i ∈ vs) : L2.wipe σ1 vs = L2.wipe σ vs := by
  rw [(a.mono h).wipe]
  apply List.ext_getElem?
  intro i
  rw [wipe_get, wipe_get]
  by_cases hi : i ∈ vs
  · rw [if_pos hi, if_pos hi]
    cases σ[i]? <;> rfl
  · rw [if_neg hi, if_neg hi]
def bYes : M Bool := pure true
structure QM (E : Ev) (X : Cx) (ifs : List Expr) (m : M Bool) : Prop where pts : PTs X ifs (ttM E m)
theorem PTs.mono {e : List Expr} {t t' : TT} (h : PTs X e t) (w : ∀ σ H Q, t' σ H Q → t σ H Q) : PTs X e t' := ⟨fun pins s σ H Q I q => h.run pins s σ H Q I (w σ H Q q)⟩
theorem qm_nil : QM E X [] bYes := ⟨PTs.mono pts_nil fun σ H Q ⟨g, st, r, q⟩ => q g H r (Stp.refl _ _)⟩
theorem qm_one {c : Expr} {m : M Bool} (h : TM E X c m) : QM E X [c] m := ⟨pts_one h.pt⟩
theorem lc_lift {own : List Nat} {l : List Nat} {mi : M Itr} {tg : Tg} {test : M Bool} {elt : M T} (hl : ∀ j ∈ l, j ∉ own) (ht : ∀ i ∈ tg.ix, i ∈ own) {Q : VK} (h : tfM E (fComp mi own tg test elt) σ H Q) :
    tLc (tiM E l mi) (tgM E.nox tg) (ttM E.nox test) (teM E.nox elt) own σ H Q := by
  obtain ⟨g, h⟩ := h
  refine ⟨g, seq_any (Φ := fun g H => okF E g H σ Q) st_okF h fun it st1 k g1 H1 r1 s1 J ok D hD => ?_⟩
  obtain ⟨st, r, z⟩ := k g1 H1 r1 s1
  unfold run at z
  by_cases hc : it.ts.length ≤ 1000000 ∧ own.all (fun v => notOwn st.σ[v]?) = true
  · simp only [if_pos hc] at z
    cases ez : lcL it.chk own tg test elt it.ts { st with σ := wipeS st.σ own } with
    | none => simp only [ez] at z
    | some p =>
      obtain ⟨zs, stE⟩ := p
      simp only [ez] at z
      have oD : g1.own D = .out := r.fr D hD
      have r0 : Rel E.K g1 { st with σ := wipeS st.σ own } (L2.wipe σ own) (upd H1 D (.lst [])) := r.wipe.outUpd oD
      have s0 : Stp g1 g1 H1 (upd H1 D (.lst [])) := ⟨Same.refl _, Nat.le_refl _, fun _ _ => rfl, fun p o h1 h2 => ⟨h1, by rw [upd_ne (ne_of_none h2 hD)]; exact h2⟩⟩
      refine ⟨fun i m H2 => ∃ g2 st2 acc xs rest, Rel E.K g2 st2 (L2.wipe σ own) H2 ∧ Stp g1 g2 H1 H2 ∧ g2.own D = .out ∧ H2 D = some (.lst xs) ∧ RepL E.K g2 acc xs ∧ acc.length ≤ i ∧ m = it.ts.length - i ∧ i ≤ it.ts.length ∧
          lcL it.chk own tg test elt (it.ts.drop i) st2 = some (rest, stE) ∧ zs = acc ++ rest,
        ⟨it.ts.length, g1, _, [], [], zs, r0, s0, oD, upd_same, .nil, Nat.zero_le _, rfl, Nat.zero_le _, ez, rfl⟩, ?_⟩
      rintro i m H2 ⟨g2, st2, acc, xs, rest, r2, s2, o2, h2, rl, hal, rfl, hi, e2, ezs⟩
      have hs0 : ∀ j ∈ l, (L2.wipe σ own)[j]? = σ[j]? := fun j hj => by rw [wipe_get, if_neg (hl j hj)]
      by_cases hlt : i < it.ts.length
      · have ed : it.ts.drop i = it.ts[i] :: it.ts.drop (i + 1) := List.drop_eq_getElem_cons hlt
        rw [ed] at e2
        unfold lcL at e2
        by_cases hch : it.chk st2
        · rw [if_pos hch] at e2
          refine .inr ⟨ok.go g2 st2 _ H2 i r2 s2.toG hch hs0 hlt, fun H3 => ∃ g3 st3 acc xs rest, Rel E.K g3 st3 (L2.wipe σ own) H3 ∧ Stp g1 g3 H1 H3 ∧ g3.own D = .out ∧ H3 D = some (.lst xs) ∧ RepL E.K g3 acc xs ∧ acc.length ≤ i + 1 ∧
              lcL it.chk own tg test elt (it.ts.drop (i + 1)) st3 = some (rest, stE) ∧ zs = acc ++ rest, ?_, ?_⟩
          · rintro H3 ⟨g3, st3, acc, xs, rest, a1, a2, a3, a4, a5, a6, a7, a8⟩
            exact ⟨it.ts.length - (i + 1), by omega, g3, st3, acc, xs, rest, a1, a2, a3, a4, a5, a6, rfl, hlt, a7, a8⟩
          · intro x H3 y
            obtain ⟨g3, t, r3, s3, et, rt⟩ := ok.yld g2 st2 _ H2 i x H3 r2 s2.toG hch hs0 hlt y
            rw [List.getElem?_eq_getElem hlt] at et
            cases et
            have o3 := s3.out D _ o2 h2
            cases ea : asgT tg it.ts[i] st2.σ with
            | none => rw [ea] at e2; cases e2
            | some σ' =>
              rw [ea] at e2
              simp only at e2
              refine ⟨g3, st2, it.ts[i], σ', r3, rt, ea, fun σV rV oV => ?_⟩
              have hw : L2.wipe σV own = L2.wipe σ own := oV.wipes ht
              refine ⟨hw, ?_⟩
              have s13 := s2.trans s3
              refine ⟨g3, { st2 with σ := σ' }, rV, ?_⟩
              unfold run
              cases et : test { st2 with σ := σ' } with
              | none => rw [et] at e2; cases e2
              | some p =>
                obtain ⟨rr, st4⟩ := p
                rw [et] at e2
                cases rr with
                | exc x => cases e2
                | ok b =>
                  intro g4 H4 r4 s4
                  have o4 := s4.out D _ o3.1 o3.2
                  have s14 := s13.trans s4
                  cases b with
                  | false =>
                    simp only at e2
                    refine iteF ⟨g4, { st4 with σ := wipeS st4.σ own }, acc, xs, rest, ?_, s14, o4.1, o4.2, (rl.gstep s3.toG).gstep s4.toG, by omega, e2, ezs⟩
                    rw [← hw]
                    exact r4.wipe
                  | true =>
                    simp only at e2
                    refine iteT ⟨g4, st4, r4, ?_⟩
                    unfold run
                    cases ee : elt st4 with
                    | none => rw [ee] at e2; cases e2
                    | some p =>
                      obtain ⟨rr, st5⟩ := p
                      rw [ee] at e2
                      cases rr with
                      | exc x => cases e2
                      | ok u =>
                        intro g5 H5 r5 s5 v rv
                        have o5 := s5.out D _ o4.1 o4.2
                        simp only at e2
                        cases er : lcL it.chk own tg test elt (it.ts.drop (i + 1)) { st5 with σ := wipeS st5.σ own } with
                        | none => rw [er] at e2; cases e2
                        | some p =>
                          obtain ⟨rs, stF⟩ := p
                          rw [er] at e2
                          cases e2
                          have s15 := s14.trans s5
                          have rl5 := ((rl.gstep s3.toG).gstep s4.toG).gstep s5.toG
                          have rr5 : Rel E.K g5 { st5 with σ := wipeS st5.σ own } (L2.wipe σ own) (upd H5 D (.lst (xs ++ [v]))) := by
                            rw [← hw]
                            exact r5.wipe.outUpd o5.1
                          refine ⟨xs, o5.2, ?_, g5, _, acc ++ [u], xs ++ [v], rs, rr5, ?_, o5.1, upd_same, rl5.app (.one rv), by simp; omega, er, by rw [ezs]; simp⟩
                          · have := rl5.len
                            have hz : sizeLine = 16777216 := sizeLine_eq
                            omega
                          · exact ⟨s15.z, s15.n, s15.ρ, fun p o h1 h3 => by
                              have := s15.out p o h1 h3
                              refine ⟨this.1, ?_⟩
                              rw [upd_ne (ne_of_none h3 hD)]
                              exact this.2⟩
        · rw [if_neg hch] at e2
          cases e2
      · have e : i = it.ts.length := by omega
        subst e
        rw [List.drop_length] at e2
        unfold lcL at e2
        by_cases hch : it.chk st2
        · rw [if_pos hch] at e2
          cases e2
          refine .inl ⟨ok.stop g2 _ _ H2 r2 s2.toG hch hs0, ?_⟩
          have rf := r.rest hc.2 (r2.forget o2) s2.toG
          have sf : Stp g1 g2 H1 (forget H2 D) := ⟨s2.z, s2.n, s2.ρ, fun p o h1 h3 => by
            have := s2.out p o h1 h3
            refine ⟨this.1, ?_⟩
            rw [forget_ne (ne_of_none h3 hD)]
            exact this.2⟩
          rw [List.append_nil] at ezs
          have q := z g2 (forget H2 D) rf sf D (.lst xs) forget_same ⟨xs, rfl, by rw [ezs]; exact rl⟩
          rw [forget_upd h2] at q
          exact q
        · rw [if_neg hch] at e2
          cases e2
  · simp only [if_neg hc] at z
section
variable {elt tge iter : Expr} {ifs : List Expr} {scope : Scope} {own : List (Str × Nat)} {l : List Nat} {mi : M Itr} {tg : Tg} {test : M Bool} {me : M T}
theorem fe_comp (hc : X.calm = true) (hN : X.N.Nodup) (hi : IM E l X tge iter mi) (ok : BlkOk X.N X.env.scope scope own) (hl : ∀ j ∈ l, j ∉ own.map (·.2)) (ht : ∀ i ∈ tg.ix, i ∈ own.map (·.2))
    (hg : ∀ (s : Shared) (H : Hp) (C : Addr) (cl : List (Str × Addr)) (fp : List Addr), GM E.nox (X.blk s H scope (compEnvC scope cl C X.env) fp) tge tg) (hq : ∀ (s : Shared) (H : Hp) (C : Addr) (cl : List (Str × Addr)) (fp : List Addr), QM E.nox (X.blk s H scope (compEnvC scope cl C X.env) fp) ifs test)
    (he : ∀ (s : Shared) (H : Hp) (C : Addr) (cl : List (Str × Addr)) (fp : List Addr), ME E.nox (X.blk s H scope (compEnvC scope cl C X.env) fp) elt me) (hs : ∀ x, foldedSetIterable iter X.env x = pure x := by intro _; rfl) :
    FE E X (.ListComp elt [⟨tge, iter, ifs, 0⟩] scope pos) (fComp mi (own.map (·.2)) tg test me) :=
  ⟨PE.mono (pe_lc hc hN hi.pi ok (fun s H C cl fp => (hg s H C cl fp).pg) (fun s H C cl fp => (hq s H C cl fp).pts) (fun s H C cl fp => (he s H C cl fp).pe) hs) fun _ _ _ q => lc_lift hl ht q⟩
/-- name = [..] on one line: the name's own list, or one that stands still -/
theorem sm_ownC {i : Nat} {y : Str} {py spos : Pos} (hc : X.calm = true) (hN : X.N.Nodup) (hy : X.N[i]? = some y) (hyl : X.env.scope.names.lookup y = some .local)
    (hsw : swapsWith (.ListComp elt [⟨tge, iter, ifs, 0⟩] scope pos) (some (.Name y py)) spos.line X.env = pure true) (hi : IM E l X tge iter mi) (ok : BlkOk X.N X.env.scope scope own) (hl : ∀ j ∈ l, j ∉ own.map (·.2)) (ht : ∀ i ∈ tg.ix, i ∈ own.map (·.2))
    (hg : ∀ (s : Shared) (H : Hp) (C : Addr) (cl : List (Str × Addr)) (fp : List Addr), GM E.nox (X.blk s H scope (compEnvC scope cl C X.env) fp) tge tg) (hq : ∀ (s : Shared) (H : Hp) (C : Addr) (cl : List (Str × Addr)) (fp : List Addr), QM E.nox (X.blk s H scope (compEnvC scope cl C X.env) fp) ifs test)
    (he : ∀ (s : Shared) (H : Hp) (C : Addr) (cl : List (Str × Addr)) (fp : List Addr), ME E.nox (X.blk s H scope (compEnvC scope cl C X.env) fp) elt me) (hs : ∀ x, foldedSetIterable iter X.env x = pure x := by intro _; rfl) :
    SM E X (.Assign [.Name y py] (.ListComp elt [⟨tge, iter, ifs, 0⟩] scope pos) spos) (cOwn i (fComp mi (own.map (·.2)) tg test me)) :=
  ⟨PS.mono (ps_setLc hc hN hy hyl hsw hi.pi ok (fun s H C cl fp => (hg s H C cl fp).pg) (fun s H C cl fp => (hq s H C cl fp).pts) (fun s H C cl fp => (he s H C cl fp).pe) hs) fun D σ H h => tOwn_lift (fun _ _ _ z => lc_lift hl ht z) h⟩
theorem fz_lift {m : M Ob} {Q : VK} (h : teM E (eFz m) σ H Q) : tfM E m σ H Q := by
  obtain ⟨g, q⟩ := h
  exact ⟨g, seq_any (Φ := fun g H => okT E g H σ Q) st_okT q fun ob st1 k g1 H1 r1 s1 p o hp ro => by
    have h2 := k g1 H1 r1 s1
    cases ob with
    | lst ts =>
      obtain ⟨st, r, z⟩ := at_pure h2
      obtain ⟨xs, e, rl⟩ := ro
      cases e
      obtain ⟨r2, s2⟩ := r.frz (o := .lst xs) hp
      exact z _ _ r2 s2 _ (rep_fz hp r.zs rl)
    | _ => obtain ⟨_, _, z⟩ := h2; exact z.elim⟩
theorem sm_setC {i : Nat} {y : Str} {py spos : Pos} (hc : X.calm = true) (hN : X.N.Nodup) (hy : X.N[i]? = some y) (hyl : X.env.scope.names.lookup y = some .local)
    (hsw : swapsWith (.ListComp elt [⟨tge, iter, ifs, 0⟩] scope pos) (some (.Name y py)) spos.line X.env = pure true) (hi : IM E l X tge iter mi) (ok : BlkOk X.N X.env.scope scope own) (hl : ∀ j ∈ l, j ∉ own.map (·.2)) (ht : ∀ i ∈ tg.ix, i ∈ own.map (·.2))
    (hg : ∀ (s : Shared) (H : Hp) (C : Addr) (cl : List (Str × Addr)) (fp : List Addr), GM E.nox (X.blk s H scope (compEnvC scope cl C X.env) fp) tge tg) (hq : ∀ (s : Shared) (H : Hp) (C : Addr) (cl : List (Str × Addr)) (fp : List Addr), QM E.nox (X.blk s H scope (compEnvC scope cl C X.env) fp) ifs test)
    (he : ∀ (s : Shared) (H : Hp) (C : Addr) (cl : List (Str × Addr)) (fp : List Addr), ME E.nox (X.blk s H scope (compEnvC scope cl C X.env) fp) elt me) (hs : ∀ x, foldedSetIterable iter X.env x = pure x := by intro _; rfl) :
    SM E X (.Assign [.Name y py] (.ListComp elt [⟨tge, iter, ifs, 0⟩] scope pos) spos) (cSet i (eFz (fComp mi (own.map (·.2)) tg test me))) :=
  ⟨PS.mono (ps_setLc hc hN hy hyl hsw hi.pi ok (fun s H C cl fp => (hg s H C cl fp).pg) (fun s H C cl fp => (hq s H C cl fp).pts) (fun s H C cl fp => (he s H C cl fp).pe) hs) fun D σ H h => tSet_lift (fun _ _ _ z => lc_lift hl ht (fz_lift z)) h⟩
end
end
end Sw
namespace Sw
open PySem PySem.Spec PyProof.Rows L2

section
variable {E : Ev} {g g1 : Gh} {H H1 : Hp} {σ : L2.St} {X : Cx} {pos : Pos}
/-! ### places: an object that may be changed -/
abbrev Plc := Stt → Option (Ob × (Ob → Stt))
def PlcOk (E : Ev) (g : Gh) (H : Hp) (σ : L2.St) (pl : Plc) (v : V) : Prop := ∀ g' st' H' ob set, Rel E.K g' st' σ H' → Stp g g' H H' → pl st' = some (ob, set) →
  ∃ p, v = .ref p ∧ RepO E.K g' ob (H' p) ∧ ∀ ob' o', RepO E.K g' ob' (some o') → Rel E.K g' (set ob') σ (upd H' p o') ∧ Stp g' g' H' (upd H' p o')
theorem PlcOk.step {pl : Plc} {v : V} (s : Stp g g1 H H1) (h : PlcOk E g H σ pl v) : PlcOk E g1 H1 σ pl v := fun g' st' H' ob set r s' e => h g' st' H' ob set r (s.trans s') e
def okP (E : Ev) (g : Gh) (H : Hp) (σ : L2.St) (Q : VK) (pl : Plc) (st' : Stt) : Prop := beh E g H σ st' fun g' H' => ∀ v, PlcOk E g' H' σ pl v → Q v H'
def tplM (E : Ev) (m : M Plc) : TE := fun σ H Q => ∃ g, at_ E m g σ H (okP E g H σ Q)
structure LM (E : Ev) (X : Cx) (e : Expr) (m : M Plc) : Prop where pe : PE X e (tplM E m)
theorem st_okP {Q : VK} : Steps (fun g H => okP E g H σ Q) := fun _ _ _ _ _ _ s h => beh.step s h
theorem seqPl {β : Type} {m : M Plc} {f : Plc → M β} {Φ : Gh → Hp → β → Stt → Prop} (hΦ : Steps Φ) {Q : VK} (h : at_ E (m >>= f) g σ H (Φ g H))
    (k : ∀ t v g1 H1, Stp g g1 H H1 → PlcOk E g1 H1 σ t v → at_ E (f t) g1 σ H1 (Φ g1 H1) → Q v H1) : tplM E m σ H Q :=
  ⟨g, seq_any hΦ h fun t st1 q g1 H1 r1 s1 v rv => k t v g1 H1 s1 rv (q g1 H1 r1 s1)⟩
theorem sPl {m : M Plc} {f : Plc → Cmd} {D : Ends} {Q : VK} (h : atS E (m >>= f) g σ H D)
    (k : ∀ t v g1 H1, Stp g g1 H H1 → PlcOk E g1 H1 σ t v → atS E (f t) g1 σ H1 D → Q v H1) : tplM E m σ H Q :=
  ⟨g, s_seq h fun t st1 q g1 H1 r1 s1 v rv => k t v g1 H1 s1 rv (q g1 H1 r1 s1)⟩
/-- an owned object changes -/
theorem RelS.change {K : PySem.W.Frag} {S : List Ob} {p : Addr} {o : HO} (r : RelS K g S H) (h1 : g.own p ≠ .fz) (h2 : g.own p ≠ .out) (h3 : ∀ a, g.own p = .box a → ∀ ob, S[a]? = some ob → RepO K g ob (some o)) : RelS K g S (upd H p o) := by
  refine ⟨fun b u e => ?_, r.zo, fun b e => ?_, r.n, fun a ob e => ?_⟩
  · have hb : b ≠ p := fun z => h1 (by rw [← z]; exact r.zo b u e)
    rw [upd_ne hb]
    exact r.zs b u e
  · by_cases hb : b = p
    · subst hb
      rw [upd_same] at e
      cases e
    · rw [upd_ne hb] at e
      exact r.fr b e
  · obtain ⟨q1, q2⟩ := r.box a ob e
    by_cases hb : g.ρ a = p
    · refine ⟨q1, ?_⟩
      rw [hb] at q1 ⊢
      rw [upd_same]
      exact h3 a q1 ob e
    · rw [upd_ne hb]
      exact ⟨q1, q2⟩
theorem Stp.change {p : Addr} {o : HO} (h2 : g.own p ≠ .out) : Stp g g H (upd H p o) :=
  ⟨Same.refl _, Nat.le_refl _, fun _ _ => rfl, fun b u q1 q2 => ⟨q1, by rw [upd_ne (fun z => h2 (by rw [← z]; exact q1))]; exact q2⟩⟩
def pVar (i : Nat) : Plc := fun st => match st.σ[i]? with
  | some (.own ob) => some (ob, fun o => { st with σ := st.σ.set i (.own o) })
  | some (.val (.ref a)) => match st.S[a]? with
    | some ob => some (ob, fun o => { st with S := st.S.set a o })
    | none => none
  | _ => none
def pRef (a : Nat) : Plc := fun st => match st.S[a]? with
  | some ob => some (ob, fun o => { st with S := st.S.set a o })
  | none => none
theorem rel_setOwn {st : Stt} {i : Nat} {p : Addr} {ob ob' : Ob} {o : HO} (r : Rel E.K g st σ H) (es : st.σ[i]? = some (.own ob)) (ev : σ[i]? = some (some (.ref p))) (op : g.own p = .slot i) (ro : RepO E.K g ob' (some o)) :
    Rel E.K g { st with σ := st.σ.set i (.own ob') } σ (upd H p o) := by
  refine ⟨r.toRelS.change (by rw [op]; exact fun z => by cases z) (by rw [op]; exact fun z => by cases z) (fun a z => by rw [op] at z; cases z), by simpa using r.len, fun j s v e1 e2 => ?_⟩
  by_cases hj : i = j
  · subst hj
    have e1 : (st.σ.set i (.own ob'))[i]? = some s := e1
    rw [List.getElem?_set_self (List.getElem?_eq_some_iff.mp es).1] at e1
    cases e1
    rw [ev] at e2
    cases e2
    exact ⟨p, rfl, op, by rw [upd_same]; exact ro⟩
  · have e1 : (st.σ.set i (.own ob'))[j]? = some s := e1
    rw [List.getElem?_set_ne hj] at e1
    have q := r.slot j s v e1 e2
    cases s with
    | emp => trivial
    | val t => exact q
    | own ob2 =>
      obtain ⟨p', e, q1, q2⟩ := q
      have hb : p' ≠ p := fun z => by
        rw [z, op] at q1
        injection q1 with q1
        exact hj q1
      exact ⟨p', e, q1, by rw [upd_ne hb]; exact q2⟩
theorem rel_setBox {st : Stt} {a : Nat} {ob ob' : Ob} {o : HO} (r : Rel E.K g st σ H) (es : st.S[a]? = some ob) (ro : RepO E.K g ob' (some o)) : Rel E.K g { st with S := st.S.set a ob' } σ (upd H (g.ρ a) o) ∧ g.own (g.ρ a) = .box a := by
  obtain ⟨op, _⟩ := r.box a ob es
  have ha : a < st.S.length := (List.getElem?_eq_some_iff.mp es).1
  refine ⟨⟨⟨fun b u e => ?_, r.zo, fun b e => ?_, by simpa using r.n, fun c ob2 e => ?_⟩, r.len, fun j s v e1 e2 => ?_⟩, op⟩
  · have hb : b ≠ g.ρ a := fun z => by
      have := r.zo b u e
      rw [z, op] at this
      cases this
    rw [upd_ne hb]
    exact r.zs b u e
  · by_cases hb : b = g.ρ a
    · rw [hb, upd_same] at e
      cases e
    · rw [upd_ne hb] at e
      exact r.fr b e
  · have e : (st.S.set a ob')[c]? = some ob2 := e
    by_cases hc : a = c
    · subst hc
      rw [List.getElem?_set_self ha] at e
      cases e
      exact ⟨op, by rw [upd_same]; exact ro⟩
    · rw [List.getElem?_set_ne hc] at e
      obtain ⟨q1, q2⟩ := r.box c ob2 e
      have hb : g.ρ c ≠ g.ρ a := fun z => by
        rw [z, op] at q1
        injection q1 with q1
        exact hc q1
      exact ⟨q1, by rw [upd_ne hb]; exact q2⟩
  · have q := r.slot j s v e1 e2
    cases s with
    | emp => trivial
    | val t => exact q
    | own ob2 =>
      obtain ⟨p', e, q1, q2⟩ := q
      have hb : p' ≠ g.ρ a := fun z => by rw [z, op] at q1; cases q1
      exact ⟨p', e, q1, by rw [upd_ne hb]; exact q2⟩
theorem plc_ref {a : Nat} {v : V} (h : RepT E.K g (.ref a) v) : PlcOk E g H σ (pRef a) v := fun g' st' H' ob set r s e => by
  unfold pRef at e
  cases es : st'.S[a]? with
  | none => rw [es] at e; cases e
  | some ob2 =>
    rw [es] at e
    cases e
    have h' := h.step s
    unfold RepT at h'
    obtain ⟨_, q2⟩ := r.box a _ es
    refine ⟨_, h'.2, q2, fun ob' o' ro => ?_⟩
    obtain ⟨r2, op⟩ := rel_setBox r es ro
    exact ⟨r2, Stp.change (by rw [op]; exact fun z => by cases z)⟩
theorem plc_var {i : Nat} {v : V} (ev : σ[i]? = some (some v)) : PlcOk E g H σ (pVar i) v := fun g' st' H' ob set r s e => by
  unfold pVar at e
  cases es : st'.σ[i]? with
  | none => rw [es] at e; cases e
  | some sl =>
    rw [es] at e
    have q := r.slot i sl _ es ev
    cases sl with
    | emp => cases e
    | val t =>
      cases t with
      | ref a =>
        simp only at e
        obtain ⟨x, ex, rx⟩ := q
        cases ex
        exact plc_ref (σ := σ) (H := H') rx g' st' H' ob set r (Stp.refl _ _) (by unfold pRef; exact e)
      | _ => cases e
    | own ob2 =>
      cases e
      obtain ⟨p, ep, op, ro⟩ := q
      cases ep
      exact ⟨p, rfl, ro, fun ob' o' ro' => ⟨rel_setOwn r es ev op ro', Stp.change (by rw [op]; exact fun z => by cases z)⟩⟩
/-- a name's own object, or the boxed one it holds -/
def mVar (i : Nat) : M Plc := fun st => match pVar i st with
  | some _ => some (.ok (pVar i), st)
  | none => none
theorem lm_var {i : Nat} {e : Expr} (h : PE X e (tVar i)) : LM E X e (mVar i) := by
  refine ⟨PE.mono h fun σ H Q ⟨g, st, r, q⟩ => ?_⟩
  unfold run mVar at q
  cases ep : pVar i st with
  | none => rw [ep] at q; exact q.elim
  | some p =>
    rw [ep] at q
    have hv : ∃ v, σ[i]? = some (some v) := by
      unfold pVar at ep
      cases es : st.σ[i]? with
      | none => rw [es] at ep; cases ep
      | some sl =>
        have hi : i < σ.length := by rw [← r.len]; exact (List.getElem?_eq_some_iff.mp es).1
        have ev : σ[i]? = some σ[i] := List.getElem?_eq_getElem hi
        have q := r.slot i sl _ es ev
        cases sl with
        | emp => rw [es] at ep; cases ep
        | val t => obtain ⟨x, e, _⟩ := q; exact ⟨x, by rw [ev, e]⟩
        | own ob => obtain ⟨p, e, _⟩ := q; exact ⟨_, by rw [ev, e]⟩
    obtain ⟨v, ev⟩ := hv
    exact ⟨v, ev, q g H r (Stp.refl _ _) v (plc_var ev)⟩
/-- a boxed object, by its reference -/
def mRef (m : M T) : M Plc := do
  match ← m with
  | .ref a => pure (pRef a)
  | _ => stuck
theorem lm_ref {e : Expr} {m : M T} (h : ME E X e m) : LM E X e (mRef m) :=
  ⟨PE.mono h.pe fun σ H Q ⟨g, q⟩ => seqT st_okP q fun t v g1 H1 s1 rv h1 => by
    cases t with
    | ref a =>
      obtain ⟨st, r, z⟩ := at_pure h1
      exact z g1 H1 r (Stp.refl _ _) v (plc_ref rv)
    | _ => obtain ⟨_, _, z⟩ := h1; exact z.elim⟩

/-! ### methods that change a list -/
def LRM (E : Ev) (r : V → List V → Hp → VK → Prop) (f : List T → List T → Option (List T × T)) : Prop := ∀ (g : Gh) (H : Hp) (p : Addr) (xs : List V) (us as us' : List T) (res : T) (vs : List V) (Q : VK),
  Same g.Z H → H p = some (.lst xs) → RepL E.K g us xs → RepL E.K g as vs → f us as = some (us', res) → (∀ xs' x, RepL E.K g us' xs' → RepT E.K g res x → Q x (upd H p (.lst xs'))) → r (.ref p) vs H Q
def isLst (pl : Plc) : M Unit := fun st => match pl st with
  | some (.lst _, _) => some (.ok (), st)
  | _ => none
def opL (f : List T → List T → Option (List T × T)) (pl : Plc) (as : List T) : M T := fun st => match pl st with
  | some (.lst us, set) => match f us as with
    | some (us', res) => some (.ok res, set (.lst us'))
    | none => none
  | _ => none
def eLst (f : List T → List T → Option (List T × T)) (mp : M Plc) (ma : M (List T)) : M T := do
  let pl ← mp
  isLst pl
  let as ← ma
  opL f pl as
def eLst0 (f : List T → List T → Option (List T × T)) (mp : M Plc) : M T := do
  let pl ← mp
  opL f pl []
theorem at_isLst {β : Type} {pl : Plc} {v : V} {f : Unit → M β} {Φ : β → Stt → Prop} (h : at_ E (isLst pl >>= f) g σ H Φ) (pk : PlcOk E g H σ pl v) : tyV E.K "list" v H ∧ at_ E (f ()) g σ H Φ := by
  obtain ⟨st, r, q⟩ := h
  have q := run_bind q
  unfold run isLst at q
  cases e : pl st with
  | none => simp only [e] at q
  | some p =>
    obtain ⟨ob, set⟩ := p
    simp only [e] at q
    cases ob with
    | lst us =>
      simp only at q
      obtain ⟨p, ev, ⟨xs, ex, _⟩, _⟩ := pk g st H _ _ r (Stp.refl _ _) e
      rw [ev]
      exact ⟨.inl ⟨rfl, xs, .inl (.inl ex)⟩, st, r, q⟩
    | _ => exact q.elim
theorem at_opL {r : V → List V → Hp → VK → Prop} {f : List T → List T → Option (List T × T)} {pl : Plc} {v : V} {as : List T} {vs : List V} {Q : VK} (hl : LRM E r f) (h : at_ E (opL f pl as) g σ H (okT E g H σ Q)) (pk : PlcOk E g H σ pl v) (ra : RepL E.K g as vs) :
    tyV E.K "list" v H ∧ r v vs H Q := by
  obtain ⟨st, r', q⟩ := h
  unfold run opL at q
  cases e : pl st with
  | none => simp only [e] at q
  | some p =>
    obtain ⟨ob, set⟩ := p
    simp only [e] at q
    cases ob with
    | lst us =>
      simp only at q
      obtain ⟨p, ev, ⟨xs, ex, rl⟩, put⟩ := pk g st H _ _ r' (Stp.refl _ _) e
      cases ef : f us as with
      | none => simp only [ef] at q
      | some w =>
        obtain ⟨us', res⟩ := w
        simp only [ef] at q
        rw [ev]
        refine ⟨.inl ⟨rfl, xs, .inl (.inl ex)⟩, hl g H p xs us as us' res vs Q r'.zs ex rl ra ef fun xs' x rl' rx => ?_⟩
        obtain ⟨r2, s2⟩ := put (.lst us') (.lst xs') ⟨xs', rfl, rl'⟩
        exact q g _ r2 s2 x rx
    | _ => exact q.elim
section
variable {o e : Expr} {es : List Expr} {name : Str} {apos cpos : Pos} {id : String} {r : V → List V → Hp → VK → Prop} {f : List T → List T → Option (List T × T)} {mp : M Plc} {ma : M (List T)}
theorem me_lst (slot : Slot "list" name id) (hty : typeOf (.builtin id) = pure (.type "method_descriptor")) (hm : MtR X id r) (hl : LRM E r f) (ho : LM E X o mp) (ha : AM E X (e :: es) ma) (hK : E.K = X.K := by rfl)
    (hbase : attributeBase o name X.env (eval o X.env) = eval o X.env := by rfl)
    (hfew : ((backTo cpos (starEach (e :: es) X.env)).all (fun x => !x.1) && (backToKw cpos (keywordEach [] X.env)).all (fun x => x.1.isSome)
      && decide ((e :: es).length + ([] : List Keyword).length + (if ([] : List Keyword).isEmpty then 0 else 1) < 30)) = true := by rfl)
    (hline : (apos.endLine == cpos.line) = true := by rfl) (hs : starEach (e :: es) X.env = (false, eval e X.env) :: starEach es X.env := by rfl) (hplain : (backTo cpos (starEach es X.env)).any (·.1) = false := by rfl) :
    ME E X (.Call (.Attribute o name apos) (e :: es) [] cpos) (eLst f mp ma) :=
  ⟨PE.mono (pe_bm PySem.F.plainAttrs_list slot hty hm ho.pe ha.pa hbase hfew hline hs hplain) fun σ H Q ⟨g, q⟩ => seqPl st_okT q fun pl v g1 H1 s1 pk h1 => by
    obtain ⟨ty, h2⟩ := at_isLst h1 pk
    exact ⟨by rw [← hK]; exact ty, seqL st_okT h2 fun ts vs g2 H2 s2 rl h3 => (at_opL hl h3 (pk.step s2) rl).2⟩⟩
theorem me_lst0 (slot : Slot "list" name id) (hty : typeOf (.builtin id) = pure (.type "method_descriptor")) (hm : MtR X id r) (hl : LRM E r f) (ho : LM E X o mp) (hK : E.K = X.K := by rfl)
    (hbase : attributeBase o name X.env (eval o X.env) = eval o X.env := by rfl) (hline : (apos.endLine == cpos.line) = true := by rfl) : ME E X (.Call (.Attribute o name apos) [] [] cpos) (eLst0 f mp) :=
  ⟨PE.mono (pe_bm0 PySem.F.plainAttrs_list slot hty hm ho.pe hbase hline) fun σ H Q ⟨g, q⟩ => seqPl st_okT q fun pl v g1 H1 s1 pk h1 => by
    obtain ⟨ty, q2⟩ := at_opL hl h1 pk .nil
    exact ⟨by rw [← hK]; exact ty, q2⟩⟩
end
theorem lin {n : Nat} (h : n ≤ 1000000) : n < sizeLine := by
  have : sizeLine = 16777216 := sizeLine_eq
  omega
def appendF (us as : List T) : Option (List T × T) := match as with
  | [t] => if us.length ≤ 1000000 then some (us ++ [t], .non) else none
  | _ => none
theorem lm_append : LRM E rAppend appendF := by
  intro g H p xs us as us' res vs Q zs ex rl ra e q
  match as, e with
  | [t], e =>
    simp only [appendF] at e
    split at e
    · rename_i hz
      cases e
      obtain ⟨v, rfl, rv⟩ := ra.one_of
      exact ⟨p, xs, v, rfl, rfl, ex, by rw [rl.len]; exact lin hz, q _ _ (rl.app (.one rv)) rt_non⟩
    · cases e
def popF (us as : List T) : Option (List T × T) := match as with
  | [] => match us.getLast? with
    | some t => some (us.dropLast, t)
    | none => none
  | [.int i] => if us.length ≤ 1000000 then match ixN us.length i with
    | some k => match us[k]? with
      | some t => some (us.eraseIdx k, t)
      | none => none
    | none => none else none
  | _ => none
theorem RepL.dropLast {K : PySem.W.Frag} {ts : List T} {xs : List V} (h : RepL K g ts xs) : RepL K g ts.dropLast xs.dropLast := by
  rw [List.dropLast_eq_take, List.dropLast_eq_take, h.len]
  exact h.take _
theorem RepL.erase {K : PySem.W.Frag} {ts : List T} {xs : List V} (h : RepL K g ts xs) (k : Nat) : RepL K g (ts.eraseIdx k) (xs.eraseIdx k) := by
  rw [List.eraseIdx_eq_take_drop_succ, List.eraseIdx_eq_take_drop_succ]
  exact (h.take _).app (h.drop _)
def rPopA : V → List V → Hp → VK → Prop := fun x xs H Q => rPop x xs H Q ∨ rPopAt x xs H Q
theorem mt_popA : MtR X "list.pop" rPopA := MtR.or mt_pop mt_popAt
theorem lm_pop : LRM E rPopA popF := by
  intro g H p xs us as us' res vs Q zs ex rl ra e q
  match as, e with
  | [], e =>
    simp only [popF] at e
    cases el : us.getLast? with
    | none => rw [el] at e; cases e
    | some t =>
      rw [el] at e
      cases e
      unfold RepL at ra
      subst ra
      rw [List.getLast?_eq_getElem?] at el
      obtain ⟨x, e2, rx⟩ := rl.get el
      exact .inl ⟨p, xs, x, rfl, rfl, ex, by rw [rl.len]; exact e2, q _ _ rl.dropLast rx⟩
  | [.int i], e =>
    simp only [popF] at e
    split at e
    · rename_i hz
      cases ek : ixN us.length i with
      | none => rw [ek] at e; cases e
      | some k =>
        rw [ek] at e
        simp only at e
        cases et : us[k]? with
        | none => rw [et] at e; cases e
        | some t =>
          rw [et] at e
          cases e
          obtain ⟨v, rfl, rv⟩ := ra.one_of
          obtain ⟨x, e2, rx⟩ := rl.get et
          obtain ⟨h1, h2, h3, h4⟩ := ixN_seq ek
          exact .inr ⟨p, xs, i, k, x, rfl, by rw [rv.int_of], ex, by omega, by omega, by rw [rl.len]; exact h1, e2, q _ _ (rl.erase k) rx⟩
    · cases e
def insertF (us as : List T) : Option (List T × T) := match as with
  | [.int i, t] => if 0 ≤ i ∧ i ≤ 1000000 ∧ us.length ≤ 1000000 then some (us.take i.toNat ++ [t] ++ us.drop i.toNat, .non) else none
  | _ => none
def rInsert : V → List V → Hp → VK → Prop := fun x vs H Q => ∃ (l : Addr) (xs : List V) (i : Int) (y : V), x = .ref l ∧ vs = [.int i, y] ∧ H l = some (.lst xs) ∧ xs.length < sizeLine ∧ 0 ≤ i ∧ i < 2 ^ 63 ∧
    Q .non (upd H l (.lst (xs.take i.toNat ++ [y] ++ xs.drop i.toNat)))
theorem lm_insert : LRM E rInsert insertF := by
  intro g H p xs us as us' res vs Q zs ex rl ra e q
  match as, e with
  | [.int i, t], e =>
    simp only [insertF] at e
    split at e
    · rename_i hz
      cases e
      obtain ⟨v, w, rfl, rv, rw'⟩ := ra.two_of
      exact ⟨p, xs, i, w, rfl, by rw [rv.int_of], ex, by rw [rl.len]; exact lin hz.2.2, hz.1, by omega, q _ _ (((rl.take _).app (.one rw')).app (rl.drop _)) rt_non⟩
    · cases e
def extendF (us as : List T) : Option (List T × T) := match as with
  | [.fz ts] => if us.length + ts.length ≤ 1000000 then some (us ++ ts, .non) else none
  | _ => none
theorem lm_extend : LRM E rExtend extendF := by
  intro g H p xs us as us' res vs Q zs ex rl ra e q
  match as, e with
  | [.fz ts], e =>
    simp only [extendF] at e
    split at e
    · rename_i hz
      cases e
      obtain ⟨v, rfl, rv⟩ := ra.one_of
      obtain ⟨b, ys, rfl, hb, rl2⟩ := rv.fz_of
      exact ⟨p, b, xs, ys, rfl, rfl, ex, zs _ _ hb, by rw [rl.len, rl2.len]; exact mil hz, q _ _ (rl.app rl2) rt_non⟩
    · cases e
def clearF (_ as : List T) : Option (List T × T) := match as with
  | [] => some ([], .non)
  | _ => none
theorem lm_clear : LRM E rClear clearF := by
  intro g H p xs us as us' res vs Q zs ex rl ra e q
  match as, e with
  | [], e =>
    cases e
    unfold RepL at ra
    subst ra
    exact ⟨p, xs, rfl, rfl, ex, q _ _ .nil rt_non⟩
end
end Sw
namespace Sw
open PySem PySem.Spec PyProof.Rows L2

section
variable {E : Ev} {g g1 : Gh} {H H1 : Hp} {σ : L2.St} {X : Cx} {pos : Pos}
/-! ### a new object, boxed -/
def Gh.box (g : Gh) (p : Addr) : Gh := { g with own := fun q => if q = p then .box g.n else g.own q, ρ := fun a => if a = g.n then p else g.ρ a, n := g.n + 1 }
theorem Gh.box_own {p q : Addr} (h : q ≠ p) : (g.box p).own q = g.own q := by
  show (if q = p then _ else _) = _
  rw [if_neg h]
theorem Gh.box_gs {p : Addr} : GStp g (g.box p) := ⟨Same.refl _, Nat.le_succ _, fun a h => by
  show (if a = g.n then p else g.ρ a) = _
  rw [if_neg (Nat.ne_of_lt h)]⟩
theorem Rel.boxes {st : Stt} {p : Addr} {ob : Ob} {o : HO} (r : Rel E.K g st σ H) (hp : H p = none) (ro : RepO E.K g ob (some o)) :
    Rel E.K (g.box p) { st with S := st.S ++ [ob] } σ (upd H p o) ∧ Stp g (g.box p) H (upd H p o) ∧ RepT E.K (g.box p) (.ref st.S.length) (.ref p) := by
  have op : g.own p = .out := r.fr p hp
  have zp : g.Z p = none := r.zs.free hp
  have gs : GStp g (g.box p) := Gh.box_gs
  have rn : (g.box p).ρ g.n = p := by
    show (if g.n = g.n then p else _) = p
    rw [if_pos rfl]
  refine ⟨⟨⟨fun b u e => ?_, fun b u e => ?_, fun b e => ?_, ?_, fun a ob' e => ?_⟩, r.len, fun j s w e1 e2 => ?_⟩, ⟨gs.z, gs.n, gs.ρ, fun b u h1 h2 => ?_⟩, ?_⟩
  · have hb : b ≠ p := ne_of_none e zp
    rw [upd_ne hb]
    exact r.zs b u e
  · have hb : b ≠ p := ne_of_none e zp
    rw [Gh.box_own hb]
    exact r.zo b u e
  · by_cases hb : b = p
    · rw [hb, upd_same] at e
      cases e
    · rw [upd_ne hb] at e
      rw [Gh.box_own hb]
      exact r.fr b e
  · show g.n + 1 = (st.S ++ [ob]).length
    rw [List.length_append, r.n]
    rfl
  · have e : (st.S ++ [ob])[a]? = some ob' := e
    by_cases ha : a < st.S.length
    · rw [List.getElem?_append_left ha] at e
      obtain ⟨h1, h2⟩ := r.box a ob' e
      have hb : g.ρ a ≠ p := fun z => by rw [z, op] at h1; cases h1
      have er : (g.box p).ρ a = g.ρ a := gs.ρ a (by rw [r.n]; exact ha)
      rw [er, Gh.box_own hb, upd_ne hb]
      exact ⟨h1, h2.gstep gs⟩
    · rw [List.getElem?_append_right (by omega)] at e
      have ea : a = st.S.length := by
        have := (List.getElem?_eq_some_iff.mp e).1
        simp at this
        omega
      subst ea
      simp at e
      subst e
      rw [← r.n, rn, upd_same]
      refine ⟨?_, ro.gstep gs⟩
      show (if p = p then Ow.box g.n else _) = _
      rw [if_pos rfl]
  · have q := r.slot j s w e1 e2
    cases s with
    | emp => trivial
    | val t =>
      obtain ⟨x, e, q⟩ := q
      exact ⟨x, e, q.gstep gs⟩
    | own ob' =>
      obtain ⟨p', e, q1, q2⟩ := q
      have hb : p' ≠ p := fun z => by rw [z, op] at q1; cases q1
      refine ⟨p', e, ?_, ?_⟩
      · rw [Gh.box_own hb]
        exact q1
      · rw [upd_ne hb]
        exact q2.gstep gs
  · have hb : b ≠ p := ne_of_none h2 hp
    rw [Gh.box_own hb, upd_ne hb]
    exact ⟨h1, h2⟩
  · unfold RepT
    refine ⟨?_, ?_⟩
    · show st.S.length < g.n + 1
      rw [r.n]
      exact Nat.lt_succ_self _
    · rw [← r.n, rn]
def eBox (m : M Ob) : M T := do let ob ← m; fun st => some (.ok (.ref st.S.length), { st with S := st.S ++ [ob] })
theorem FE.box {e : Expr} {m : M Ob} (h : FE E X e m) : ME E X e (eBox m) :=
  ⟨PE.mono h.pe fun σ H Q ⟨g, q⟩ => ⟨g, seq_any (Φ := fun g H => okT E g H σ Q) st_okT q fun ob st1 k g1 H1 r1 s1 p o hp ro => by
    obtain ⟨st, r, z⟩ := k g1 H1 r1 s1
    obtain ⟨r2, s2, rt⟩ := r.boxes hp ro
    exact z _ _ r2 s2 _ rt⟩⟩

/-! ### two lists, one behind the other; a list some times over -/
def catO : T → T → Option (List T)
  | .fz ts, .fz us => if ts.length + us.length ≤ 1000000 then some (ts ++ us) else none
  | _, _ => none
def repO : T → T → Option (List T)
  | .fz ts, .int k => if k ≤ 1000 ∧ -1000 ≤ k ∧ ts.length ≤ 1000 then some (List.replicate k.toNat ts).flatten else none
  | _, _ => none
def LRA (E : Ev) (r : R2) (f : T → T → Option (List T)) : Prop := ∀ (g : Gh) (H : Hp) (t u : T) (us : List T) (v w : V) (Q : VK), Same g.Z H → RepK E g H t v → RepK E g H u w → f t u = some us → (∀ p xs, H p = none → RepL E.K g us xs → Q (.ref p) (upd H p (.lst xs))) → r v w H Q
theorem lr_cat : LRA E rCat catO := by
  intro g H t u us v w Q zs h1 h2 e q
  cases t <;> cases u <;> simp only [catO] at e <;> try contradiction
  split at e
  · rename_i hz
    cases e
    obtain ⟨a, xs, rfl, ha, rl⟩ := h1
    obtain ⟨b, ys, rfl, hb, rl2⟩ := h2
    exact ⟨a, b, xs, ys, rfl, rfl, ha, hb, by rw [rl.len, rl2.len]; exact mil hz, fun p hp => q p _ hp (rl.app rl2)⟩
  · contradiction
theorem RepL.repl {K : PySem.W.Frag} {ts : List T} {xs : List V} (h : RepL K g ts xs) : ∀ n : Nat, RepL K g (List.replicate n ts).flatten (List.replicate n xs).flatten
  | 0 => .nil
  | n + 1 => by
    rw [List.replicate_succ, List.replicate_succ, List.flatten_cons, List.flatten_cons]
    exact h.app (RepL.repl h n)
theorem lr_rep : LRA E rRep repO := by
  intro g H t u us v w Q zs h1 h2 e q
  cases t <;> cases u <;> simp only [repO] at e <;> try contradiction
  split at e
  · rename_i hz
    cases e
    obtain ⟨a, xs, rfl, ha, rl⟩ := h1
    rename_i ts k
    refine ⟨a, k, xs, rfl, h2.int_of, ha, by omega, by omega, ?_, fun p hp => q p _ hp (rl.repl _)⟩
    rw [rl.len]
    refine mil ?_
    have h3 : k.toNat ≤ 1000 := by omega
    calc ts.length * k.toNat ≤ 1000 * 1000 := Nat.mul_le_mul hz.2.2 h3
      _ ≤ 1000000 := by decide
  · contradiction
def fOp2 (f : T → T → Option (List T)) (ma mb : M Rdr) : M Ob := do
  let ra ← ma
  let rb ← mb
  fun st => match ra st, rb st with
    | some a, some b => ofO ((f a b).map .lst) st
    | _, _ => none
theorem fe_op {op : Operator} {r : R2} {f : T → T → Option (List T)} {a b : Expr} {ma mb : M Rdr} (ho : OpR X (binaryOp op) r) (hl : LRA E r f) (ha : OE E X a ma) (hb : OE E X b mb) : FE E X (.BinOp a op b pos) (fOp2 f ma mb) :=
  ⟨PE.mono (pe_op ho ha.pe hb.pe) fun σ H Q ⟨g, h⟩ => seqO st_okF h fun ra v g1 H1 s1 rd1 h1 => seqO st_okF h1 fun rb w g2 H2 s2 rd2 h2 => by
    obtain ⟨a, b, k1, k2, h3⟩ := at_rd2 h2 (rd1.step s2) rd2
    obtain ⟨s, st, e, rl, z⟩ := at_ofO h3
    cases ef : f a b with
    | none => rw [ef] at e; cases e
    | some us =>
      rw [ef] at e
      cases e
      exact hl g2 H2 a b us v w Q rl.zs k1 k2 ef fun p xs hp rx => z g2 H2 rl (Stp.refl _ _) p _ hp ⟨xs, rfl, rx⟩⟩
/-- a text some times over -/
def rMulS : R2 := fun x y H Q => ∃ (z : List Nat) (n : Int), x = .str (sS z) ∧ y = .int n ∧ 0 ≤ n ∧ n ≤ 1000 ∧ z.length ≤ 1000 ∧ Q (.str (sS (List.replicate n.toNat z).flatten)) H
theorem sS_repl (z : List Nat) : ∀ (n : Nat) (acc : Array Nat), (List.replicate n z.toArray).foldl (· ++ ·) acc = acc ++ (List.replicate n z).flatten.toArray
  | 0, acc => by simp
  | n + 1, acc => by
    rw [List.replicate_succ, List.foldl_cons, sS_repl z n, List.replicate_succ, List.flatten_cons]
    simp
theorem op_mulS : OpR X (binaryOp .Mult) rMulS := by
  intro pins s σ H x y v u Q I rx ry h
  obtain ⟨z, n, rfl, rfl, h0, h1, hz, q⟩ := h
  obtain ⟨t, rfl⟩ := rx
  obtain ⟨t', rfl⟩ := ry
  have fin : ∀ w, EP X pins σ Q (.str (sS (List.replicate n.toNat z).flatten) w) { s with toks := s.toks + 1 } := fun w => ⟨.str _, H, I.tok _, ⟨w, rfl⟩, q⟩
  by_cases hn : n < 1
  · have e : n = 0 := by omega
    subst e
    exact PySem.P.mul_str_none (by omega) (by omega) (fin _)
  · have hl : (sS z).length = z.length := sS_len z
    refine PySem.P.mul_str ?_ ?_ ?_ ?_
    · rw [decide_eq_false (by omega), decide_eq_false (by omega)]
      rfl
    · intro _ _ hc
      rw [hl] at hc
      have h3 : (z.length : Int) ≤ ((2 : Int) ^ 63 - 1) / n := (Int.le_ediv_iff_mul_le (by omega)).mpr (by
        have : (z.length : Int) * n ≤ 1000 * 1000 := Int.mul_le_mul (by omega) h1 h0 (by omega)
        omega)
      omega
    · intro _ _
      rw [hl]
      unfold PySem.Builtin.Str.tooLong
      have h3 : n.toNat ≤ 1000 := by omega
      have h4 : z.length * n.toNat ≤ 1000 * 1000 := Nat.mul_le_mul hz h3
      have hs : sizeLine = 16777216 := sizeLine_eq
      exact decide_eq_false (by omega)
    · rw [if_neg hn]
      split
      · rename_i hc
        show EP X pins σ Q (.str (sS z) t) s
        have e : (List.replicate n.toNat z).flatten = z := by
          rw [Bool.or_eq_true] at hc
          rcases hc with hc | hc
          · have : n = 1 := by simpa using hc
            subst this
            simp
          · have : z = [] := by
              rw [hl] at hc
              simpa using hc
            subst this
            simp
        rw [e] at q
        exact ⟨.str _, H, I, ⟨t, rfl⟩, q⟩
      · show (_ : Str).length ≤ sizeLine ∧ _
        have e : (⟨(List.replicate n.toNat (sS z).cps).foldl (· ++ ·) #[]⟩ : Str) = sS (List.replicate n.toNat z).flatten := by
          show (⟨(List.replicate n.toNat z.toArray).foldl (· ++ ·) #[]⟩ : Str) = _
          rw [sS_repl]
          simp [sS]
        rw [e]
        refine ⟨?_, fin _⟩
        rw [sS_len]
        refine mil ?_
        rw [List.length_flatten]
        simp
        have h3 : n.toNat ≤ 1000 := by omega
        calc n.toNat * z.length ≤ 1000 * 1000 := Nat.mul_le_mul h3 hz
          _ ≤ 1000000 := by decide
  done
def mulSO : T → T → Option T
  | .str z, .int n => if 0 ≤ n ∧ n ≤ 1000 ∧ z.length ≤ 1000 then some (.str (List.replicate n.toNat z).flatten) else none
  | _, _ => none
theorem lr_mulS : LR2 E rMulS mulSO := by
  intro g H t u s v w Q zs h1 h2 e q
  cases t <;> cases u <;> simp only [mulSO] at e <;> try contradiction
  split at e
  · rename_i hz
    cases e
    exact ⟨_, _, h1.str_of, h2.int_of, hz.1, hz.2.1, hz.2.2, q _ (rt_str _)⟩
  · contradiction

/-! ### methods that read -/
def LRR (E : Ev) (r : V → List V → Hp → VK → Prop) (f : T → List T → Option T) : Prop := ∀ (g : Gh) (H : Hp) (t : T) (as : List T) (res : T) (v : V) (vs : List V) (Q : VK),
  Same g.Z H → RepK E g H t v → RepL E.K g as vs → f t as = some res → (∀ x, RepT E.K g res x → Q x H) → r v vs H Q
def tyOk (Ty : String) (t : T) : Bool := match t with
  | .str _ => Ty == "str"
  | .fz _ => Ty == "list"
  | .scr _ => Ty == "list"
  | _ => false
theorem tyOk_v {Ty : String} {t : T} {v : V} (zs : Same g.Z H) (h : RepK E g H t v) (e : tyOk Ty t = true) : tyV E.K Ty v H := by
  cases t <;> simp only [tyOk] at e <;> try contradiction
  · rw [h.str_of]; exact beq_iff_eq.mp e
  · obtain ⟨a, xs, rfl, ha, _⟩ := h
    exact .inl ⟨beq_iff_eq.mp e, xs, .inl (.inl ha)⟩
  · have h : RepT E.K g _ v := h
    unfold RepT at h
    obtain ⟨a, rfl, ha⟩ := h
    exact .inl ⟨beq_iff_eq.mp e, _, zs.seq ha⟩
def isTy (Ty : String) (r : Rdr) : M Unit := fun st => match r st with
  | some t => if tyOk Ty t then some (.ok (), st) else none
  | none => none
def eMeth (Ty : String) (f : T → List T → Option T) (m : M Rdr) (ma : M (List T)) : M T := do
  let r ← m
  isTy Ty r
  let as ← ma
  fun st => match r st with
    | some t => ofO (f t as) st
    | none => none
theorem at_isTy {β : Type} {Ty : String} {rd : Rdr} {v : V} {f : Unit → M β} {Φ : β → Stt → Prop} (h : at_ E (isTy Ty rd >>= f) g σ H Φ) (pk : Reads E g H σ rd v) : tyV E.K Ty v H ∧ at_ E (f ()) g σ H Φ := by
  obtain ⟨st, r, q⟩ := h
  have q := run_bind q
  unfold run isTy at q
  cases e : rd st with
  | none => simp only [e] at q
  | some t =>
    simp only [e] at q
    by_cases ht : tyOk Ty t = true
    · simp only [if_pos ht] at q
      exact ⟨tyOk_v r.zs (pk g st H t r (Stp.refl _ _) e) ht, st, r, q⟩
    · simp only [if_neg ht] at q
theorem me_meth {o e : Expr} {es : List Expr} {name : Str} {apos cpos : Pos} {Ty id : String} {r : V → List V → Hp → VK → Prop} {f : T → List T → Option T} {m : M Rdr} {ma : M (List T)} (pa : PlainAttrs Ty) (slot : Slot Ty name id) (hty : typeOf (.builtin id) = pure (.type "method_descriptor")) (hm : MtR X id r) (hl : LRR E r f) (ho : OE E X o m) (ha : AM E X (e :: es) ma) (hK : E.K = X.K := by rfl)
    (hbase : attributeBase o name X.env (eval o X.env) = eval o X.env := by rfl)
    (hfew : ((backTo cpos (starEach (e :: es) X.env)).all (fun x => !x.1) && (backToKw cpos (keywordEach [] X.env)).all (fun x => x.1.isSome)
      && decide ((e :: es).length + ([] : List Keyword).length + (if ([] : List Keyword).isEmpty then 0 else 1) < 30)) = true := by rfl)
    (hline : (apos.endLine == cpos.line) = true := by rfl) (hs : starEach (e :: es) X.env = (false, eval e X.env) :: starEach es X.env := by rfl) (hplain : (backTo cpos (starEach es X.env)).any (·.1) = false := by rfl) :
    ME E X (.Call (.Attribute o name apos) (e :: es) [] cpos) (eMeth Ty f m ma) :=
  ⟨PE.mono (pe_bm pa slot hty hm ho.pe ha.pa hbase hfew hline hs hplain) fun σ H Q ⟨g, q⟩ => seqO st_okT q fun rd v g1 H1 s1 rr h1 => by
    obtain ⟨ty, h2⟩ := at_isTy h1 rr
    refine ⟨by rw [← hK]; exact ty, seqL st_okT h2 fun ts vs g2 H2 s2 rl h3 => ?_⟩
    obtain ⟨t, rk, h4⟩ := at_rd1 h3 (rr.step s2)
    obtain ⟨s, st, e, r', z⟩ := at_ofO h4
    exact hl g2 H2 t ts s v vs Q r'.zs rk rl e fun x rx => z g2 H2 r' (Stp.refl _ _) x rx⟩
/-- xs.index(y), y there -/
def indexF (t : T) (as : List T) : Option T := match t, as with
  | .fz us, [u] => if u.dat 60 && T.dats 59 us then (us.findIdx? fun z => T.eqv z u).map fun j => .int (j : Nat) else none
  | _, _ => none
theorem pds_get : ∀ {us : List T} {j : Nat} {z : T}, us[j]? = some z → (T.pds us)[j]? = some z.pd
  | [], _, _, h => by simp at h
  | u :: us, 0, z, h => by
    rw [List.getElem?_cons_zero] at h
    cases h
    unfold T.pds
    rfl
  | u :: us, j + 1, z, h => by
    rw [List.getElem?_cons_succ] at h
    unfold T.pds
    rw [List.getElem?_cons_succ]
    exact pds_get h
theorem pds_of : ∀ {us : List T} {j : Nat} {d : PyData}, (T.pds us)[j]? = some d → ∃ z, us[j]? = some z ∧ d = z.pd
  | [], _, _, h => by unfold T.pds at h; simp at h
  | u :: us, 0, d, h => by
    unfold T.pds at h
    rw [List.getElem?_cons_zero] at h
    cases h
    exact ⟨u, rfl, rfl⟩
  | u :: us, j + 1, d, h => by
    unfold T.pds at h
    rw [List.getElem?_cons_succ] at h
    rw [List.getElem?_cons_succ]
    exact pds_of h
theorem dats_get {n : Nat} : ∀ {us : List T} {j : Nat} {z : T}, T.dats n us = true → us[j]? = some z → z.dat n = true
  | [], _, _, _, h => by simp at h
  | u :: us, 0, z, hd, h => by
    have hd : u.dat n = true ∧ T.dats n us = true := by simpa [T.dats] using hd
    rw [List.getElem?_cons_zero] at h
    cases h
    exact hd.1
  | u :: us, j + 1, z, hd, h => by
    have hd : u.dat n = true ∧ T.dats n us = true := by simpa [T.dats] using hd
    rw [List.getElem?_cons_succ] at h
    exact dats_get hd.2 h
theorem lr_index : LRR E (rIndexD E.K) indexF := by
  intro g H t as res v vs Q zs rk ra e q
  match t, as, e with
  | .fz us, [u], e =>
    simp only [indexF] at e
    split at e
    · rename_i hq
      rw [Bool.and_eq_true] at hq
      cases ej : us.findIdx? fun z => T.eqv z u with
      | none => rw [ej] at e; cases e
      | some j =>
        rw [ej] at e
        cases e
        obtain ⟨y, rfl, ry⟩ := ra.one_of
        have hd : (T.fz us).dat 60 = true := by unfold T.dat; exact hq.2
        have dl := rk.dp zs hd
        obtain ⟨a, xs, rfl, ha, rl⟩ := rk
        rw [List.findIdx?_eq_some_iff_getElem] at ej
        obtain ⟨hj, h1, h2⟩ := ej
        have hz : us[j]? = some us[j] := List.getElem?_eq_getElem hj
        refine ⟨a, y, u.pd, T.pds us, j, us[j].pd, rfl, rfl, ?_, RepT.dp (E := E) zs hq.1 ry, ?_, T.shaped hq.1 (by decide), pds_get hz, ?_, fun m z' hm hz' => ?_, q _ (rt_int _)⟩
        · unfold T.pd at dl
          exact dl
        · have := T.shaped hd (by decide)
          unfold T.pd at this
          exact this
        · rw [T.eqv_pd (dats_get hq.2 hz) hq.1]
          exact h1
        · obtain ⟨z, ez, rfl⟩ := pds_of hz'
          rw [T.eqv_pd (dats_get hq.2 ez) hq.1]
          have := h2 m hm
          rw [List.getElem?_eq_getElem (by omega)] at ez
          cases ez
          simpa using this
    · cases e
/-- sep.join(texts) -/
def strsOf : List T → Option (List (List Nat))
  | [] => some []
  | .str s :: ts => (strsOf ts).map (s :: ·)
  | _ => none
def joinF (t : T) (as : List T) : Option T := match t, as with
  | .str s, [.fz us] => match strsOf us with
    | some zs => if (zs.map (·.length)).sum + zs.length * s.length ≤ 1000000 then some (.str (TL.joinL s zs)) else none
    | none => none
  | _, _ => none
theorem RepL.strs {K : PySem.W.Frag} : ∀ {ts : List T} {xs : List V} {zs : List (List Nat)}, RepL K g ts xs → strsOf ts = some zs → xs = (zs.map sS).map V.str
  | [], xs, zs, h, e => by unfold RepL at h; unfold strsOf at e; cases e; exact h
  | t :: ts, xs, zs, h, e => by
    unfold RepL at h
    obtain ⟨x, r, rfl, h1, h2⟩ := h
    cases t with
    | str s =>
      unfold strsOf at e
      cases q : strsOf ts with
      | none => rw [q] at e; cases e
      | some ws =>
        rw [q] at e
        have e' : s :: ws = zs := Option.some.inj e
        rw [← e', RepL.strs h2 q, h1.str_of]
        rfl
    | _ => simp [strsOf] at e
theorem tl_sS (s : List Nat) : TL.tl (sS s) = s := by
  show (sS s).cps.toList = s
  simp [sS]
theorem join_sS (s : List Nat) (zs : List (List Nat)) : Txt.join (sS s) (zs.map sS) = sS (TL.joinL s zs) := by
  have h := TL.tl_join (sS s) (zs.map sS)
  rw [tl_sS, List.map_map, show (TL.tl ∘ sS) = id from funext tl_sS, List.map_id] at h
  rw [TL.join_eq]
  have e : (Str.join (sS s) (zs.map sS)).cps.toList = TL.joinL s zs := h
  show _ = (⟨(TL.joinL s zs).toArray⟩ : Str)
  rw [← e]
def rJoin (K : PySem.W.Frag) : V → List V → Hp → VK → Prop := fun x xs H Q => ∃ a p, ∃ ys : List Str, x = .str a ∧ xs = [.ref p] ∧ (SqL K H p (ys.map V.str) ∨ SqT K H p (ys.map V.str)) ∧
    (ys.map (·.length)).sum + ys.length * a.length ≤ 16777216 ∧ Q (.str (Txt.join a ys)) H
theorem lr_join : LRR E (rJoin E.K) joinF := by
  intro g H t as res v vs Q zs rk ra e q
  match t, as, e with
  | .str s, [.fz us], e =>
    simp only [joinF] at e
    cases ez : strsOf us with
    | none => rw [ez] at e; cases e
    | some ws =>
      rw [ez] at e
      simp only at e
      split at e
      · rename_i hz
        cases e
        obtain ⟨y, rfl, ry⟩ := ra.one_of
        obtain ⟨a, xs, rfl, ha, rl⟩ := ry.fz_of
        rw [rl.strs ez] at ha
        refine ⟨_, a, ws.map sS, rk.str_of, rfl, .inl (.inl (.inl (zs _ _ ha))), ?_, ?_⟩
        · rw [List.map_map, show (fun x : Str => x.length) ∘ sS = fun x => x.length from funext sS_len, List.length_map, sS_len]
          omega
        · rw [join_sS]
          exact q _ (rt_str _)
      · cases e

/-! ### o[i] = v -/
def setF (ob : Ob) (k t : T) : Option Ob := match ob, k with
  | .lst us, .int i => (ixN us.length i).map fun j => .lst (us.set j t)
  | _, _ => none
theorem RepL.set {K : PySem.W.Frag} : ∀ {ts : List T} {xs : List V} {t : T} {v : V} (j : Nat), RepL K g ts xs → RepT K g t v → RepL K g (ts.set j t) (xs.set j v)
  | [], xs, t, v, j, h, _ => by unfold RepL at h; rw [h]; simp; exact .nil
  | u :: ts, xs, t, v, 0, h, ht => by
    unfold RepL at h
    obtain ⟨x, r, rfl, h1, h2⟩ := h
    rw [List.set_cons_zero, List.set_cons_zero]
    unfold RepL
    exact ⟨v, r, rfl, ht, h2⟩
  | u :: ts, xs, t, v, j + 1, h, ht => by
    unfold RepL at h
    obtain ⟨x, r, rfl, h1, h2⟩ := h
    rw [List.set_cons_succ, List.set_cons_succ]
    unfold RepL
    exact ⟨x, _, rfl, h1, RepL.set j h2 ht⟩
def cSetIx (mp : M Plc) (mi m : M T) : Cmd := do
  let t ← m
  let pl ← mp
  let k ← mi
  fun st => match pl st with
    | some (ob, set) => match setF ob k t with
      | some ob' => some (.ok .nxt, set ob')
      | none => none
    | none => none
theorem sm_setIx {o i e : Expr} {mp : M Plc} {mi m : M T} {pos' : Pos} (ho : LM E X o mp) (hi : ME E X i mi) (he : ME E X e m)
    (ha : ∀ v, assign (.Subscript o i pos') X.env v = (do
      let ov ← holding [v] (eval o X.env)
      let iv ← holding [v, ov] (eval i X.env)
      standAt pos'
      holding [v, ov, iv] (setItem ov iv v)
      release [v, ov, iv] []) := by intro _; rfl)
    (hs : swapsWithSole [.Subscript o i pos'] e pos.line X.env = pure false := by rfl) (hw : swappedStores [.Subscript o i pos'] e X.env = pure none := by rfl)
    (h1 : (assignEach [.Subscript o i pos'] X.env).map (·.2) = [assign (.Subscript o i pos') X.env] := by rfl) : SM E X (.Assign [.Subscript o i pos'] e pos) (cSetIx mp mi m) :=
  ⟨PS.mono (ps_asg he.pe (pg_sub ho.pe hi.pe set_list ha) hs hw h1) fun D σ H ⟨g, q⟩ => sT q fun t v g1 H1 s1 rv h1 => sPl h1 fun pl w g2 H2 s2 pk h2 => sT h2 fun k x g3 H3 s3 rk h3 => by
    obtain ⟨st, r, z⟩ := h3
    unfold run at z
    cases ep : pl st with
    | none => simp only [ep] at z
    | some p =>
      obtain ⟨ob, set⟩ := p
      simp only [ep] at z
      cases ef : setF ob k t with
      | none => simp only [ef] at z
      | some ob' =>
        simp only [ef] at z
        obtain ⟨p, ev, ro, put⟩ := pk g3 st H3 _ _ r s3 ep
        cases ob <;> cases k <;> simp only [setF] at ef <;> try contradiction
        rename_i us i
        cases ej : ixN us.length i with
        | none => rw [ej] at ef; cases ef
        | some j =>
          rw [ej] at ef
          cases ef
          obtain ⟨xs, ex, rl⟩ := ro
          have rl' := rl.set j ((rv.step s2).step s3)
          obtain ⟨r2, s4⟩ := put (.lst (us.set j t)) (.lst (xs.set j v)) ⟨_, rfl, rl'⟩
          exact ⟨p, xs, i, j, ev, rk.int_of, ex, by rw [rl.len]; exact ej, z g3 _ _ r2 s4⟩⟩

/-! ### dicts with keys of ints and texts -/
def fDic : M Ob := pure (.dct [] [])
theorem fe_dic : FE E X (.Dict [] [] pos) fDic := ⟨PE.mono pe_dnewK fun σ H Q ⟨g, q⟩ => by
  obtain ⟨st, r, z⟩ := at_pure q
  exact fun p hp => z g H r (Stp.refl _ _) p _ hp ⟨[], rfl, rfl, .nil⟩⟩
def kEq (a b : T) : Bool := match a, b with
  | .int i, .int j => i == j
  | .str x, .str y => x == y
  | _, _ => false
def lookD : List T → List T → T → Option T
  | k :: ks, v :: vs, q => if kEq k q then some v else lookD ks vs q
  | _, _, _ => none
def isKey : T → Bool
  | .int _ => true
  | .str _ => true
  | _ => false
theorem kEq_key {a b : T} {x y : Key} (h1 : keyOf a = some x) (h2 : keyOf b = some y) : kEq a b = decide (x = y) := by
  cases a <;> simp only [keyOf] at h1 <;> try contradiction
  all_goals cases h1
  all_goals (cases b <;> simp only [keyOf] at h2 <;> try contradiction)
  all_goals cases h2
  · rename_i i j
    rw [key_ll]
    rfl
  · rw [key_lr]; rfl
  · rw [key_rl]; rfl
  · rename_i x y
    rw [key_rr]
    show (x == y) = _
    rw [← sS_eq]
    by_cases e : sS x = sS y
    · rw [e]; simp
    · rw [decide_eq_false e]; exact beq_eq_false_iff_ne.mpr e
theorem lookD_val {K : PySem.W.Frag} {q : T} {kq : Key} (hq : keyOf q = some kq) : ∀ {ks vs : List T} {kvs : List (Key × V)}, ks.map keyOf = kvs.map (fun p => some p.1) → RepL K g vs (kvs.map (·.2)) →
    (∀ t, lookD ks vs q = some t → ∃ x, valV kvs kq = some x ∧ RepT K g t x) ∧ (lookD ks vs q = none → valV kvs kq = none)
  | [], vs, [], _, h => by
    refine ⟨fun t e => ?_, fun _ => rfl⟩
    unfold lookD at e
    cases e
  | [], vs, _ :: _, e, _ => by simp at e
  | _ :: _, vs, [], e, _ => by simp at e
  | k :: ks, vs, (kx, x) :: kvs, e, h => by
    rw [List.map_cons, List.map_cons] at e
    injection e with e1 e2
    rw [List.map_cons] at h
    cases vs with
    | nil => unfold RepL at h; cases h
    | cons v vs =>
      unfold RepL at h
      obtain ⟨y, r, ey, h1, h2⟩ := h
      injection ey with ey1 ey2
      subst ey2
      have ih := lookD_val hq e2 h2
      have ek := kEq_key e1 hq
      by_cases hk : kx = kq
      · have hd : kEq k q = true := by rw [ek]; exact decide_eq_true hk
        refine ⟨fun t et => ?_, fun en => ?_⟩
        · unfold lookD at et
          rw [if_pos hd] at et
          cases et
          exact ⟨x, valV_pos hk, by rw [show x = y from ey1]; exact h1⟩
        · unfold lookD at en
          rw [if_pos hd] at en
          cases en
      · have hd : ¬ kEq k q = true := by rw [ek]; simp [hk]
        unfold lookD
        rw [if_neg hd, valV_neg hk]
        exact ih
def inD (k d : T) : Option T := match d with
  | .dic ks vs => if isKey k then some (.bl (lookD ks vs k).isSome) else none
  | _ => none
def ninD (k d : T) : Option T := match d with
  | .dic ks vs => if isKey k then some (.bl (!(lookD ks vs k).isSome)) else none
  | _ => none
def getD' (d k : T) : Option T := match d with
  | .dic ks vs => if isKey k then lookD ks vs k else none
  | _ => none
theorem isKey_of {t : T} (h : isKey t = true) : ∃ k, keyOf t = some k := by
  cases t <;> simp only [isKey] at h <;> try contradiction
  · exact ⟨_, rfl⟩
  · exact ⟨_, rfl⟩
theorem RepK.key {t : T} {v : V} {k : Key} (h : RepK E g H t v) (e : keyOf t = some k) : v = kV k := by
  cases t <;> simp only [keyOf] at e <;> try contradiction
  · cases e; exact h.int_of
  · cases e; exact h.str_of
theorem RepK.dic_of {ks vs : List T} {v : V} (h : RepK E g H (.dic ks vs) v) : ∃ a kvs, v = .ref a ∧ H a = some (.dK kvs) ∧ ks.map keyOf = kvs.map (fun p => some p.1) ∧ RepL E.K g vs (kvs.map (·.2)) := h
def rDIn : R2 := fun y x H Q => ∃ a o, x = .ref a ∧ DGet H a y o ∧ Q (.bl o.isSome) H
def rDNin : R2 := fun y x H Q => ∃ a o, x = .ref a ∧ DGet H a y o ∧ Q (.bl (!o.isSome)) H
theorem op_inDic (hu : X.A.units + 1 < cLine) : OpR X (compareOp .In) rDIn := by
  intro pins s σ H y x u v Q I ry rx h
  obtain ⟨a, o, rfl, dg, q⟩ := h
  cases rx
  exact d_in hu I dg ry fun s' I' => ⟨.bl o.isSome, H, I', rfl, q⟩
theorem op_ninDic (hu : X.A.units + 1 < cLine) : OpR X (compareOp .NotIn) rDNin := by
  intro pins s σ H y x u v Q I ry rx h
  obtain ⟨a, o, rfl, dg, q⟩ := h
  cases rx
  exact d_notIn hu I dg ry fun s' I' => ⟨.bl (!o.isSome), H, I', rfl, q⟩
theorem lr_inD : LR2 E rDIn inD := by
  intro g H t u s v w Q zs h1 h2 e q
  cases u <;> simp only [inD] at e <;> try contradiction
  rename_i ks vs
  split at e
  · rename_i hk
    cases e
    obtain ⟨k, ek⟩ := isKey_of hk
    obtain ⟨a, kvs, rfl, ha, hks, rl⟩ := h2.dic_of
    have hv := h1.key ek
    obtain ⟨l1, l2⟩ := lookD_val ek hks rl
    refine ⟨a, valV kvs k, rfl, by rw [hv]; exact DGet.k ha, q _ ?_⟩
    cases el : lookD ks vs t with
    | none => rw [l2 el]; exact rt_bl _
    | some z =>
      obtain ⟨x, ex, _⟩ := l1 z el
      rw [ex]
      exact rt_bl _
  · cases e
theorem lr_ninD : LR2 E rDNin ninD := by
  intro g H t u s v w Q zs h1 h2 e q
  cases u <;> simp only [ninD] at e <;> try contradiction
  rename_i ks vs
  split at e
  · rename_i hk
    cases e
    obtain ⟨k, ek⟩ := isKey_of hk
    obtain ⟨a, kvs, rfl, ha, hks, rl⟩ := h2.dic_of
    have hv := h1.key ek
    obtain ⟨l1, l2⟩ := lookD_val ek hks rl
    refine ⟨a, valV kvs k, rfl, by rw [hv]; exact DGet.k ha, q _ ?_⟩
    cases el : lookD ks vs t with
    | none => rw [l2 el]; exact rt_bl _
    | some z =>
      obtain ⟨x, ex, _⟩ := l1 z el
      rw [ex]
      exact rt_bl _
  · cases e
/-- x in whatever it may be in -/
def inU (t u : T) : Option T := match u with
  | .dic _ _ => inD t u
  | _ => inT t u
def ninU (t u : T) : Option T := match u with
  | .dic _ _ => ninD t u
  | _ => ninT t u
def rInU (K : PySem.W.Frag) : R2 := fun x y H Q => rInA K x y H Q ∨ rDIn x y H Q
def rNinU (K : PySem.W.Frag) : R2 := fun x y H Q => rNinA K x y H Q ∨ rDNin x y H Q
theorem op_inU (hu : X.A.units + 65 < cLine) : OpR X (compareOp .In) (rInU X.K) := OpR.or (op_inA hu) (op_inDic (by omega))
theorem op_ninU (hu : X.A.units + 65 < cLine) : OpR X (compareOp .NotIn) (rNinU X.K) := OpR.or (op_ninA hu) (op_ninDic (by omega))
theorem lr_inU : LR2 E (rInU E.K) inU := by
  intro g H t u s v w Q zs h1 h2 e q
  cases u <;> first | exact .inl (lr_in g H t _ s v w Q zs h1 h2 e q) | exact .inr (lr_inD g H t _ s v w Q zs h1 h2 e q)
theorem lr_ninU : LR2 E (rNinU E.K) ninU := by
  intro g H t u s v w Q zs h1 h2 e q
  cases u <;> first | exact .inl (lr_nin g H t _ s v w Q zs h1 h2 e q) | exact .inr (lr_ninD g H t _ s v w Q zs h1 h2 e q)
/-- d[k] -/
def rIxD (K : PySem.W.Frag) : R2 := fun x y H Q => ∃ a v, x = .ref a ∧ DGet H a y (some v) ∧ Q v H
theorem ix_dic (hu : X.A.units + 1 < cLine) : IxR X (rIxD X.K) := by
  intro value slice pins s σ H x y v u Q I rx ry h hs
  obtain ⟨a, w, rfl, dg, q⟩ := h
  cases rx
  exact tail_any (dict_typeIs I dg) PySem.F.slot_dict_getitem.lookup (d_getItem hu I dg ry fun w' s3 I3 rw' => ⟨w, H, I3, rw', q⟩) hs
def ixU (t u : T) : Option T := match t with
  | .dic _ _ => getD' t u
  | _ => ixO t u
def rIxU (K : PySem.W.Frag) : R2 := fun x y H Q => rIx K x y H Q ∨ rIxD K x y H Q
theorem ix_U (hu : X.A.units + 1 < cLine) : IxR X (rIxU X.K) := IxR.or ix_seq (ix_dic hu)
theorem lr_ixD : LR2 E (rIxD E.K) getD' := by
  intro g H t u s v w Q zs h1 h2 e q
  cases t <;> simp only [getD'] at e <;> try contradiction
  rename_i ks vs
  split at e
  · rename_i hk
    obtain ⟨k, ek⟩ := isKey_of hk
    obtain ⟨a, kvs, rfl, ha, hks, rl⟩ := h1.dic_of
    have hv := h2.key ek
    obtain ⟨l1, l2⟩ := lookD_val ek hks rl
    obtain ⟨x, ex, rx⟩ := l1 s e
    refine ⟨a, x, rfl, ?_, q _ rx⟩
    have := DGet.k (k := k) ha
    rw [ex] at this
    rw [hv]
    exact this
  · cases e
theorem lr_ixU : LR2 E (rIxU E.K) ixU := by
  intro g H t u s v w Q zs h1 h2 e q
  cases t <;> first | exact .inl (lr_ix g H _ u s v w Q zs h1 h2 e q) | exact .inr (lr_ixD g H _ u s v w Q zs h1 h2 e q)
/-- d[k] = v -/
def putV : List T → List T → T → T → List T
  | k :: ks, v :: vs, q, t => (if kEq k q then t else v) :: putV ks vs q t
  | _, _, _, _ => []
def putD (ks vs : List T) (q t : T) : Ob := if ks.any (fun k => kEq k q) then .dct ks (putV ks vs q t) else .dct (ks ++ [q]) (vs ++ [t])
theorem putV_rep {K : PySem.W.Frag} {q t : T} {kq : Key} {x : V} (hq : keyOf q = some kq) (ht : RepT K g t x) : ∀ {ks vs : List T} {kvs : List (Key × V)}, ks.map keyOf = kvs.map (fun p => some p.1) → RepL K g vs (kvs.map (·.2)) →
    RepL K g (putV ks vs q t) ((kvs.map (fun kv => if kv.1 = kq then (kv.1, x) else kv)).map (·.2))
  | [], vs, [], _, _ => by unfold putV; exact .nil
  | [], vs, _ :: _, e, _ => by simp at e
  | _ :: _, vs, [], e, _ => by simp at e
  | k :: ks, vs, (kx, y) :: kvs, e, h => by
    rw [List.map_cons, List.map_cons] at e
    injection e with e1 e2
    rw [List.map_cons] at h
    cases vs with
    | nil => unfold RepL at h; cases h
    | cons v vs =>
      unfold RepL at h
      obtain ⟨z, r, ez, h1, h2⟩ := h
      injection ez with ez1 ez2
      subst ez2
      have ez1 : y = z := ez1
      subst ez1
      have ih := putV_rep hq ht e2 h2
      have ek := kEq_key e1 hq
      unfold putV
      rw [List.map_cons, List.map_cons]
      unfold RepL
      by_cases hk : kx = kq
      · have hd : kEq k q = true := by rw [ek]; exact decide_eq_true hk
        rw [if_pos hd, if_pos hk]
        exact ⟨x, _, rfl, ht, ih⟩
      · have hd : ¬ kEq k q = true := by rw [ek]; simp [hk]
        rw [if_neg hd, if_neg hk]
        exact ⟨y, _, rfl, h1, ih⟩
theorem any_key {q : T} {kq : Key} (hq : keyOf q = some kq) : ∀ {ks : List T} {kvs : List (Key × V)}, ks.map keyOf = kvs.map (fun p => some p.1) → (ks.any fun k => kEq k q) = kvs.any fun kv => decide (kv.1 = kq)
  | [], [], _ => rfl
  | [], _ :: _, e => by simp at e
  | _ :: _, [], e => by simp at e
  | k :: ks, (kx, y) :: kvs, e => by
    rw [List.map_cons, List.map_cons] at e
    injection e with e1 e2
    rw [List.any_cons, List.any_cons, any_key hq e2, kEq_key e1 hq]
theorem putD_rep {K : PySem.W.Frag} {q t : T} {kq : Key} {x : V} (hq : keyOf q = some kq) (ht : RepT K g t x) {ks vs : List T} {kvs : List (Key × V)} (e : ks.map keyOf = kvs.map (fun p => some p.1)) (h : RepL K g vs (kvs.map (·.2))) :
    RepO K g (putD ks vs q t) (some (.dK (putK kvs kq x))) := by
  unfold putD putK
  rw [any_key hq e]
  by_cases ha : (kvs.any fun kv => decide (kv.1 = kq)) = true
  · rw [if_pos ha, if_pos ha]
    refine ⟨_, rfl, ?_, putV_rep hq ht e h⟩
    rw [e, List.map_map]
    refine List.map_congr_left fun p _ => ?_
    show some p.1 = some (if p.1 = kq then (p.1, x) else p).1
    split <;> rfl
  · rw [if_neg ha, if_neg ha]
    refine ⟨_, rfl, ?_, ?_⟩
    · rw [List.map_append, List.map_append, e, List.map_singleton, hq]
      rfl
    · rw [List.map_append]
      exact h.app (.one ht)
def cPut (mp : M Plc) (mk mv : M T) : Cmd := do
  let t ← mv
  let pl ← mp
  let k ← mk
  fun st => match pl st with
    | some (.dct ks vs, set) => if isKey k = true ∧ ks.length ≤ 1000000 then some (.ok .nxt, set (putD ks vs k t)) else none
    | _ => none
theorem sm_put {o i value : Expr} {mp : M Plc} {mk mv : M T} {pos' : Pos} (hu : X.A.units + 1 < cLine) (ho : LM E X o mp) (hi : ME E X i mk) (hv : ME E X value mv) (hs : swapsWith value (some (.Subscript o i pos')) pos.line X.env = pure false := by rfl) :
    SM E X (.Assign [.Subscript o i pos'] value pos) (cPut mp mk mv) :=
  ⟨PS.mono (ps_dput hu ho.pe hi.pe hv.pe hs) fun D σ H ⟨g, q⟩ => sT q fun t v g1 H1 s1 rv h1 => sPl h1 fun pl w g2 H2 s2 pk h2 => sT h2 fun k x g3 H3 s3 rk h3 => by
    obtain ⟨st, r, z⟩ := h3
    unfold run at z
    cases ep : pl st with
    | none => simp only [ep] at z
    | some p =>
      obtain ⟨ob, set⟩ := p
      simp only [ep] at z
      cases ob with
      | dct ks vs =>
        simp only at z
        by_cases hk : isKey k = true ∧ ks.length ≤ 1000000
        · simp only [if_pos hk] at z
          obtain ⟨p, ev, ⟨kvs, ex, hks, rl⟩, put⟩ := pk g3 st H3 _ _ r s3 ep
          obtain ⟨kq, ek⟩ := isKey_of hk.1
          have ek2 : x = kV kq := RepK.key (E := E) (g := g3) (H := H3) (RepT.k r.zs rk) ek
          obtain ⟨r2, s4⟩ := put (putD ks vs k t) _ (putD_rep ek ((rv.step s2).step s3) hks rl)
          refine ⟨p, _, ev, ?_, z g3 _ _ r2 s4⟩
          rw [ek2]
          refine DPut.k ex ?_
          have hl : ks.length = kvs.length := by
            have := congrArg List.length hks
            simpa using this
          rw [← hl]
          exact lin hk.2
        · simp only [if_neg hk] at z
      | _ => exact z.elim⟩
end
end Sw
namespace Sw
open PySem PySem.Spec PyProof.Rows L2
open Classical

section
variable {E : Ev} {g g1 : Gh} {H H1 : Hp} {σ : L2.St} {X : Cx} {pos : Pos}
/-! ### operators that may lay something new -/
/-- as it was, or with one new thing that stands still -/
def Fx (g : Gh) (H : Hp) (g' : Gh) (H' : Hp) : Prop := (g' = g ∧ H' = H) ∨ ∃ p o, H p = none ∧ g' = g.frz p o ∧ H' = upd H p o
theorem Fx.rel {g' : Gh} {H' : Hp} {st : Stt} (x : Fx g H g' H') (r : Rel E.K g st σ H) : Rel E.K g' st σ H' ∧ Stp g g' H H' := by
  rcases x with ⟨rfl, rfl⟩ | ⟨p, o, hp, rfl, rfl⟩
  · exact ⟨r, Stp.refl _ _⟩
  · exact r.frz hp
def LRN (E : Ev) (r : R2) (f : T → T → Option T) : Prop := ∀ (g : Gh) (H : Hp) (t u s : T) (v w : V) (Q : VK), Same g.Z H → RepK E g H t v → RepK E g H u w → f t u = some s → (∀ g' H' x, Fx g H g' H' → RepT E.K g' s x → Q x H') → r v w H Q
theorem LR2.n {r : R2} {f : T → T → Option T} (h : LR2 E r f) : LRN E r f := fun g H t u s v w Q zs h1 h2 e q => h g H t u s v w Q zs h1 h2 e fun x rx => q g H x (.inl ⟨rfl, rfl⟩) rx
theorem tOpN_lift {r : R2} {f : T → T → Option T} {ma mb : M Rdr} (hl : LRN E r f) {Q : VK} (h : teM E (eOp2 f ma mb) σ H Q) : tOp r (toM E ma) (toM E mb) σ H Q := by
  obtain ⟨g, h⟩ := h
  refine seqO st_okT h fun ra v g1 H1 s1 rd1 h1 => seqO st_okT h1 fun rb w g2 H2 s2 rd2 h2 => ?_
  obtain ⟨a, b, k1, k2, h3⟩ := at_rd2 h2 (rd1.step s2) rd2
  obtain ⟨s, st, e, rl, z⟩ := at_ofO h3
  refine hl g2 H2 a b s v w Q rl.zs k1 k2 e fun g' H' x fx rx => ?_
  obtain ⟨r2, s3⟩ := fx.rel rl
  exact z g' H' r2 s3 x rx
theorem me_opN {op : Operator} {r : R2} {f : T → T → Option T} {a b : Expr} {ma mb : M Rdr} (ho : OpR X (binaryOp op) r) (hl : LRN E r f) (ha : OE E X a ma) (hb : OE E X b mb) : ME E X (.BinOp a op b pos) (eOp2 f ma mb) :=
  ⟨PE.mono (pe_op ho ha.pe hb.pe) fun _ _ _ h => tOpN_lift hl h⟩
theorem fx_fz {ts : List T} {xs : List V} {Q : VK} (zs : Same g.Z H) (rl : RepL E.K g ts xs) (q : ∀ g' H' x, Fx g H g' H' → RepT E.K g' (.fz ts) x → Q x H') : ∀ p, H p = none → Q (.ref p) (upd H p (.lst xs)) := fun p hp =>
  q _ _ _ (.inr ⟨p, .lst xs, hp, rfl, rfl⟩) (rep_fz hp zs rl)
theorem fx_tup {ts : List T} {xs : List V} {Q : VK} (zs : Same g.Z H) (rl : RepL E.K g ts xs) (q : ∀ g' H' x, Fx g H g' H' → RepT E.K g' (.tup ts) x → Q x H') : ∀ p, H p = none → Q (.ref p) (upd H p (.tup xs)) := fun p hp =>
  q _ _ _ (.inr ⟨p, .tup xs, hp, rfl, rfl⟩) (rep_tup hp zs rl)
/-- + of ints, texts, tuples, lists -/
def addU : T → T → Option T
  | .int i, .int j => some (.int (i + j))
  | .str x, .str y => if x.length + y.length ≤ 1000000 then some (.str (x ++ y)) else none
  | .tup ts, .tup us => if ts.length + us.length ≤ 1000000 then some (.tup (ts ++ us)) else none
  | .fz ts, .fz us => if ts.length + us.length ≤ 1000000 then some (.fz (ts ++ us)) else none
  | _, _ => none
def rAddU (K : PySem.W.Frag) : R2 := fun x y H Q => rAdd K x y H Q ∨ rCat x y H Q
theorem op_addU : OpR X (binaryOp .Add) (rAddU X.K) := OpR.or op_addA op_cat
theorem ln_add : LRN E (rAddU E.K) addU := by
  intro g H t u s v w Q zs h1 h2 e q
  cases t <;> cases u <;> simp only [addU] at e <;> try contradiction
  · exact .inl (lr_add g H _ _ s v w Q zs h1 h2 (by simpa only [addO] using e) fun x rx => q g H x (.inl ⟨rfl, rfl⟩) rx)
  · exact .inl (lr_add g H _ _ s v w Q zs h1 h2 (by simpa only [addO] using e) fun x rx => q g H x (.inl ⟨rfl, rfl⟩) rx)
  · split at e
    · rename_i hz
      cases e
      obtain ⟨a, xs, rfl, ha, rl⟩ := h1.tup_of
      obtain ⟨b, ys, rfl, hb, rl2⟩ := h2.tup_of
      refine .inl (.inr (.inr ⟨a, b, xs, ys, rfl, rfl, sameT zs ha, sameT zs hb, by rw [rl.len, rl2.len]; exact mil hz, fun hx => ?_, fun hx hy => ?_, fun _ _ => fx_tup zs (rl.app rl2) q⟩))
      · have e0 := rl.len
        rw [hx] at e0
        have e1 := List.eq_nil_of_length_eq_zero e0.symm
        subst e1
        refine q g H _ (.inl ⟨rfl, rfl⟩) ?_
        unfold RepT
        exact ⟨b, ys, rfl, hb, rl2⟩
      · have e0 := rl2.len
        rw [hy] at e0
        have e1 := List.eq_nil_of_length_eq_zero e0.symm
        subst e1
        rw [List.append_nil] at q
        refine q g H _ (.inl ⟨rfl, rfl⟩) ?_
        unfold RepT
        exact ⟨a, xs, rfl, ha, rl⟩
    · contradiction
  · split at e
    · rename_i hz
      cases e
      obtain ⟨a, xs, rfl, ha, rl⟩ := h1
      obtain ⟨b, ys, rfl, hb, rl2⟩ := h2
      exact .inr ⟨a, b, xs, ys, rfl, rfl, ha, hb, by rw [rl.len, rl2.len]; exact mil hz, fx_fz zs (rl.app rl2) q⟩
    · contradiction
/-- * of ints, of a text, of a list -/
def mulU (t u : T) : Option T := match t with
  | .int _ => mulO t u
  | .str _ => mulSO t u
  | .fz _ => (repO t u).map .fz
  | _ => none
def rMulU : R2 := fun x y H Q => rI CMul (fun i j => .int (i * j)) x y H Q ∨ rMulS x y H Q ∨ rRep x y H Q
theorem op_mulU : OpR X (binaryOp .Mult) rMulU := OpR.or op_mul (OpR.or op_mulS op_rep)
theorem ln_mul : LRN E rMulU mulU := by
  intro g H t u s v w Q zs h1 h2 e q
  cases t <;> simp only [mulU] at e <;> try contradiction
  · exact .inl (lr_mul g H _ _ s v w Q zs h1 h2 e fun x rx => q g H x (.inl ⟨rfl, rfl⟩) rx)
  · exact .inr (.inl (lr_mulS g H _ _ s v w Q zs h1 h2 e fun x rx => q g H x (.inl ⟨rfl, rfl⟩) rx))
  · rename_i ts
    cases er : repO (.fz ts) u with
    | none => rw [er] at e; cases e
    | some us =>
      rw [er] at e
      cases e
      exact .inr (.inr (lr_rep g H _ _ us v w Q zs h1 h2 er fun p xs hp rl => q _ _ _ (.inr ⟨p, .lst xs, hp, rfl, rfl⟩) (rep_fz hp zs rl)))
/-! ### slices of any kind, a list's one stands still -/
def eSliceU (m : M Rdr) (ml mh : M (Option Int)) : M T := do
  let r ← m
  let lo ← ml
  let hi ← mh
  fun st => match r st with
    | some (.str s) => if s.length ≤ 1000000 then some (.ok (.str (cutL s lo hi)), st) else none
    | some (.tup ts) => some (.ok (.tup (cutL ts lo hi)), st)
    | some (.fz ts) => some (.ok (.fz (cutL ts lo hi)), st)
    | some (.scr ns) => some (.ok (.fz ((cutL ns lo hi).map .int)), st)
    | _ => none
def rSlU (K : PySem.W.Frag) : V → Option Int → Option Int → Hp → VK → Prop := fun x lo hi H Q => rSlST K x lo hi H Q ∨ rSlL K x lo hi H Q
theorem sl_U : SlR X (rSlU X.K) := by
  intro pins s σ H x v vl vu lo hi sl Q I rx hs pl pu h
  rcases h with h | h
  · exact sl_st pins s σ H x v vl vu lo hi sl Q I rx hs pl pu h
  · exact sl_list pins s σ H x v vl vu lo hi sl Q I rx hs pl pu h
theorem me_sliceU {e : Expr} {lo hi : Option Expr} {p2 : Pos} {m : M Rdr} {ml mh : M (Option Int)} (hK : E.K = X.K) (he : OE E X e m) (hl : PM E X lo ml) (hh : PM E X hi mh) : ME E X (.Subscript e (.Slice lo hi none p2) pos) (eSliceU m ml mh) :=
  ⟨PE.mono (pe_slice sl_U he.pe hl.po hh.po) fun σ H Q ⟨g, q⟩ => seqO st_okT q fun rd v g1 H1 s1 rr h1 => seqP st_okT h1 fun l g2 H2 s2 h2 => seqP st_okT h2 fun u g3 H3 s3 h3 => by
    obtain ⟨st, r, z⟩ := h3
    unfold run at z
    cases e : rd st with
    | none => simp only [e] at z
    | some t =>
      simp only [e] at z
      cases t with
      | str s =>
        simp only at z
        by_cases hs : s.length ≤ 1000000
        · rw [if_pos hs] at z
          have ev := (rr g3 st H3 _ r (s2.trans s3) e).str_of
          subst ev
          refine .inl (.inl ⟨sS s, rfl, by rw [sS_len]; exact mil hs, ?_⟩)
          have q2 := z g3 H3 r (Stp.refl _ _) (.str (sS (cutL s l u))) (rt_str _)
          have ec : cutS (sS s) l u = sS (cutL s l u) := by
            unfold cutS cutL
            rw [sS_len, show (sS s).cps.toList = s by simp [sS]]
            rfl
          rw [ec]
          exact q2
        · rw [if_neg hs] at z
          exact z.elim
      | tup ts =>
        obtain ⟨a, xs, rfl, ha, rl⟩ := (rr g3 st H3 _ r (s2.trans s3) e).tup_of
        rw [hK] at ha
        refine .inl (.inr ⟨a, xs, rfl, sameT r.zs ha, fun hw => ?_, fun _ => new_tup z r (rl.cut _ _)⟩)
        refine z g3 H3 r (Stp.refl _ _) (.ref a) ?_
        rw [rl.len] at hw
        rw [HT.sIx_whole hw]
        unfold RepT
        rw [hK]
        exact ⟨a, xs, rfl, ha, by rw [← hK]; exact rl⟩
      | fz ts =>
        obtain ⟨a, xs, rfl, ha, rl⟩ := rr g3 st H3 _ r (s2.trans s3) e
        refine .inr ⟨a, xs, rfl, .inl (.inl ha), fun p hp => ?_⟩
        obtain ⟨r2, s4⟩ := r.frz (o := .lst (cutV xs l u)) hp
        exact z _ _ r2 s4 _ (rep_fz hp r.zs (rl.cut _ _))
      | scr ns =>
        have h : RepT E.K g3 (.scr ns) v := rr g3 st H3 _ r (s2.trans s3) e
        unfold RepT at h
        obtain ⟨a, ev, ha⟩ := h
        rw [hK] at ha
        refine .inr ⟨a, _, ev, r.zs.seq ha, fun p hp => ?_⟩
        rw [cutV_map]
        obtain ⟨r2, s4⟩ := r.frz (o := .lst ((cutL ns l u).map V.int)) hp
        exact z _ _ r2 s4 _ (rep_fz hp r.zs (rep_ints _))
      | _ => exact z.elim⟩

/-! ### what is walked: a list that stands still, or a boxed one that nobody changes -/
def lstAt (S : List Ob) : T → Option (List T)
  | .fz ts => some ts
  | .ref a => match S[a]? with
    | some (.lst ts) => some ts
    | _ => none
  | _ => none
theorem lstAt_rep {t : T} {v : V} (h : RepT E.K g t v) : (∃ ts st, lstAt st t = some ts) → ∃ a, v = .ref a ∧ ∀ g' st' σ' H' ts, Rel E.K g' st' σ' H' → GStp g g' → lstAt st'.S t = some ts → ∃ xs, H' a = some (.lst xs) ∧ RepL E.K g' ts xs := by
  rintro ⟨ts0, S0, e0⟩
  cases t with
  | fz us =>
    obtain ⟨a, xs, ev, hz, rl⟩ := h.fz_of
    refine ⟨a, ev, fun g' st' σ' H' ts r s e => ?_⟩
    cases e
    exact ⟨xs, r.zs _ _ (s.z _ _ hz), rl.gstep s⟩
  | ref b =>
    unfold RepT at h
    refine ⟨g.ρ b, h.2, fun g' st' σ' H' ts r s e => ?_⟩
    unfold lstAt at e
    cases eb : st'.S[b]? with
    | none => simp only [eb] at e; cases e
    | some ob =>
      simp only [eb] at e
      cases ob with
      | lst us =>
        cases e
        obtain ⟨_, xs, e1, e2⟩ := r.box b _ eb
        rw [s.ρ b h.1] at e1
        exact ⟨xs, e1, e2⟩
      | _ => cases e
  | _ => cases e0
def iU (m : M T) : M Itr := do
  let t ← m
  fun st => match t with
    | .tup ts => some (.ok ⟨ts, fun _ => True⟩, st)
    | .str s => some (.ok ⟨s.map fun c => .str [c], fun _ => True⟩, st)
    | t => match lstAt st.S t with
      | some ts => some (.ok ⟨ts, fun st' => lstAt st'.S t = some ts⟩, st)
      | none => none
theorem it_at {a : Addr} {t : T} {ts : List T} {l : List Nat} (k : ∀ g' st' σ' H' ts, Rel E.K g' st' σ' H' → GStp g g' → lstAt st'.S t = some ts → ∃ xs, H' a = some (.lst xs) ∧ RepL E.K g' ts xs) :
    ItOk E g σ l (Itl X.K a) ⟨ts, fun st' => lstAt st'.S t = some ts⟩ := by
  refine ⟨fun g' st' σ' H' i r s ch _ hi => ?_, fun g' st' σ' H' r s ch _ => ?_, fun g' st' σ' H' i x H2 r s ch _ hi y => ?_⟩
  · obtain ⟨xs, e, rl⟩ := k g' st' σ' H' ts r s ch
    obtain ⟨t, et⟩ := lt_get hi
    obtain ⟨x, ex, _⟩ := rl.get et
    exact ⟨xs, x, .inl (.inl e), ex⟩
  · obtain ⟨xs, e, rl⟩ := k g' st' σ' H' ts r s ch
    exact ⟨xs, .inl (.inl e), by rw [rl.len]; exact Nat.le_refl _⟩
  · obtain ⟨xs, e, rl⟩ := k g' st' σ' H' ts r s ch
    obtain ⟨t, et⟩ := lt_get hi
    obtain ⟨x', ex, rx⟩ := rl.get et
    obtain ⟨eH, y⟩ := y
    subst eH
    have e2 := y xs (.inl (.inl e))
    rw [ex] at e2
    cases e2
    exact ⟨g', t, r, Stp.refl _ _, et, rx⟩
theorem PI.or {tg e : Expr} {t t' : TI} (h : PI X tg e t) (h' : PI X tg e t') : PI X tg e (fun σ H R => t σ H R ∨ t' σ H R) := ⟨fun pins s σ H R I q => by
  rcases q with q | q
  · exact h.run pins s σ H R I q
  · exact h'.run pins s σ H R I q⟩
/-- what each way of walking wants of the value -/
theorem pi_lts {tg e : Expr} {te : TE} (he : PE X e te) : PI X tg e (fun σ H R => te σ H fun x H1 => (∃ a, x = .ref a ∧ (∃ xs, SqL X.K H1 a xs) ∧ R (Itl X.K a) H1) ∨ (∃ a, x = .ref a ∧ (∃ xs, SqT X.K H1 a xs) ∧ R (Itt X.K a) H1) ∨ (∃ z, x = .str z ∧ R (Its z) H1)) := by
  refine ⟨fun pins s σ H R I h => ?_⟩
  refine thn (he.run pins s σ H _ I h) fun v s1 ⟨x, H1, I1, r1, q1⟩ => ?_
  rcases q1 with ⟨a, e, ⟨xs, hq⟩, q⟩ | ⟨a, e, ⟨xs, hq⟩, q⟩ | ⟨z, e, q⟩
  · subst e
    cases r1
    obtain ⟨its, rv, p, hz⟩ := I1.list hq
    refine wpAny_pyIter_list p.isList ?_
    refine ⟨s1.heap.objs.size, [s1.heap.objs.size], _, _, H1, rfl, I1.kept (t' := s1.toks) fun b o e => Heap.get?_push_of_some _ e, turn_list a _, ⟨_, Heap.get?_push_size _ rfl, rfl, rfl⟩, fun b hb => ?_, q⟩
    have e : b = s1.heap.objs.size := by simpa using hb
    subst e
    exact I1.fpOk (Nat.le_refl _) (I1.hok.fresh (Nat.le_refl _))
  · subst e
    cases r1
    obtain ⟨its, rv, p, hz⟩ := I1.tuple hq
    refine wpAny_pyIter_tuple (show s1.heap.IsTuple a its.toArray from p) ?_
    refine ⟨s1.heap.objs.size, [s1.heap.objs.size], _, _, H1, rfl, I1.kept (t' := s1.toks) fun b o e => Heap.get?_push_of_some _ e, turn_tuple a _, ⟨_, Heap.get?_push_size _ rfl, rfl, rfl⟩, fun b hb => ?_, q⟩
    have e : b = s1.heap.objs.size := by simpa using hb
    subst e
    exact I1.fpOk (Nat.le_refl _) (I1.hok.fresh (Nat.le_refl _))
  · subst e
    obtain ⟨t, rfl⟩ := r1
    cases ha : z.cps.all (· < 128)
    · exact wpAny_pyIter_wide ha (pi_one (tk := s1.toks) I1 _ (turn_str _ z t "str_iterator" (.inr rfl)) ⟨_, Heap.get?_push_size _ rfl, rfl, rfl⟩ q)
    · exact wpAny_pyIter_ascii ha (pi_one (tk := s1.toks) I1 _ (turn_str _ z t "str_ascii_iterator" (.inl rfl)) ⟨_, Heap.get?_push_size _ rfl, rfl, rfl⟩ q)
theorem it_tup {a : Addr} {xs : List V} {ts : List T} {l : List Nat} (hz : SqT X.K g.Z a xs) (rl : RepL E.K g ts xs) : ItOk E g σ l (Itt X.K a) ⟨ts, fun _ => True⟩ := by
  have sq : ∀ {g' st' σ' H'}, Rel E.K g' st' σ' H' → GStp g g' → SqT X.K H' a xs := fun r s => sameT r.zs (sameT s.z hz)
  refine ⟨fun g' st' σ' H' i r s _ _ hi => ?_, fun g' st' σ' H' r s _ _ => ⟨xs, sq r s, by rw [rl.len]; exact Nat.le_refl _⟩, fun g' st' σ' H' i x H2 r s _ _ hi y => ?_⟩
  · obtain ⟨t, e⟩ := lt_get hi
    obtain ⟨x, ex, _⟩ := rl.get e
    exact ⟨xs, x, sq r s, ex⟩
  · obtain ⟨t, e⟩ := lt_get hi
    obtain ⟨x', ex, rx⟩ := rl.get e
    obtain ⟨eH, y⟩ := y
    subst eH
    have e2 := y xs (sq r s)
    rw [ex] at e2
    cases e2
    exact ⟨g', t, r, Stp.refl _ _, e, rx.gstep s⟩
theorem it_str {s : List Nat} {l : List Nat} : ItOk E g σ l (Its (sS s)) ⟨s.map fun c => .str [c], fun _ => True⟩ := by
  have hz : (sS s).cps.size = s.length := by simp [sS]
  refine ⟨fun g' st' σ' H' i r s' _ _ hi => ?_, fun g' st' σ' H' r s' _ _ => ?_, fun g' st' σ' H' i x H2 r s' _ _ hi y => ?_⟩
  · show i < (sS s).cps.size
    rw [hz]
    simpa using hi
  · show (sS s).cps.size ≤ _
    rw [hz]
    simp
  · obtain ⟨e1, c, e2, e3⟩ := y
    subst e1
    subst e3
    have e2 : s[i]? = some c := by simpa [sS] using e2
    exact ⟨g', .str [c], r, Stp.refl _ _, by simp [e2], rt_str _⟩
theorem im_u {tg e : Expr} {l : List Nat} {m : M T} (hK : E.K = X.K) (h : ME E X e m) : IM E l X tg e (iU m) :=
  ⟨PI.mono (pi_lts h.pe) fun σ H R ⟨g, q⟩ => seqT st_okI q fun t v g1 H1 s1 rv h1 => by
    obtain ⟨st, r, z⟩ := h1
    unfold run at z
    have gen : ∀ ts, lstAt st.S t = some ts → (∀ J, ItOk E g1 σ l J ⟨ts, fun st' => lstAt st'.S t = some ts⟩ → R J H1) → ∃ a, v = .ref a ∧ (∃ xs, SqL X.K H1 a xs) ∧ R (Itl X.K a) H1 := fun ts e k => by
      obtain ⟨a, ev, ka⟩ := lstAt_rep rv ⟨ts, _, e⟩
      obtain ⟨xs, ex, rl⟩ := ka g1 st σ H1 ts r ⟨Same.refl _, Nat.le_refl _, fun _ _ => rfl⟩ e
      exact ⟨a, ev, ⟨xs, .inl (.inl ex)⟩, k _ (it_at ka)⟩
    cases t with
    | tup ts =>
      obtain ⟨a, xs, e, hz, rl⟩ := rv.tup_of
      rw [hK] at hz
      exact .inr (.inl ⟨a, e, ⟨xs, sameT r.zs hz⟩, z g1 H1 r (Stp.refl _ _) _ (it_tup hz rl)⟩)
    | str s => exact .inr (.inr ⟨sS s, rv.str_of, z g1 H1 r (Stp.refl _ _) _ it_str⟩)
    | fz ts => exact .inl (gen ts rfl fun J ok => z g1 H1 r (Stp.refl _ _) J ok)
    | ref a =>
      simp only at z
      cases el : lstAt st.S (.ref a) with
      | none => simp only [el] at z
      | some ts =>
        simp only [el] at z
        exact .inl (gen ts el fun J ok => z g1 H1 r (Stp.refl _ _) J ok)
    | non => exact z.elim
    | bl _ => exact z.elim
    | int _ => exact z.elim
    | ty _ => exact z.elim
    | scr _ => exact z.elim
    | dic _ _ => exact z.elim⟩
/-- enumerate of such a list -/
def iEnumU (m : M (List T)) : M Itr := do
  match ← m with
  | [t] => fun st => match lstAt st.S t with
    | some ts => some (.ok ⟨enumT ts, fun st' => lstAt st'.S t = some ts⟩, st)
    | none => none
  | _ => stuck
theorem it_enumU {a : Addr} {t : T} {ts : List T} {l : List Nat} (k : ∀ g' st' σ' H' ts, Rel E.K g' st' σ' H' → GStp g g' → lstAt st'.S t = some ts → ∃ xs, H' a = some (.lst xs) ∧ RepL E.K g' ts xs) :
    ItOk E g σ l (Ite X.K a) ⟨enumT ts, fun st' => lstAt st'.S t = some ts⟩ := by
  have hlen : (enumT ts).length = ts.length := by simp [enumT]
  refine ⟨fun g' st' σ' H' i r s ch _ hi => ?_, fun g' st' σ' H' r s ch _ => ?_, fun g' st' σ' H' i x H2 r s ch _ hi y => ?_⟩
  · obtain ⟨xs, e, rl⟩ := k g' st' σ' H' ts r s ch
    have hi : i < ts.length := by rw [← hlen]; exact hi
    obtain ⟨t, et⟩ := lt_get hi
    obtain ⟨x, ex, _⟩ := rl.get et
    exact ⟨xs, x, .inl (.inl e), ex⟩
  · obtain ⟨xs, e, rl⟩ := k g' st' σ' H' ts r s ch
    exact ⟨xs, .inl (.inl e), by rw [rl.len, ← hlen]; exact Nat.le_refl _⟩
  · obtain ⟨xs, e, rl⟩ := k g' st' σ' H' ts r s ch
    have hi : i < ts.length := by rw [← hlen]; exact hi
    obtain ⟨t, et⟩ := lt_get hi
    obtain ⟨x', ex, rx⟩ := rl.get et
    obtain ⟨p, z, e1, hp, e2, y⟩ := y
    have e3 := y xs (.inl (.inl e))
    rw [ex] at e3
    cases e3
    obtain ⟨r2, s2⟩ := r.frz (o := .tup [.int (i : Nat), x']) hp
    rw [e1, e2]
    exact ⟨_, .tup [.int (i : Nat), t], r2, s2, by simp [enumT, et], rep_tup hp r.zs (.two (rt_int _) rx)⟩
theorem im_enumU {l : List Nat} {e : Expr} {m : M (List T)} {p tpos : Pos} {elts : List Expr} {kk : Nat} (hg : Gl X "enumerate") (hm : X.mg "enumerate" = none) (ha : AM E X [e] m) (hs : starEach [e] X.env = [(false, eval e X.env)] := by rfl) :
    IM E l X (.Tuple elts kk tpos) (.Call (.Name "enumerate" p) [e] [] pos) (iEnumU m) :=
  ⟨PI.mono (pi_enum hg hm ha.pa hs) fun σ H R ⟨g, q⟩ => ⟨g, seq_any (Φ := fun g H => okI E l g H σ R) st_okI q fun ts st1 k g1 H1 r1 s1 vs rl => by
    have h1 := k g1 H1 r1 s1
    match ts, h1 with
    | [t], h1 =>
      obtain ⟨st, r, z⟩ := h1
      unfold run at z
      simp only at z
      cases el : lstAt st.S t with
      | none => simp only [el] at z
      | some us =>
        simp only [el] at z
        obtain ⟨v, e, rv⟩ := rl.one_of
        obtain ⟨a, ev, ka⟩ := lstAt_rep rv ⟨us, _, el⟩
        obtain ⟨xs, ex, _⟩ := ka g1 st σ H1 us r ⟨Same.refl _, Nat.le_refl _, fun _ _ => rfl⟩ el
        exact ⟨a, xs, by rw [e, ev], .inl (.inl ex), z g1 H1 r (Stp.refl _ _) _ (it_enumU ka)⟩
    | [], h1 => obtain ⟨_, _, z⟩ := h1; exact z.elim
    | _ :: _ :: _, h1 => obtain ⟨_, _, z⟩ := h1; exact z.elim⟩⟩
/-- zip of two such lists, or of two tuples -/
def iZipU (m : M (List T)) : M Itr := do
  match ← m with
  | [t, u] => fun st => match t, u with
    | .tup ts, .tup us => some (.ok ⟨zipT ts us, fun _ => True⟩, st)
    | t, u => match lstAt st.S t, lstAt st.S u with
      | some ts, some us => some (.ok ⟨zipT ts us, fun st' => lstAt st'.S t = some ts ∧ lstAt st'.S u = some us⟩, st)
      | _, _ => none
  | _ => stuck
theorem it_zipT {a b : Addr} {xs ys : List V} {ts us : List T} {l : List Nat} (hx : SqT X.K g.Z a xs) (hy : SqT X.K g.Z b ys) (rl : RepL E.K g ts xs) (rl2 : RepL E.K g us ys) (hK : E.K = X.K) :
    ItOk E g σ l (RZ.ItzT X.K a b) ⟨zipT ts us, fun _ => True⟩ := by
  have hlen : (zipT ts us).length = min ts.length us.length := by simp [zipT]
  have sq : ∀ {g' st' σ' H'}, Rel E.K g' st' σ' H' → GStp g g' → SqT X.K H' a xs ∧ SqT X.K H' b ys := fun r s => ⟨sameT r.zs (sameT s.z hx), sameT r.zs (sameT s.z hy)⟩
  refine ⟨fun g' st' σ' H' i r s _ _ hi => ?_, fun g' st' σ' H' r s _ _ => ?_, fun g' st' σ' H' i v H2 r s _ _ hi q => ?_⟩
  · have hi : i < min ts.length us.length := by rw [← hlen]; exact hi
    obtain ⟨t, e⟩ := lt_get (show i < ts.length by omega)
    obtain ⟨x, ex, _⟩ := rl.get e
    obtain ⟨t, e⟩ := lt_get (show i < us.length by omega)
    obtain ⟨y, ey, _⟩ := rl2.get e
    exact ⟨xs, ys, x, y, (sq r s).1, (sq r s).2, ex, ey⟩
  · refine ⟨xs, ys, (sq r s).1, (sq r s).2, ?_⟩
    show xs.length ≤ (zipT ts us).length ∨ ys.length ≤ (zipT ts us).length
    rw [hlen, rl.len, rl2.len]
    omega
  · have hi : i < min ts.length us.length := by rw [← hlen]; exact hi
    obtain ⟨t, e⟩ := lt_get (show i < ts.length by omega)
    obtain ⟨x', ex, rx⟩ := rl.get e
    obtain ⟨u, e'⟩ := lt_get (show i < us.length by omega)
    obtain ⟨y', ey, ry⟩ := rl2.get e'
    obtain ⟨p, z, z2, e1, hp, e2, yx, yy⟩ := q
    have e3 := yx xs (sq r s).1
    rw [ex] at e3
    cases e3
    have e4 := yy ys (sq r s).2
    rw [ey] at e4
    cases e4
    obtain ⟨r2, s2⟩ := r.frz (o := .tup [x', y']) hp
    rw [e1, e2]
    refine ⟨_, .tup [t, u], r2, s2, ?_, rep_tup hp r.zs (.two (rx.gstep s) (ry.gstep s))⟩
    have ez : (ts.zip us)[i]? = some (t, u) := List.getElem?_zip_eq_some.mpr ⟨e, e'⟩
    show ((ts.zip us).map _)[i]? = _
    rw [List.getElem?_map, ez]
    rfl
theorem it_zipU {a b : Addr} {t u : T} {ts us : List T} {l : List Nat} (k : ∀ g' st' σ' H' ts, Rel E.K g' st' σ' H' → GStp g g' → lstAt st'.S t = some ts → ∃ xs, H' a = some (.lst xs) ∧ RepL E.K g' ts xs)
    (k2 : ∀ g' st' σ' H' ts, Rel E.K g' st' σ' H' → GStp g g' → lstAt st'.S u = some ts → ∃ xs, H' b = some (.lst xs) ∧ RepL E.K g' ts xs) :
    ItOk E g σ l (Itz X.K a b) ⟨zipT ts us, fun st' => lstAt st'.S t = some ts ∧ lstAt st'.S u = some us⟩ := by
  have hlen : (zipT ts us).length = min ts.length us.length := by simp [zipT]
  refine ⟨fun g' st' σ' H' i r s ch _ hi => ?_, fun g' st' σ' H' r s ch _ => ?_, fun g' st' σ' H' i x H2 r s ch _ hi y => ?_⟩
  · obtain ⟨xs, e1, rl⟩ := k g' st' σ' H' ts r s ch.1
    obtain ⟨ys, e2, rl2⟩ := k2 g' st' σ' H' us r s ch.2
    have hi : i < min ts.length us.length := by rw [← hlen]; exact hi
    obtain ⟨t, e⟩ := lt_get (show i < ts.length by omega)
    obtain ⟨x, ex, _⟩ := rl.get e
    obtain ⟨t, e⟩ := lt_get (show i < us.length by omega)
    obtain ⟨y, ey, _⟩ := rl2.get e
    exact ⟨xs, ys, x, y, .inl (.inl e1), .inl (.inl e2), ex, ey⟩
  · obtain ⟨xs, e1, rl⟩ := k g' st' σ' H' ts r s ch.1
    obtain ⟨ys, e2, rl2⟩ := k2 g' st' σ' H' us r s ch.2
    refine ⟨xs, ys, .inl (.inl e1), .inl (.inl e2), ?_⟩
    show xs.length ≤ (zipT ts us).length ∨ ys.length ≤ (zipT ts us).length
    rw [hlen, rl.len, rl2.len]
    omega
  · obtain ⟨xs, q1, rl⟩ := k g' st' σ' H' ts r s ch.1
    obtain ⟨ys, q2, rl2⟩ := k2 g' st' σ' H' us r s ch.2
    have hi : i < min ts.length us.length := by rw [← hlen]; exact hi
    obtain ⟨t, e⟩ := lt_get (show i < ts.length by omega)
    obtain ⟨x', ex, rx⟩ := rl.get e
    obtain ⟨u, e'⟩ := lt_get (show i < us.length by omega)
    obtain ⟨y', ey, ry⟩ := rl2.get e'
    obtain ⟨p, z, z2, e1, hp, e2, yx, yy⟩ := y
    have e3 := yx xs (.inl (.inl q1))
    rw [ex] at e3
    cases e3
    have e4 := yy ys (.inl (.inl q2))
    rw [ey] at e4
    cases e4
    obtain ⟨r2, s2⟩ := r.frz (o := .tup [x', y']) hp
    rw [e1, e2]
    refine ⟨_, .tup [t, u], r2, s2, ?_, rep_tup hp r.zs (.two rx ry)⟩
    have ez : (ts.zip us)[i]? = some (t, u) := List.getElem?_zip_eq_some.mpr ⟨e, e'⟩
    simp only [zipT]
    rw [List.getElem?_map, ez]
    rfl
theorem im_zipU (hK : E.K = X.K) {l : List Nat} {e e2 : Expr} {m : M (List T)} {p tpos : Pos} {elts : List Expr} {kk : Nat} (hg : Gl X "zip") (hm : X.mg "zip" = none) (ha : AM E X [e, e2] m)
    (hs : starEach [e, e2] X.env = (false, eval e X.env) :: starEach [e2] X.env := by rfl) (hpl : (backTo pos (starEach [e2] X.env)).any (·.1) = false := by rfl) :
    IM E l X (.Tuple elts kk tpos) (.Call (.Name "zip" p) [e, e2] [] pos) (iZipU m) :=
  ⟨PI.mono (RZ.pi_zipA hg hm ha.pa hs hpl) fun σ H R ⟨g, q⟩ => ⟨g, seq_any (Φ := fun g H => okI E l g H σ R) st_okI q fun ts st1 k g1 H1 r1 s1 vs rl => by
    have h1 := k g1 H1 r1 s1
    match ts, h1 with
    | [t, u], h1 =>
      obtain ⟨st, r, z⟩ := h1
      have lists : run (fun st => match lstAt st.S t, lstAt st.S u with
          | some ts, some us => some (.ok (⟨zipT ts us, fun st' => lstAt st'.S t = some ts ∧ lstAt st'.S u = some us⟩ : Itr), st)
          | _, _ => none : M Itr) st (okI E l g1 H1 σ R) (exW E g1 H1 σ) → ∃ a b xs ys, vs = [.ref a, .ref b] ∧ ((SqL X.K H1 a xs ∧ SqL X.K H1 b ys ∧ R (Itz X.K a b) H1) ∨ (SqT X.K H1 a xs ∧ SqT X.K H1 b ys ∧ R (RZ.ItzT X.K a b) H1)) := fun z => by
        unfold run at z
        dsimp only at z
        cases e1 : lstAt st.S t with
        | none => simp only [e1] at z
        | some us =>
          cases e2 : lstAt st.S u with
          | none => simp only [e1, e2] at z
          | some ws =>
            simp only [e1, e2] at z
            obtain ⟨v, w, e, rv, rw'⟩ := rl.two_of
            obtain ⟨a, ev, ka⟩ := lstAt_rep rv ⟨us, _, e1⟩
            obtain ⟨b, ew, kb⟩ := lstAt_rep rw' ⟨ws, _, e2⟩
            obtain ⟨xs, ex, _⟩ := ka g1 st σ H1 us r ⟨Same.refl _, Nat.le_refl _, fun _ _ => rfl⟩ e1
            obtain ⟨ys, ey, _⟩ := kb g1 st σ H1 ws r ⟨Same.refl _, Nat.le_refl _, fun _ _ => rfl⟩ e2
            exact ⟨a, b, xs, ys, by rw [e, ev, ew], .inl ⟨.inl (.inl ex), .inl (.inl ey), z g1 H1 r (Stp.refl _ _) _ (it_zipU ka kb)⟩⟩
      by_cases ht : ∃ ts us, t = .tup ts ∧ u = .tup us
      · obtain ⟨ts, us, rfl, rfl⟩ := ht
        obtain ⟨v, w, e, rv, rw'⟩ := rl.two_of
        obtain ⟨a, xs, ea, hx, rl1⟩ := rv.tup_of
        obtain ⟨b, ys, eb, hy, rl2⟩ := rw'.tup_of
        rw [hK] at hx hy
        exact ⟨a, b, xs, ys, by rw [e, ea, eb], .inr ⟨sameT r.zs hx, sameT r.zs hy, z g1 H1 r (Stp.refl _ _) _ (it_zipT hx hy rl1 rl2 hK)⟩⟩
      · refine lists ?_
        cases t <;> first | exact z | (cases u <;> first | exact z | exact (ht ⟨_, _, rfl, rfl⟩).elim)
    | [], h1 => obtain ⟨_, _, z⟩ := h1; exact z.elim
    | [_], h1 => obtain ⟨_, _, z⟩ := h1; exact z.elim
    | _ :: _ :: _ :: _, h1 => obtain ⟨_, _, z⟩ := h1; exact z.elim⟩⟩
end
end Sw
namespace Sw
open PySem PySem.Spec PyProof.Rows L2
open Classical

/-- what every rule asks of its surroundings -/
structure Gd (E : Ev) (X : Cx) : Prop where
  K : E.K = X.K
  hu : X.A.units + 65 < cLine
  calm : X.calm = true
  nd : X.N.Nodup
  tk : Takes X E.W
  rx : RXok E.RX
section
variable {E : Ev} {X : Cx} {pos : Pos}
theorem Gd.blk (G : Gd E X) {s : Shared} {H : Hp} {scope : Scope} {cenv : Env} {fp : List Addr} : Gd E.nox (X.blk s H scope cenv fp) :=
  ⟨G.K, G.hu, G.calm, G.nd, takes0, G.rx⟩
/-! ### names -/
section
variable {x : Str} {p : Pos}
theorem ev (i : Nat) (hN : X.N[i]? = some x := by rfl) (hv : Vis X.env.scope x := by first | exact Or.inl rfl | exact Or.inr (Or.inl rfl) | exact Or.inr (Or.inr rfl)) (hd : (x == ("__debug__" : Str)) = false := by decide)
    (hcd : (x == ("__classdict__" : Str)) = false := by decide) : ME E X (.Name x p) (eVar i) := me_var (pe_var hN hv hd hcd)
theorem ov (i : Nat) (hN : X.N[i]? = some x := by rfl) (hv : Vis X.env.scope x := by first | exact Or.inl rfl | exact Or.inr (Or.inl rfl) | exact Or.inr (Or.inr rfl)) (hd : (x == ("__debug__" : Str)) = false := by decide)
    (hcd : (x == ("__classdict__" : Str)) = false := by decide) : OE E X (.Name x p) (oVar i) := oe_var (pe_var hN hv hd hcd)
theorem fv (i : Nat) (hN : X.N[i]? = some x := by rfl) (hv : Vis X.env.scope x := by first | exact Or.inl rfl | exact Or.inr (Or.inl rfl) | exact Or.inr (Or.inr rfl)) (hd : (x == ("__debug__" : Str)) = false := by decide)
    (hcd : (x == ("__classdict__" : Str)) = false := by decide) : ME E X (.Name x p) (eFrz i) := me_frz (pe_var hN hv hd hcd)
theorem lv (i : Nat) (hN : X.N[i]? = some x := by rfl) (hv : Vis X.env.scope x := by first | exact Or.inl rfl | exact Or.inr (Or.inl rfl) | exact Or.inr (Or.inr rfl)) (hd : (x == ("__debug__" : Str)) = false := by decide)
    (hcd : (x == ("__classdict__" : Str)) = false := by decide) : LM E X (.Name x p) (mVar i) := lm_var (pe_var hN hv hd hcd)
theorem iv {tg : Expr} (i : Nat) (hN : X.N[i]? = some x := by rfl) (hv : Vis X.env.scope x := by first | exact Or.inl rfl | exact Or.inr (Or.inl rfl) | exact Or.inr (Or.inr rfl)) (hd : (x == ("__debug__" : Str)) = false := by decide)
    (hcd : (x == ("__classdict__" : Str)) = false := by decide) : IM E [i] X tg (.Name x p) (iVar i) := im_var (pe_var hN hv hd hcd)
theorem gn (G : Gd E X) (i : Nat) (hi : X.N[i]? = some x := by rfl) (hx : Loc X.env.scope x := by first | exact .inl rfl | exact .inr rfl) (hf : X.fn x = true ∨ X.env.scope.names.lookup x = some .local := by first | exact .inl rfl | exact .inr rfl) : GM E X (.Name x p) (.nm i) := gm_name G.nd hi hx hf
theorem s_set (G : Gd E X) (i : Nat) {e : Expr} {m : M T} {pos' : Pos} (he : ME E X e m) (hi : X.N[i]? = some x := by rfl) (hx : Loc X.env.scope x := by first | exact .inl rfl | exact .inr rfl) (hs : swapsWith e (some (.Name x pos')) pos.line X.env = pure false := by rfl) (hf : X.fn x = true ∨ X.env.scope.names.lookup x = some .local := by first | exact .inl rfl | exact .inr rfl) :
    SM E X (.Assign [.Name x pos'] e pos) (cSet i m) := sm_set G.nd hi hx he hs hf
theorem s_own (G : Gd E X) (i : Nat) {e : Expr} {m : M Ob} {pos' : Pos} (he : FE E X e m) (hi : X.N[i]? = some x := by rfl) (hx : Loc X.env.scope x := by first | exact .inl rfl | exact .inr rfl) (hs : swapsWith e (some (.Name x pos')) pos.line X.env = pure false := by rfl) (hf : X.fn x = true ∨ X.env.scope.names.lookup x = some .local := by first | exact .inl rfl | exact .inr rfl) :
    SM E X (.Assign [.Name x pos'] e pos) (cOwn i m) := sm_own G.nd hi hx he hs hf
end
section
variable {a b c e : Expr} {ma mb mc : M Rdr}
theorem x_add (G : Gd E X) (ha : OE E X a ma) (hb : OE E X b mb) : ME E X (.BinOp a .Add b pos) (eOp2 addU ma mb) := me_opN op_addU (G.K ▸ ln_add) ha hb
theorem x_mul (ha : OE E X a ma) (hb : OE E X b mb) : ME E X (.BinOp a .Mult b pos) (eOp2 mulU ma mb) := me_opN op_mulU ln_mul ha hb
theorem x_sub (ha : OE E X a ma) (hb : OE E X b mb) : ME E X (.BinOp a .Sub b pos) (eOp2 subO ma mb) := me_op op_sub lr_sub ha hb
theorem x_div (ha : OE E X a ma) (hb : OE E X b mb) : ME E X (.BinOp a .FloorDiv b pos) (eOp2 divO ma mb) := me_op op_fdivW lr_div ha hb
theorem x_mod (ha : OE E X a ma) (hb : OE E X b mb) : ME E X (.BinOp a .Mod b pos) (eOp2 modO ma mb) := me_op op_mod lr_mod ha hb
theorem x_pow (ha : OE E X a ma) (hb : OE E X b mb) : ME E X (.BinOp a .Pow b pos) (eOp2 powO ma mb) := me_op op_pow lr_pow ha hb
theorem x_ix (G : Gd E X) (ha : OE E X a ma) (hb : OE E X b mb) (hs : PlainIx b := by exact fun _ _ => rfl) : ME E X (.Subscript a b pos) (eOp2 ixU ma mb) := me_ix (ix_U (by have := G.hu; omega)) (G.K ▸ lr_ixU) ha hb hs
/-- the comparisons, with their rules -/
structure CmpOk (E : Ev) (X : Cx) (op : CmpOp) (f : T → T → Option T) : Prop where
  ex : ∃ r, OpR X (compareOp op) r ∧ LR2 E r f
theorem k_eq (G : Gd E X) : CmpOk E X .Eq eqT := ⟨_, op_eqD (by have := G.hu; omega), G.K ▸ lr_eq⟩
theorem k_ne (G : Gd E X) : CmpOk E X .NotEq neT := ⟨_, op_neD (by have := G.hu; omega), G.K ▸ lr_ne⟩
theorem k_lt (G : Gd E X) : CmpOk E X .Lt ltO := ⟨_, op_lt, lr_lt⟩
theorem k_le (G : Gd E X) : CmpOk E X .LtE leO := ⟨_, op_le, lr_le⟩
theorem k_gt (G : Gd E X) : CmpOk E X .Gt gtO := ⟨_, op_gt, lr_gt⟩
theorem k_ge (G : Gd E X) : CmpOk E X .GtE geO := ⟨_, op_ge, lr_ge⟩
theorem k_in (G : Gd E X) : CmpOk E X .In inU := ⟨_, op_inU G.hu, G.K ▸ lr_inU⟩
theorem k_nin (G : Gd E X) : CmpOk E X .NotIn ninU := ⟨_, op_ninU G.hu, G.K ▸ lr_ninU⟩
theorem k_isN (G : Gd E X) : CmpOk E X .Is isNO := ⟨_, op_isN, lr_isN⟩
theorem k_notN (G : Gd E X) : CmpOk E X .IsNot notNO := ⟨_, op_notN, lr_notN⟩
theorem k_isB (G : Gd E X) : CmpOk E X .Is isBO := ⟨_, op_isBl, lr_isB⟩
theorem k_notB (G : Gd E X) : CmpOk E X .IsNot notBO := ⟨_, op_notBl, lr_notB⟩
theorem x_cmp {op : CmpOp} {f : T → T → Option T} (k : CmpOk E X op f) (ha : OE E X a ma) (hb : OE E X b mb) (hm : behindInMarks op b = false := by rfl) : ME E X (.Compare a [op] [b] pos) (eOp2 f ma mb) :=
  let ⟨_, ho, hl⟩ := k.ex; me_cmp ho hl ha hb hm
theorem t_cmp {op : CmpOp} {f : T → T → Option T} (k : CmpOk E X op f) (ha : OE E X a ma) (hb : OE E X b mb) (hm : behindInMarks op b = false := by rfl) : TM E X (.Compare a [op] [b] pos) (asB (eOp2 f ma mb)) :=
  let ⟨_, ho, hl⟩ := k.ex; tm_cmp ho hl ha hb hm
theorem x_chain {op op' : CmpOp} {f f' : T → T → Option T} (k : CmpOk E X op f) (k' : CmpOk E X op' f') (ha : OE E X a ma) (hb : OE E X b mb) (hc : OE E X c mc) (hm : lastMarks [op, op'] [b, c] = false := by with_unfolding_all rfl) : ME E X (.Compare a [op, op'] [b, c] pos) (eChain f f' ma mb mc) :=
  let ⟨_, ho, hl⟩ := k.ex; let ⟨_, ho', hl'⟩ := k'.ex; me_chain ho ho' hl hl' ha hb hc hm
theorem t_chain {op op' : CmpOp} {f f' : T → T → Option T} (k : CmpOk E X op f) (k' : CmpOk E X op' f') (ha : OE E X a ma) (hb : OE E X b mb) (hc : OE E X c mc) (hm : lastMarks [op, op'] [b, c] = false := by with_unfolding_all rfl) : TM E X (.Compare a [op, op'] [b, c] pos) (asB (eChain f f' ma mb mc)) :=
  let ⟨_, ho, hl⟩ := k.ex; let ⟨_, ho', hl'⟩ := k'.ex; tm_chain ho ho' hl hl' ha hb hc hm
/-- built-ins by their names -/
structure BiOk (E : Ev) (X : Cx) (f : List T → Option T) (fv : Value) : Prop where
  ex : ∃ r, CallR X fv r ∧ LRC E r f
theorem b_len (G : Gd E X) : BiOk E X lenO (.builtin "len") := ⟨_, call_len, G.K ▸ lr_len⟩
theorem b_all (G : Gd E X) : BiOk E X allO (.builtin "all") := ⟨_, cr_all G.calm, G.K ▸ lr_all⟩
theorem b_any (G : Gd E X) : BiOk E X anyO (.builtin "any") := ⟨_, cr_any G.calm, G.K ▸ lr_any⟩
theorem b_isi (G : Gd E X) : BiOk E X isiO (.builtin "isinstance") := ⟨_, call_isi, G.K ▸ lr_isi⟩
theorem b_int (G : Gd E X) : BiOk E X intO (.type "int") := ⟨_, call_int1, lr_int⟩
variable {x : Str} {p : Pos} {es : List Expr} {id Ty : String} {m : M (List Rdr)} {f : List T → Option T}
theorem x_bi (k : BiOk E X f (.builtin id)) (hm : X.mg x = none) (hv : bootBuiltins x = some (.builtin id)) (ha : OA E X (e :: es) m) (hg : Gl X x := by rfl) (hn : x ≠ "__name__" := by decide) (hdb : (x == ("__debug__" : Str)) = false := by decide)
    (he : starEach (e :: es) X.env = (false, eval e X.env) :: starEach es X.env := by rfl) (hpl : (backTo pos (starEach es X.env)).any (·.1) = false := by rfl) : ME E X (.Call (.Name x p) (e :: es) [] pos) (eCall f m) :=
  let ⟨_, hc, hl⟩ := k.ex; me_callB hc hl hg hm hv ha hn hdb he hpl
theorem x_ty (k : BiOk E X f (.type Ty)) (hm : X.mg x = none) (hv : bootBuiltins x = some (.type Ty)) (ha : OA E X (e :: es) m) (hg : Gl X x := by rfl) (hn : x ≠ "__name__" := by decide) (hdb : (x == ("__debug__" : Str)) = false := by decide)
    (he : starEach (e :: es) X.env = (false, eval e X.env) :: starEach es X.env := by rfl) (hpl : (backTo pos (starEach es X.env)).any (·.1) = false := by rfl) : ME E X (.Call (.Name x p) (e :: es) [] pos) (eCall f m) :=
  let ⟨_, hc, hl⟩ := k.ex; me_callTy hc hl hg hm hv ha hn hdb he hpl
theorem x_list (G : Gd E X) (hm : X.mg "list" = none) (ha : OA E X [e] m) (hg : Gl X "list" := by rfl)
    (he : starEach [e] X.env = (false, eval e X.env) :: starEach [] X.env := by rfl) (hpl : (backTo pos (starEach [] X.env)).any (·.1) = false := by rfl) : FE E X (.Call (.Name "list" p) [e] [] pos) (fCall listO m) :=
  fe_callTy call_list_of (G.K ▸ lr_list) hg hm (by decide +kernel) ha (by decide) (by decide) he hpl
theorem x_tyv {n : String} (hm : X.mg x = none) (hv : bootBuiltins x = some (.type n)) (hg : Gl X x := by rfl) (hn : x ≠ "__name__" := by decide) (hd : (x == ("__debug__" : Str)) = false := by decide) : ME E X (.Name x p) (pure (.ty n)) := me_ty hg hm hv hn hd
/-- a def's call -/
theorem x_fn (G : Gd E X) {k j n : Nat} {fa : Addr} {fd : FuncData} {ps : List Str} {mf : FnM} {mx : M (List T)} (F : FnOk X.prog X.w X.K X.mg X.base (L2.CX X.prog X.w) j fa fd ps (spM E.K E.RX n mf)) (hr : Room k X.A) (hj : j ≤ k) (hm : X.mg x = some (.ref fa)) (hk : PySem.W.keepIn X.K (.ref fa) = true) (hb : Binds X.K fd ps [])
    (ha : AM E X (e :: es) mx) (hn : ∀ ts st, (∃ st', mx st = some (.ok ts, st')) → ts.length = n) (hg : Gl X x := by rfl) (hdb : (x == ("__debug__" : Str)) = false := by decide) (he : starEach (e :: es) X.env = (false, eval e X.env) :: starEach es X.env := by rfl) (hpl : (backTo pos (starEach es X.env)).any (·.1) = false := by rfl) :
    ME E X (.Call (.Name x p) (e :: es) [] pos) (eFn mf mx) := me_fn F (hr.mono hj) hg hm hk hb G.tk G.rx ha hn hdb he hpl
end
/-- how many values an argument list gives -/
theorem al_nil : ∀ ts st, (∃ st', aNil st = some (.ok ts, st')) → ts.length = 0 := fun ts st ⟨st', e⟩ => by
  have e : some (R.ok ([] : List T), st) = some (.ok ts, st') := e
  cases e
  rfl
theorem al_cons {m : M T} {k : M (List T)} {n : Nat} (h : ∀ ts st, (∃ st', k st = some (.ok ts, st')) → ts.length = n) : ∀ ts st, (∃ st', aCons m k st = some (.ok ts, st')) → ts.length = n + 1 := fun ts st ⟨st', e⟩ => by
  unfold aCons at e
  rw [bind_def] at e
  cases e1 : m st with
  | none => simp only [e1] at e; cases e
  | some p =>
    obtain ⟨r, st1⟩ := p
    simp only [e1] at e
    cases r with
    | exc x => cases e
    | ok t =>
      simp only [bind_def] at e
      cases e2 : k st1 with
      | none => simp only [e2] at e; cases e
      | some p =>
        obtain ⟨r, st2⟩ := p
        simp only [e2] at e
        cases r with
        | exc x => cases e
        | ok us =>
          have e : some (R.ok (t :: us), st2) = some (.ok ts, st') := e
          cases e
          rw [List.length_cons, h us st1 ⟨_, e2⟩]
/-! ### lists' methods by their names -/
section
variable {o e : Expr} {apos cpos : Pos} {mp : M Plc}
theorem x_append {m : M T} (G : Gd E X) (ho : LM E X o mp) (ha : ME E X e m)
    (hbase : attributeBase o "append" X.env (eval o X.env) = eval o X.env := by rfl)
    (hfew : ((backTo cpos (starEach [e] X.env)).all (fun x => !x.1) && (backToKw cpos (keywordEach [] X.env)).all (fun x => x.1.isSome)
      && decide ([e].length + ([] : List Keyword).length + (if ([] : List Keyword).isEmpty then 0 else 1) < 30)) = true := by rfl)
    (hline : (apos.endLine == cpos.line) = true := by rfl) (hs : starEach [e] X.env = (false, eval e X.env) :: starEach [] X.env := by rfl) (hplain : (backTo cpos (starEach [] X.env)).any (·.1) = false := by rfl) :
    ME E X (.Call (.Attribute o "append" apos) [e] [] cpos) (eLst appendF mp (aCons m aNil)) :=
  me_lst PySem.F.slot_list_append PySem.F.type_list_append mt_append (by have := G.K; exact lm_append) ho (am_cons ha am_nil hs) G.K hbase hfew hline hs hplain
theorem x_extend {m : M T} (G : Gd E X) (ho : LM E X o mp) (ha : ME E X e m)
    (hbase : attributeBase o "extend" X.env (eval o X.env) = eval o X.env := by rfl)
    (hfew : ((backTo cpos (starEach [e] X.env)).all (fun x => !x.1) && (backToKw cpos (keywordEach [] X.env)).all (fun x => x.1.isSome)
      && decide ([e].length + ([] : List Keyword).length + (if ([] : List Keyword).isEmpty then 0 else 1) < 30)) = true := by rfl)
    (hline : (apos.endLine == cpos.line) = true := by rfl) (hs : starEach [e] X.env = (false, eval e X.env) :: starEach [] X.env := by rfl) (hplain : (backTo cpos (starEach [] X.env)).any (·.1) = false := by rfl) :
    ME E X (.Call (.Attribute o "extend" apos) [e] [] cpos) (eLst extendF mp (aCons m aNil)) :=
  me_lst PySem.F.slot_list_extend PySem.F.type_list_extend mt_extend lm_extend ho (am_cons ha am_nil hs) G.K hbase hfew hline hs hplain
theorem x_popAt {m : M T} (G : Gd E X) (ho : LM E X o mp) (ha : ME E X e m)
    (hbase : attributeBase o "pop" X.env (eval o X.env) = eval o X.env := by rfl)
    (hfew : ((backTo cpos (starEach [e] X.env)).all (fun x => !x.1) && (backToKw cpos (keywordEach [] X.env)).all (fun x => x.1.isSome)
      && decide ([e].length + ([] : List Keyword).length + (if ([] : List Keyword).isEmpty then 0 else 1) < 30)) = true := by rfl)
    (hline : (apos.endLine == cpos.line) = true := by rfl) (hs : starEach [e] X.env = (false, eval e X.env) :: starEach [] X.env := by rfl) (hplain : (backTo cpos (starEach [] X.env)).any (·.1) = false := by rfl) :
    ME E X (.Call (.Attribute o "pop" apos) [e] [] cpos) (eLst popF mp (aCons m aNil)) :=
  me_lst PySem.F.slot_list_pop PySem.F.type_list_pop mt_popA lm_pop ho (am_cons ha am_nil hs) G.K hbase hfew hline hs hplain
theorem x_pop (G : Gd E X) (ho : LM E X o mp)
    (hbase : attributeBase o "pop" X.env (eval o X.env) = eval o X.env := by rfl) (hline : (apos.endLine == cpos.line) = true := by rfl) : ME E X (.Call (.Attribute o "pop" apos) [] [] cpos) (eLst0 popF mp) :=
  me_lst0 PySem.F.slot_list_pop PySem.F.type_list_pop mt_popA lm_pop ho G.K hbase hline
theorem x_clear (G : Gd E X) (ho : LM E X o mp)
    (hbase : attributeBase o "clear" X.env (eval o X.env) = eval o X.env := by rfl) (hline : (apos.endLine == cpos.line) = true := by rfl) : ME E X (.Call (.Attribute o "clear" apos) [] [] cpos) (eLst0 clearF mp) :=
  me_lst0 PySem.F.slot_list_clear PySem.F.type_list_clear mt_clear lm_clear ho G.K hbase hline
theorem x_insert {i : Expr} {mi m : M T} (G : Gd E X) (ho : LM E X o mp) (hi : ME E X i mi) (ha : ME E X e m)
    (hbase : attributeBase o "insert" X.env (eval o X.env) = eval o X.env := by rfl)
    (hfew : ((backTo cpos (starEach [i, e] X.env)).all (fun x => !x.1) && (backToKw cpos (keywordEach [] X.env)).all (fun x => x.1.isSome)
      && decide ([i, e].length + ([] : List Keyword).length + (if ([] : List Keyword).isEmpty then 0 else 1) < 30)) = true := by rfl)
    (hline : (apos.endLine == cpos.line) = true := by rfl) (hs : starEach [i, e] X.env = (false, eval i X.env) :: starEach [e] X.env := by rfl) (hs2 : starEach [e] X.env = (false, eval e X.env) :: starEach [] X.env := by rfl) (hplain : (backTo cpos (starEach [e] X.env)).any (·.1) = false := by rfl) :
    ME E X (.Call (.Attribute o "insert" apos) [i, e] [] cpos) (eLst insertF mp (aCons mi (aCons m aNil))) :=
  me_lst PySem.F.slot_list_insert PySem.F.type_list_insert mt_insert lm_insert ho (am_cons hi (am_cons ha am_nil hs2) hs) G.K hbase hfew hline hs hplain
variable {mo : M Rdr}
theorem x_index {m : M T} (G : Gd E X) (ho : OE E X o mo) (ha : ME E X e m)
    (hbase : attributeBase o "index" X.env (eval o X.env) = eval o X.env := by rfl)
    (hfew : ((backTo cpos (starEach [e] X.env)).all (fun x => !x.1) && (backToKw cpos (keywordEach [] X.env)).all (fun x => x.1.isSome)
      && decide ([e].length + ([] : List Keyword).length + (if ([] : List Keyword).isEmpty then 0 else 1) < 30)) = true := by rfl)
    (hline : (apos.endLine == cpos.line) = true := by rfl) (hs : starEach [e] X.env = (false, eval e X.env) :: starEach [] X.env := by rfl) (hplain : (backTo cpos (starEach [] X.env)).any (·.1) = false := by rfl) :
    ME E X (.Call (.Attribute o "index" apos) [e] [] cpos) (eMeth "list" indexF mo (aCons m aNil)) :=
  me_meth PySem.F.plainAttrs_list PySem.F.slot_list_index PySem.F.type_list_index (mt_indexD G.hu) (G.K ▸ lr_index) ho (am_cons ha am_nil hs) G.K hbase hfew hline hs hplain
theorem x_join {m : M T} (G : Gd E X) (ho : OE E X o mo) (ha : ME E X e m)
    (hbase : attributeBase o "join" X.env (eval o X.env) = eval o X.env := by rfl)
    (hfew : ((backTo cpos (starEach [e] X.env)).all (fun x => !x.1) && (backToKw cpos (keywordEach [] X.env)).all (fun x => x.1.isSome)
      && decide ([e].length + ([] : List Keyword).length + (if ([] : List Keyword).isEmpty then 0 else 1) < 30)) = true := by rfl)
    (hline : (apos.endLine == cpos.line) = true := by rfl) (hs : starEach [e] X.env = (false, eval e X.env) :: starEach [] X.env := by rfl) (hplain : (backTo cpos (starEach [] X.env)).any (·.1) = false := by rfl) :
    ME E X (.Call (.Attribute o "join" apos) [e] [] cpos) (eMeth "str" joinF mo (aCons m aNil)) :=
  me_meth PySem.F.plainAttrs_str PySem.F.slot_str_join PySem.F.type_str_join mt_join (G.K ▸ lr_join) ho (am_cons ha am_nil hs) G.K hbase hfew hline hs hplain
end
/-! ### comprehensions, loops -/
section
variable {elt tge iter : Expr} {ifs : List Expr} {scope : Scope} {mi : M Itr} {tg : Tg} {test : M Bool} {me : M T}
theorem x_comp (G : Gd E X) (l : List Nat) (own : List (Str × Nat)) (hi : IM E l X tge iter mi)
    (hg : ∀ (s : Shared) (H : Hp) (C : Addr) (cl : List (Str × Addr)) (fp : List Addr), GM E.nox (X.blk s H scope (compEnvC scope cl C X.env) fp) tge tg) (hq : ∀ (s : Shared) (H : Hp) (C : Addr) (cl : List (Str × Addr)) (fp : List Addr), QM E.nox (X.blk s H scope (compEnvC scope cl C X.env) fp) ifs test)
    (he : ∀ (s : Shared) (H : Hp) (C : Addr) (cl : List (Str × Addr)) (fp : List Addr), ME E.nox (X.blk s H scope (compEnvC scope cl C X.env) fp) elt me)
    (ok : BlkOk X.N X.env.scope scope own) (hl : ∀ j ∈ l, j ∉ own.map (·.2) := by decide) (ht : ∀ i ∈ tg.ix, i ∈ own.map (·.2) := by decide) (hs : ∀ x, foldedSetIterable iter X.env x = pure x := by intro _; rfl) :
    FE E X (.ListComp elt [⟨tge, iter, ifs, 0⟩] scope pos) (fComp mi (own.map (·.2)) tg test me) := fe_comp G.calm G.nd hi ok hl ht hg hq he hs
theorem s_ownC (G : Gd E X) (i : Nat) (l : List Nat) (own : List (Str × Nat)) {y : Str} {py spos : Pos} (hi : IM E l X tge iter mi)
    (hg : ∀ (s : Shared) (H : Hp) (C : Addr) (cl : List (Str × Addr)) (fp : List Addr), GM E.nox (X.blk s H scope (compEnvC scope cl C X.env) fp) tge tg) (hq : ∀ (s : Shared) (H : Hp) (C : Addr) (cl : List (Str × Addr)) (fp : List Addr), QM E.nox (X.blk s H scope (compEnvC scope cl C X.env) fp) ifs test)
    (he : ∀ (s : Shared) (H : Hp) (C : Addr) (cl : List (Str × Addr)) (fp : List Addr), ME E.nox (X.blk s H scope (compEnvC scope cl C X.env) fp) elt me)
    (ok : BlkOk X.N X.env.scope scope own) (hsw : swapsWith (.ListComp elt [⟨tge, iter, ifs, 0⟩] scope pos) (some (.Name y py)) spos.line X.env = pure true) (hy : X.N[i]? = some y := by rfl) (hyl : X.env.scope.names.lookup y = some .local := by rfl) (hl : ∀ j ∈ l, j ∉ own.map (·.2) := by decide) (ht : ∀ i ∈ tg.ix, i ∈ own.map (·.2) := by decide) (hs : ∀ x, foldedSetIterable iter X.env x = pure x := by intro _; rfl) :
    SM E X (.Assign [.Name y py] (.ListComp elt [⟨tge, iter, ifs, 0⟩] scope pos) spos) (cOwn i (fComp mi (own.map (·.2)) tg test me)) := sm_ownC G.calm G.nd hy hyl hsw hi ok hl ht hg hq he hs
theorem s_setC (G : Gd E X) (i : Nat) (l : List Nat) (own : List (Str × Nat)) {y : Str} {py spos : Pos} (hi : IM E l X tge iter mi)
    (hg : ∀ (s : Shared) (H : Hp) (C : Addr) (cl : List (Str × Addr)) (fp : List Addr), GM E.nox (X.blk s H scope (compEnvC scope cl C X.env) fp) tge tg) (hq : ∀ (s : Shared) (H : Hp) (C : Addr) (cl : List (Str × Addr)) (fp : List Addr), QM E.nox (X.blk s H scope (compEnvC scope cl C X.env) fp) ifs test)
    (he : ∀ (s : Shared) (H : Hp) (C : Addr) (cl : List (Str × Addr)) (fp : List Addr), ME E.nox (X.blk s H scope (compEnvC scope cl C X.env) fp) elt me)
    (ok : BlkOk X.N X.env.scope scope own) (hsw : swapsWith (.ListComp elt [⟨tge, iter, ifs, 0⟩] scope pos) (some (.Name y py)) spos.line X.env = pure true) (hy : X.N[i]? = some y := by rfl) (hyl : X.env.scope.names.lookup y = some .local := by rfl) (hl : ∀ j ∈ l, j ∉ own.map (·.2) := by decide) (ht : ∀ i ∈ tg.ix, i ∈ own.map (·.2) := by decide) (hs : ∀ x, foldedSetIterable iter X.env x = pure x := by intro _; rfl) :
    SM E X (.Assign [.Name y py] (.ListComp elt [⟨tge, iter, ifs, 0⟩] scope pos) spos) (cSet i (eFz (fComp mi (own.map (·.2)) tg test me))) := sm_setC G.calm G.nd hy hyl hsw hi ok hl ht hg hq he hs
variable {body : List Stmt} {c : Cmd}
theorem s_for (G : Gd E X) (hp : PassesOwn (model X.prog X.w) X.A X.env X.xe) (hi : IM E [] X tge iter mi) (hg : GM E X tge tg) (hb : SSM E X body c)
    (hs : ∀ x, foldedSetIterable iter X.env x = pure x := by intro _; rfl) : SM E X (.For tge iter body [] pos) (cFor mi tg c) := sm_for hp G.calm hi hg hb hs
@[irreducible] def FUEL : Nat := 100000
theorem s_while {te : Expr} {b : M Bool} (hp : PassesOwn (model X.prog X.w) X.A X.env X.xe) (hb : TM E X te b) (hc : SSM E X body c) : SM E X (.While te body [] pos) (whileL b c FUEL) := sm_while FUEL hp hb hc
end
end
/-! ### defs -/
abbrev RXn : Gh → Xn → Value → Option Addr → Hp → Prop := fun _ _ _ _ _ => False
theorem rxn_ok : RXok RXn := fun _ _ _ _ _ _ _ h => h
section
variable {P : Program} {w : World} {K : PySem.W.Frag} {mg : Str → Option Value} {base : Heap} {RX : Gh → Xn → Value → Option Addr → Hp → Prop}
abbrev fnEv (K : PySem.W.Frag) (RX : Gh → Xn → Value → Option Addr → Hp → Prop) (Ex : XK) : Ev := ⟨K, fun cls d _ H => Ex cls d H, RX⟩
theorem hu65 {A : Around} {k : Nat} (hr : Room k A) : A.units + 65 < cLine := by have := hr.un; omega
theorem fn_okD {x qual : Str} {params : Arguments} {body : List Stmt} {scope : Scope} {dvs : List V} {kws : List (Str × V)} {f : Addr} {fd : FuncData} {N ps : List Str} {c : Cmd} (k : Nat) (F : FunD K x qual params body scope dvs kws f fd) (S : FnScope N ps scope) (hR : RXok RX)
    (hbody : ∀ (cdv : Value) (A : Around) (outer : List Env) (s : Shared) (H : Hp) (Ex : XK), Room k (cxOf (L2.CX P w) P w K mg base N qual scope f cdv A outer s H Ex).A → Gd (fnEv K RX Ex) (cxOf (L2.CX P w) P w K mg base N qual scope f cdv A outer s H Ex) →
      PassesOwn (model P w) (cxOf (L2.CX P w) P w K mg base N qual scope f cdv A outer s H Ex).A (cxOf (L2.CX P w) P w K mg base N qual scope f cdv A outer s H Ex).env (cxOf (L2.CX P w) P w K mg base N qual scope f cdv A outer s H Ex).xe →
      SSM (fnEv K RX Ex) (cxOf (L2.CX P w) P w K mg base N qual scope f cdv A outer s H Ex) body c) :
    FnOk P w K mg base (L2.CX P w) (k + 1) f fd ps (spM K RX ps.length (fnM N.length c)) := by
  refine F.ok S (fun vs H Q Ex h => ?_) (fun cdv A outer s H vs Q Ex hr h => ?_)
  · obtain ⟨g, Sx, ts, hn, r, rl, _⟩ := h
    rw [rl.len, hn]
  · obtain ⟨g, Sx, ts, hn, r, rl, _, h⟩ := h
    have tk : Takes (cxOf (L2.CX P w) P w K mg base N qual scope f cdv A outer s H Ex) (fun cls d _ H => Ex cls d H) := takes_of rfl rfl rfl rfl
    refine ⟨_, (hbody cdv A outer s H Ex hr ⟨rfl, hu65 hr, rfl, S.nd, tk, hR⟩ (passes_of (K := fun e s'' => L2.CX P w outer H s Ex e s'') rfl)).pss, g, ⟨ts.map .val ++ List.replicate (N.length - ts.length) .emp, Sx⟩, start_rel r rl, ?_⟩
    unfold fnM at h
    unfold run
    cases e : c ⟨ts.map .val ++ List.replicate (N.length - ts.length) .emp, Sx⟩ with
    | none => rw [e] at h; exact h.elim
    | some p =>
      obtain ⟨q, st'⟩ := p
      rw [e] at h
      cases q with
      | exc x => exact fun g' σ' H' c d r' s' rx => h g' H' c d r'.toRelS s' rx
      | ok fl =>
        cases fl with
        | nxt => exact fun g' σ' H' r' s' => h g' H' .non r'.toRelS s' (by unfold RepT; rfl)
        | ret t => exact fun g' σ' H' r' s' v rv => h g' H' v r'.toRelS s' rv
        | brk => exact h.elim
        | cnt => exact h.elim
/-- a def that is never called any deeper -/
theorem fn_none {f : Addr} {fd : FuncData} {ps : List Str} (k n : Nat) : FnOk P w K mg base (L2.CX P w) k f fd ps (spM K RX n fun _ _ => none) :=
  ⟨fun vs H Q E ⟨_, _, _, _, _, _, _, h⟩ => h.elim, fun A outer s H args us vs Q E _ _ _ _ ⟨_, _, _, _, _, _, _, h⟩ => h.elim⟩
/-- a law's def: its script -/
theorem law_sp {m : FnM} (h : ∀ ns : List Int, ns.length ≤ 63 → ∃ S', m [.scr ns] [] = some (.ok (.bl true), S')) (H : Hp) (a : Addr) (ns : List Int) (hl : ns.length ≤ 63) (hS : SqL K H a (ns.map V.int)) :
    spM K RX 1 m [.ref a] H (fun v _ => v = .bl true) fun _ _ _ => False := by
  obtain ⟨S', e⟩ := h ns hl
  refine ⟨⟨fun p => if H p = none then .out else .fz, H, fun _ => 0, 0⟩, [], [.scr ns], rfl, ⟨Same.refl _, fun p o e => ?_, fun p e => ?_, rfl, fun a ob e => by simp at e⟩, .one (by unfold RepT; exact ⟨a, rfl, hS⟩), fun p i e => ?_, ?_⟩
  · show (if H p = none then _ else _) = _
    have e : H p = some o := e
    rw [if_neg (by rw [e]; exact fun z => by cases z)]
  · show (if H p = none then _ else _) = _
    rw [if_pos e]
  · have e : (if H p = none then Ow.out else Ow.fz) = .slot i := e
    split at e <;> cases e
  · rw [e]
    exact fun g' H' v _ _ rv => rv.bl_of
/-- a def that lets nothing out, by its promise -/
theorem nox_law {k : Nat} {f : Addr} {fd : FuncData} {ps : List Str} {sp : Sp} (F : FnOk P w K mg base (L2.CX P w) k f fd ps sp) : FnOk P w K mg base CX0 k f fd ps (fun vs H Q _ => sp vs H Q fun _ _ _ => False) :=
  ⟨fun vs H Q E h => F.len _ _ _ _ h, fun A outer s H args us vs Q E hr he hb hv hs => codeAny_mono (F.run A outer s H args us vs Q _ hr he hb hv hs) fun r s' hq => by
    cases r with
    | ok fl => cases fl <;> exact hq
    | error e =>
      obtain ⟨_, _, _, _, _, _, _, _, _, _, _, _, z⟩ := hq
      exact z.elim⟩
end
end Sw
namespace Sw
open Classical

/-! ### what a computation comes to -/
@[irreducible] def W {α : Type} (m : M α) (st : Stt) (Φ : α → Stt → Prop) : Prop :=
  match m st with
  | some (.ok a, st') => Φ a st'
  | _ => False
@[irreducible] def Fw (m : FnM) (ts : List T) (S : List Ob) (Φ : T → List Ob → Prop) : Prop :=
  match m ts S with
  | some (.ok t, S') => Φ t S'
  | _ => False
theorem Fw.ex {m : FnM} {ts : List T} {S : List Ob} {Φ : T → List Ob → Prop} (h : Fw m ts S Φ) : ∃ t S', m ts S = some (.ok t, S') ∧ Φ t S' := by
  unfold Fw at h
  cases e : m ts S with
  | none => rw [e] at h; exact h.elim
  | some p =>
    obtain ⟨r, S'⟩ := p
    rw [e] at h
    cases r with
    | ok t => exact ⟨t, S', rfl, h⟩
    | exc x => exact h.elim
theorem Fw.of {m : FnM} {ts : List T} {S : List Ob} {Φ : T → List Ob → Prop} {t : T} {S' : List Ob} (e : m ts S = some (.ok t, S')) (h : Φ t S') : Fw m ts S Φ := by
  unfold Fw
  rw [e]
  exact h
theorem Fw.mono {m : FnM} {ts : List T} {S : List Ob} {Φ Ψ : T → List Ob → Prop} (h : Fw m ts S Φ) (k : ∀ t S', Φ t S' → Ψ t S') : Fw m ts S Ψ := by
  obtain ⟨t, S', e, q⟩ := h.ex
  exact .of e (k t S' q)
theorem W.ex {α : Type} {m : M α} {st : Stt} {Φ : α → Stt → Prop} (h : W m st Φ) : ∃ a st', m st = some (.ok a, st') ∧ Φ a st' := by
  unfold W at h
  cases e : m st with
  | none => rw [e] at h; exact h.elim
  | some p =>
    obtain ⟨r, st'⟩ := p
    rw [e] at h
    cases r with
    | ok a => exact ⟨a, st', rfl, h⟩
    | exc x => exact h.elim
theorem W.of {α : Type} {m : M α} {st : Stt} {Φ : α → Stt → Prop} {a : α} {st' : Stt} (e : m st = some (.ok a, st')) (h : Φ a st') : W m st Φ := by
  unfold W
  rw [e]
  exact h
theorem W.mono {α : Type} {m : M α} {st : Stt} {Φ Ψ : α → Stt → Prop} (h : W m st Φ) (k : ∀ a st', Φ a st' → Ψ a st') : W m st Ψ := by
  obtain ⟨a, st', e, q⟩ := h.ex
  exact .of e (k a st' q)
section
variable {α β : Type} {st : Stt}
theorem W_pure {a : α} {Φ : α → Stt → Prop} : W (pure a) st Φ = Φ a st := by with_unfolding_all rfl
theorem W_stuck {Φ : α → Stt → Prop} : W (stuck : M α) st Φ = False := by with_unfolding_all rfl
theorem W_bind {m : M α} {f : α → M β} {Φ : β → Stt → Prop} : W (m >>= f) st Φ = W m st (fun a st1 => W (f a) st1 Φ) := by
  unfold W
  rw [bind_def]
  cases m st with
  | none => with_unfolding_all rfl
  | some p =>
    obtain ⟨r, st1⟩ := p
    cases r <;> with_unfolding_all rfl
/-- an option's value is wanted -/
def Op {α : Type} (o : Option α) (Φ : α → Prop) : Prop := match o with
  | some a => Φ a
  | none => False
theorem Op_some {a : α} {Φ : α → Prop} : Op (some a) Φ = Φ a := by with_unfolding_all rfl
theorem Op_none {Φ : α → Prop} : Op (none : Option α) Φ = False := by with_unfolding_all rfl
theorem Op_ite {c : Prop} [Decidable c] {o : Option α} {Φ : α → Prop} : Op (if c then o else none) Φ = (c ∧ Op o Φ) := by
  by_cases h : c
  · rw [if_pos h]; simp [h]
  · rw [if_neg h]; simp [h, Op_none]
theorem Op_map {o : Option α} {f : α → β} {Φ : β → Prop} : Op (o.map f) Φ = Op o (fun a => Φ (f a)) := by cases o <;> with_unfolding_all rfl
theorem Op_bind {o : Option α} {f : α → Option β} {Φ : β → Prop} : Op (o.bind f) Φ = Op o (fun a => Op (f a) Φ) := by cases o <;> with_unfolding_all rfl
theorem Op.ex {o : Option α} {Φ : α → Prop} (h : Op o Φ) : ∃ a, o = some a ∧ Φ a := by
  cases o with
  | none => exact h.elim
  | some a => exact ⟨a, rfl, h⟩
theorem Op.of {o : Option α} {Φ : α → Prop} {a : α} (e : o = some a) (h : Φ a) : Op o Φ := by rw [e]; exact h
theorem W_ofO {o : Option α} {Φ : α → Stt → Prop} : W (ofO o) st Φ = Op o (fun a => Φ a st) := by cases o <;> with_unfolding_all rfl
theorem W_eVar {i : Nat} {Φ : T → Stt → Prop} : W (eVar i) st Φ = (match st.σ[i]? with | some (.val t) => Φ t st | _ => False) := by
  unfold W eVar
  cases st.σ[i]? with
  | none => with_unfolding_all rfl
  | some s => cases s <;> with_unfolding_all rfl
theorem W_eFrz {i : Nat} {Φ : T → Stt → Prop} : W (eFrz i) st Φ = (match st.σ[i]? with | some (.own (.lst ts)) => Φ (.fz ts) { st with σ := st.σ.set i (.val (.fz ts)) } | _ => False) := by
  unfold W eFrz
  cases st.σ[i]? with
  | none => with_unfolding_all rfl
  | some s =>
    cases s with
    | own ob => cases ob <;> with_unfolding_all rfl
    | _ => with_unfolding_all rfl
theorem W_oVar {i : Nat} {Φ : Rdr → Stt → Prop} : W (oVar i) st Φ = (match st.σ[i]? with | some .emp => False | none => False | some _ => Φ (rVar i) st) := by
  unfold W oVar
  cases st.σ[i]? with
  | none => with_unfolding_all rfl
  | some s => cases s <;> with_unfolding_all rfl
theorem W_oE {m : M T} {Φ : Rdr → Stt → Prop} : W (oE m) st Φ = W m st (fun t st1 => Φ (fun s => peekT s.S t) st1) := by
  unfold oE
  rw [W_bind]
  with_unfolding_all rfl
theorem W_op2 {f : T → T → Option T} {ra rb : Rdr} {Φ : T → Stt → Prop} : W (fun st => match ra st, rb st with | some a, some b => ofO (f a b) st | _, _ => none) st Φ = Op (ra st) (fun a => Op (rb st) (fun b => Op (f a b) (fun t => Φ t st))) := by
  unfold W
  dsimp only
  cases ra st with
  | none => with_unfolding_all rfl
  | some a =>
    cases rb st with
    | none => with_unfolding_all rfl
    | some b =>
      simp only [Op_some]
      cases f a b <;> with_unfolding_all rfl
theorem W_eOp2 {f : T → T → Option T} {ma mb : M Rdr} {Φ : T → Stt → Prop} : W (eOp2 f ma mb) st Φ = W ma st (fun ra st1 => W mb st1 (fun rb st2 => Op (ra st2) (fun a => Op (rb st2) (fun b => Op (f a b) (fun t => Φ t st2))))) := by
  unfold eOp2
  rw [W_bind]
  congr 1
  funext ra st1
  rw [W_bind]
  congr 1
  funext rb st2
  with_unfolding_all exact W_op2
theorem W_eChain {f f' : T → T → Option T} {ma mb mc : M Rdr} {Φ : T → Stt → Prop} : W (eChain f f' ma mb mc) st Φ = W ma st (fun ra st1 => W mb st1 (fun rb st2 => Op (ra st2) (fun a => Op (rb st2) (fun b => Op (f a b) (fun z =>
    match z with
    | .bl true => W mc st2 (fun rc st3 => Op (rb st3) (fun b => Op (rc st3) (fun c => Op (f' b c) (fun t => Φ t st3))))
    | .bl false => Φ (.bl false) st2
    | _ => False))))) := by
  unfold eChain
  rw [W_bind]
  congr 1
  funext ra st1
  rw [W_bind]
  congr 1
  funext rb st2
  rw [W_bind]
  refine Eq.trans (W_op2 (f := f) (ra := ra) (rb := rb)) ?_
  congr 1
  funext a
  congr 1
  funext b
  congr 1
  funext z
  cases z with
  | bl k =>
    cases k with
    | false => with_unfolding_all rfl
    | true =>
      simp only
      rw [W_bind]
      congr 1
      funext rc st3
      with_unfolding_all exact W_op2
  | _ => with_unfolding_all rfl
/-- a truth is wanted -/
def Bw (t : T) (Φ : Bool → Prop) : Prop := match t with
  | .bl b => Φ b
  | _ => False
theorem Bw_bl {b : Bool} {Φ : Bool → Prop} : Bw (.bl b) Φ = Φ b := by with_unfolding_all rfl
theorem W_asB {m : M T} {Φ : Bool → Stt → Prop} : W (asB m) st Φ = W m st (fun t st1 => Bw t (fun b => Φ b st1)) := by
  unfold asB
  rw [W_bind]
  congr 1
  funext t st1
  cases t <;> with_unfolding_all rfl
theorem W_bNot {m : M Bool} {Φ : Bool → Stt → Prop} : W (bNot m) st Φ = W m st (fun b st1 => Φ (!b) st1) := by
  unfold bNot
  rw [W_bind]
  with_unfolding_all rfl
theorem W_bAnd {m k : M Bool} {Φ : Bool → Stt → Prop} : W (bAnd m k) st Φ = W m st (fun b st1 => if b = true then W k st1 Φ else Φ false st1) := by
  unfold bAnd
  rw [W_bind]
  congr 1
  funext b st1
  cases b <;> with_unfolding_all rfl
theorem W_bOr {m k : M Bool} {Φ : Bool → Stt → Prop} : W (bOr m k) st Φ = W m st (fun b st1 => if b = true then Φ true st1 else W k st1 Φ) := by
  unfold bOr
  rw [W_bind]
  congr 1
  funext b st1
  cases b <;> with_unfolding_all rfl
theorem W_eNot {m : M T} {Φ : T → Stt → Prop} : W (eNot m) st Φ = W m st (fun t st1 => Bw t (fun b => Φ (.bl (!b)) st1)) := by
  unfold eNot
  rw [W_bind, W_asB]
  with_unfolding_all rfl
theorem W_eAnd {m k : M T} {Φ : T → Stt → Prop} : W (eAnd m k) st Φ = W m st (fun t st1 => Bw t (fun b => if b = true then W k st1 Φ else Φ (.bl false) st1)) := by
  unfold eAnd
  rw [W_bind, W_asB]
  congr 1
  funext t st1
  congr 1
  funext b
  cases b <;> with_unfolding_all rfl
theorem W_eOr {m k : M T} {Φ : T → Stt → Prop} : W (eOr m k) st Φ = W m st (fun t st1 => Bw t (fun b => if b = true then Φ (.bl true) st1 else W k st1 Φ)) := by
  unfold eOr
  rw [W_bind, W_asB]
  congr 1
  funext t st1
  congr 1
  funext b
  cases b <;> with_unfolding_all rfl
theorem W_eIf {c : M Bool} {a b : M T} {Φ : T → Stt → Prop} : W (eIf c a b) st Φ = W c st (fun d st1 => if d = true then W a st1 Φ else W b st1 Φ) := by
  unfold eIf
  rw [W_bind]
  congr 1
  funext b st1
  cases b <;> with_unfolding_all rfl
theorem W_eNeg {m : M T} {Φ : T → Stt → Prop} : W (eNeg m) st Φ = W m st (fun t st1 => match t with | .int i => Φ (.int (-i)) st1 | _ => False) := by
  unfold eNeg
  rw [W_bind]
  congr 1
  funext t st1
  cases t <;> with_unfolding_all rfl
theorem W_aNil {Φ : List T → Stt → Prop} : W aNil st Φ = Φ [] st := by with_unfolding_all rfl
theorem W_aCons {m : M T} {k : M (List T)} {Φ : List T → Stt → Prop} : W (aCons m k) st Φ = W m st (fun t st1 => W k st1 (fun ts st2 => Φ (t :: ts) st2)) := by
  unfold aCons
  rw [W_bind]
  congr 1
  funext t st1
  rw [W_bind]
  with_unfolding_all rfl
theorem W_oNil {Φ : List Rdr → Stt → Prop} : W oNil st Φ = Φ [] st := by with_unfolding_all rfl
theorem W_oCons {m : M Rdr} {k : M (List Rdr)} {Φ : List Rdr → Stt → Prop} : W (oCons m k) st Φ = W m st (fun t st1 => W k st1 (fun ts st2 => Φ (t :: ts) st2)) := by
  unfold oCons
  rw [W_bind]
  congr 1
  funext t st1
  rw [W_bind]
  with_unfolding_all rfl
theorem W_eTup {m : M (List T)} {Φ : T → Stt → Prop} : W (eTup m) st Φ = W m st (fun ts st1 => ts.length ≤ 1000 ∧ Φ (.tup ts) st1) := by
  unfold eTup
  rw [W_bind]
  congr 1
  funext t st1
  by_cases h : t.length ≤ 1000
  · rw [if_pos h, W_pure]; simp [h]
  · rw [if_neg h, W_stuck]; simp [h]
theorem W_fLst {m : M (List T)} {Φ : Ob → Stt → Prop} : W (fLst m) st Φ = W m st (fun ts st1 => ts.length ≤ 1000 ∧ Φ (.lst ts) st1) := by
  unfold fLst
  rw [W_bind]
  congr 1
  funext t st1
  by_cases h : t.length ≤ 1000
  · rw [if_pos h, W_pure]; simp [h]
  · rw [if_neg h, W_stuck]; simp [h]
theorem W_eFz {m : M Ob} {Φ : T → Stt → Prop} : W (eFz m) st Φ = W m st (fun ob st1 => match ob with | .lst ts => Φ (.fz ts) st1 | _ => False) := by
  unfold eFz
  rw [W_bind]
  congr 1
  funext t st1
  cases t <;> with_unfolding_all rfl
theorem W_eBox {m : M Ob} {Φ : T → Stt → Prop} : W (eBox m) st Φ = W m st (fun ob st1 => Φ (.ref st1.S.length) { st1 with S := st1.S ++ [ob] }) := by
  unfold eBox
  rw [W_bind]
  with_unfolding_all rfl
theorem W_fDic {Φ : Ob → Stt → Prop} : W fDic st Φ = Φ (.dct [] []) st := by with_unfolding_all rfl
theorem W_rdM {rs : List Rdr} {f : List T → M α} {Φ : α → Stt → Prop} : W (rdM rs f) st Φ = Op (rdAll rs st) (fun ts => W (f ts) st Φ) := by
  unfold W rdM
  cases rdAll rs st <;> with_unfolding_all rfl
theorem W_eCall {f : List T → Option T} {m : M (List Rdr)} {Φ : T → Stt → Prop} : W (eCall f m) st Φ = W m st (fun rs st1 => Op (rdAll rs st1) (fun ts => Op (f ts) (fun t => Φ t st1))) := by
  unfold eCall
  rw [W_bind]
  congr 1
  funext rs st1
  rw [W_rdM]
  congr 1
  funext ts
  rw [W_ofO]
theorem W_fCall {f : List T → Option (List T)} {m : M (List Rdr)} {Φ : Ob → Stt → Prop} : W (fCall f m) st Φ = W m st (fun rs st1 => Op (rdAll rs st1) (fun ts => Op (f ts) (fun us => Φ (.lst us) st1))) := by
  unfold fCall
  rw [W_bind]
  congr 1
  funext rs st1
  rw [W_rdM]
  congr 1
  funext ts
  rw [W_ofO, Op_map]
theorem rdAll_nil : rdAll [] st = some [] := by with_unfolding_all rfl
theorem Op_rdAll {r : Rdr} {rs : List Rdr} {Φ : List T → Prop} : Op (rdAll (r :: rs) st) Φ = Op (r st) (fun t => Op (rdAll rs st) (fun ts => Φ (t :: ts))) := by
  have e : rdAll (r :: rs) st = match r st, rdAll rs st with
    | some t, some ts => some (t :: ts)
    | _, _ => none := by with_unfolding_all rfl
  rw [e]
  cases r st with
  | none => with_unfolding_all rfl
  | some t => cases rdAll rs st <;> with_unfolding_all rfl
theorem W_pNo {Φ : Option Int → Stt → Prop} : W pNo st Φ = Φ none st := by with_unfolding_all rfl
theorem W_pSome {m : M T} {Φ : Option Int → Stt → Prop} : W (pSome m) st Φ = W m st (fun t st1 => match t with | .int i => Φ (some i) st1 | _ => False) := by
  unfold pSome
  rw [W_bind]
  congr 1
  funext t st1
  cases t <;> with_unfolding_all rfl
theorem W_eSliceU {m : M Rdr} {ml mh : M (Option Int)} {Φ : T → Stt → Prop} : W (eSliceU m ml mh) st Φ = W m st (fun r st1 => W ml st1 (fun lo st2 => W mh st2 (fun hi st3 => Op (r st3) (fun t => match t with
    | .str s => s.length ≤ 1000000 ∧ Φ (.str (cutL s lo hi)) st3
    | .tup ts => Φ (.tup (cutL ts lo hi)) st3
    | .fz ts => Φ (.fz (cutL ts lo hi)) st3
    | .scr ns => Φ (.fz ((cutL ns lo hi).map .int)) st3
    | _ => False)))) := by
  unfold eSliceU
  rw [W_bind]
  congr 1
  funext r st1
  rw [W_bind]
  congr 1
  funext lo st2
  rw [W_bind]
  congr 1
  funext hi st3
  unfold W
  dsimp only
  cases r st3 with
  | none => with_unfolding_all rfl
  | some t =>
    cases t with
    | str s =>
      simp only [Op_some]
      by_cases h : s.length ≤ 1000000
      · simp [h]
      · simp [h]
    | _ => with_unfolding_all rfl
theorem W_fSlice {m : M Rdr} {ml mh : M (Option Int)} {Φ : Ob → Stt → Prop} : W (fSlice m ml mh) st Φ = W m st (fun r st1 => W ml st1 (fun lo st2 => W mh st2 (fun hi st3 => Op (r st3) (fun t => match t with
    | .fz ts => Φ (.lst (cutL ts lo hi)) st3
    | .scr ns => Φ (.lst ((cutL ns lo hi).map .int)) st3
    | _ => False)))) := by
  unfold fSlice
  rw [W_bind]
  congr 1
  funext r st1
  rw [W_bind]
  congr 1
  funext lo st2
  rw [W_bind]
  congr 1
  funext hi st3
  unfold W
  dsimp only
  cases r st3 with
  | none => with_unfolding_all rfl
  | some t => cases t <;> with_unfolding_all rfl
theorem W_fRev {m : M Rdr} {Φ : Ob → Stt → Prop} : W (fRev m) st Φ = W m st (fun r st1 => Op (r st1) (fun t => match t with
    | .fz ts => Φ (.lst ts.reverse) st1
    | _ => False)) := by
  unfold fRev
  rw [W_bind]
  congr 1
  funext r st1
  unfold W
  dsimp only
  cases r st1 with
  | none => with_unfolding_all rfl
  | some t => cases t <;> with_unfolding_all rfl
/-- a list place is wanted -/
def Lw (o : Option (Ob × (Ob → Stt))) (Φ : List T → (Ob → Stt) → Prop) : Prop := match o with
  | some (.lst us, set) => Φ us set
  | _ => False
theorem Lw_some {us : List T} {set : Ob → Stt} {Φ : List T → (Ob → Stt) → Prop} : Lw (some (.lst us, set)) Φ = Φ us set := by with_unfolding_all rfl
theorem W_eLst {f : List T → List T → Option (List T × T)} {mp : M Plc} {ma : M (List T)} {Φ : T → Stt → Prop} : W (eLst f mp ma) st Φ =
    W mp st (fun pl st1 => Lw (pl st1) (fun _ _ => W ma st1 (fun as st2 => Lw (pl st2) (fun us set => Op (f us as) (fun p => Φ p.2 (set (.lst p.1))))))) := by
  unfold eLst
  rw [W_bind]
  congr 1
  funext pl st1
  rw [W_bind]
  unfold W isLst Lw
  cases pl st1 with
  | none => with_unfolding_all rfl
  | some p =>
    obtain ⟨ob, set⟩ := p
    cases ob with
    | lst us =>
      simp only [bind_def]
      cases ma st1 with
      | none => with_unfolding_all rfl
      | some p =>
        obtain ⟨r, st2⟩ := p
        cases r with
        | exc x => with_unfolding_all rfl
        | ok as =>
          simp only [opL]
          cases pl st2 with
          | none => with_unfolding_all rfl
          | some p =>
            obtain ⟨ob, set⟩ := p
            cases ob with
            | lst us =>
              simp only
              cases f us as with
              | none => with_unfolding_all rfl
              | some p => with_unfolding_all rfl
            | _ => with_unfolding_all rfl
    | _ => with_unfolding_all rfl
theorem W_eLst0 {f : List T → List T → Option (List T × T)} {mp : M Plc} {Φ : T → Stt → Prop} : W (eLst0 f mp) st Φ =
    W mp st (fun pl st1 => Lw (pl st1) (fun us set => Op (f us []) (fun p => Φ p.2 (set (.lst p.1))))) := by
  unfold eLst0
  rw [W_bind]
  congr 1
  funext pl st1
  unfold W opL Lw
  cases pl st1 with
  | none => with_unfolding_all rfl
  | some p =>
    obtain ⟨ob, set⟩ := p
    cases ob with
    | lst us =>
      simp only
      cases f us [] with
      | none => with_unfolding_all rfl
      | some p => with_unfolding_all rfl
    | _ => with_unfolding_all rfl
theorem W_mVar {i : Nat} {Φ : Plc → Stt → Prop} : W (mVar i) st Φ = Op (pVar i st) (fun _ => Φ (pVar i) st) := by
  unfold W mVar
  cases pVar i st <;> with_unfolding_all rfl
theorem W_mRef {m : M T} {Φ : Plc → Stt → Prop} : W (mRef m) st Φ = W m st (fun t st1 => match t with | .ref a => Φ (pRef a) st1 | _ => False) := by
  unfold mRef
  rw [W_bind]
  congr 1
  funext t st1
  cases t <;> with_unfolding_all rfl
theorem W_eMeth {Ty : String} {f : T → List T → Option T} {m : M Rdr} {ma : M (List T)} {Φ : T → Stt → Prop} : W (eMeth Ty f m ma) st Φ =
    W m st (fun r st1 => Op (r st1) (fun t => tyOk Ty t = true ∧ W ma st1 (fun as st2 => Op (r st2) (fun t => Op (f t as) (fun x => Φ x st2))))) := by
  unfold eMeth
  rw [W_bind]
  congr 1
  funext r st1
  rw [W_bind]
  unfold W isTy
  cases r st1 with
  | none => with_unfolding_all rfl
  | some t =>
    by_cases h : tyOk Ty t = true
    · simp only [h, if_true, Op_some, true_and, bind_def]
      cases ma st1 with
      | none => with_unfolding_all rfl
      | some p =>
        obtain ⟨q, st2⟩ := p
        cases q with
        | exc x => with_unfolding_all rfl
        | ok as =>
          simp only
          cases r st2 with
          | none => with_unfolding_all rfl
          | some t =>
            simp only [Op_some]
            cases f t as <;> with_unfolding_all rfl
    · simp [h, Op_some]
theorem W_eFn {m : FnM} {ma : M (List T)} {Φ : T → Stt → Prop} : W (eFn m ma) st Φ = W ma st (fun ts st1 => Fw m ts st1.S (fun t S' => Φ t { st1 with S := S' })) := by
  unfold eFn
  rw [W_bind]
  congr 1
  funext ts st1
  unfold W Fw
  dsimp only
  cases m ts st1.S with
  | none => with_unfolding_all rfl
  | some p =>
    obtain ⟨r, S'⟩ := p
    cases r <;> with_unfolding_all rfl
/-! statements -/
theorem W_cSeq {a b : Cmd} {Φ : Fl → Stt → Prop} : W (cSeq a b) st Φ = W a st (fun f st1 => match f with | .nxt => W b st1 Φ | f => Φ f st1) := by
  unfold cSeq
  rw [W_bind]
  congr 1
  funext f st1
  cases f <;> with_unfolding_all rfl
theorem W_cRet {m : M T} {Φ : Fl → Stt → Prop} : W (cRet m) st Φ = W m st (fun t st1 => Φ (.ret t) st1) := by
  unfold cRet
  rw [W_bind]
  with_unfolding_all rfl
theorem W_cExpr {m : M T} {Φ : Fl → Stt → Prop} : W (cExpr m) st Φ = W m st (fun _ st1 => Φ .nxt st1) := by
  unfold cExpr
  rw [W_bind]
  with_unfolding_all rfl
theorem W_cIf {c : M Bool} {a b : Cmd} {Φ : Fl → Stt → Prop} : W (cIf c a b) st Φ = W c st (fun d st1 => if d = true then W a st1 Φ else W b st1 Φ) := by
  unfold cIf
  rw [W_bind]
  congr 1
  funext d st1
  cases d <;> with_unfolding_all rfl
theorem W_cSet {i : Nat} {m : M T} {Φ : Fl → Stt → Prop} : W (cSet i m) st Φ = W m st (fun t st1 => Φ .nxt { st1 with σ := st1.σ.set i (.val t) }) := by
  unfold cSet
  rw [W_bind]
  with_unfolding_all rfl
theorem W_cOwn {i : Nat} {m : M Ob} {Φ : Fl → Stt → Prop} : W (cOwn i m) st Φ = W m st (fun t st1 => Φ .nxt { st1 with σ := st1.σ.set i (.own t) }) := by
  unfold cOwn
  rw [W_bind]
  with_unfolding_all rfl
theorem W_cUnp {tg : Tg} {m : M T} {Φ : Fl → Stt → Prop} : W (cUnp tg m) st Φ = W m st (fun t st1 => Op (asgT tg t st1.σ) (fun σ' => Φ .nxt { st1 with σ := σ' })) := by
  unfold cUnp
  rw [W_bind]
  congr 1
  funext t st1
  unfold W
  dsimp only
  cases asgT tg t st1.σ <;> with_unfolding_all rfl
theorem W_cSetIx {mp : M Plc} {mi m : M T} {Φ : Fl → Stt → Prop} : W (cSetIx mp mi m) st Φ = W m st (fun t st1 => W mp st1 (fun pl st2 => W mi st2 (fun k st3 => Op (pl st3) (fun p => Op (setF p.1 k t) (fun ob => Φ .nxt (p.2 ob)))))) := by
  unfold cSetIx
  rw [W_bind]
  congr 1
  funext t st1
  rw [W_bind]
  congr 1
  funext pl st2
  rw [W_bind]
  congr 1
  funext k st3
  unfold W
  dsimp only
  cases pl st3 with
  | none => with_unfolding_all rfl
  | some p =>
    obtain ⟨ob, set⟩ := p
    simp only [Op_some]
    cases setF ob k t <;> with_unfolding_all rfl
theorem W_cPut {mp : M Plc} {mk mv : M T} {Φ : Fl → Stt → Prop} : W (cPut mp mk mv) st Φ = W mv st (fun t st1 => W mp st1 (fun pl st2 => W mk st2 (fun k st3 => Op (pl st3) (fun p => match p.1 with
    | .dct ks vs => isKey k = true ∧ ks.length ≤ 1000000 ∧ Φ .nxt (p.2 (putD ks vs k t))
    | _ => False)))) := by
  unfold cPut
  rw [W_bind]
  congr 1
  funext t st1
  rw [W_bind]
  congr 1
  funext pl st2
  rw [W_bind]
  congr 1
  funext k st3
  unfold W
  dsimp only
  cases pl st3 with
  | none => with_unfolding_all rfl
  | some p =>
    obtain ⟨ob, set⟩ := p
    cases ob with
    | dct ks vs =>
      simp only [Op_some]
      by_cases h : isKey k = true ∧ ks.length ≤ 1000000
      · simp [h]
      · simp only [if_neg h]
        simp only [eq_iff_iff, false_iff]
        exact fun z => h ⟨z.1, z.2.1⟩
    | _ => with_unfolding_all rfl
theorem Fw_fnM {n : Nat} {c : Cmd} {ts : List T} {S : List Ob} {Φ : T → List Ob → Prop} : Fw (fnM n c) ts S Φ = W c ⟨ts.map .val ++ List.replicate (n - ts.length) .emp, S⟩ (fun f st' => match f with | .nxt => Φ .non st'.S | .ret t => Φ t st'.S | _ => False) := by
  unfold Fw fnM W
  cases c ⟨ts.map .val ++ List.replicate (n - ts.length) .emp, S⟩ with
  | none => with_unfolding_all rfl
  | some p =>
    obtain ⟨r, st'⟩ := p
    cases r with
    | exc x => with_unfolding_all rfl
    | ok f => cases f <;> with_unfolding_all rfl
/-! iterables -/
theorem W_iU {m : M T} {Φ : Itr → Stt → Prop} : W (iU m) st Φ = W m st (fun t st1 => match t with
    | .tup ts => Φ ⟨ts, fun _ => True⟩ st1
    | .str s => Φ ⟨s.map fun c => .str [c], fun _ => True⟩ st1
    | t => Op (lstAt st1.S t) (fun ts => Φ ⟨ts, fun st' => lstAt st'.S t = some ts⟩ st1)) := by
  unfold iU
  rw [W_bind]
  congr 1
  funext t st1
  unfold W
  cases t with
  | ref a =>
    simp only
    cases lstAt st1.S (.ref a) <;> with_unfolding_all rfl
  | _ => with_unfolding_all rfl
theorem W_iVar {i : Nat} {Φ : Itr → Stt → Prop} : W (iVar i) st Φ = Op (rVar i st) (fun t => match t with
    | .fz ts => Φ ⟨ts, fun st' => rVar i st' = some (.fz ts)⟩ st
    | _ => False) := by
  unfold W iVar
  cases rVar i st with
  | none => with_unfolding_all rfl
  | some t => cases t <;> with_unfolding_all rfl
theorem W_iRange {m : M (List T)} {Φ : Itr → Stt → Prop} : W (iRange m) st Φ = W m st (fun ts st1 => match ts with
    | [.int n] => (n ≤ 1000000 ∧ -1000000 ≤ n) ∧ Φ ⟨(List.range n.toNat).map fun k => .int (k : Nat), fun _ => True⟩ st1
    | _ => False) := by
  unfold iRange
  rw [W_bind]
  congr 1
  funext ts st1
  match ts with
  | [.int n] =>
    simp only
    by_cases h : n ≤ 1000000 ∧ -1000000 ≤ n
    · rw [if_pos h, W_pure]; simp [h]
    · rw [if_neg h, W_stuck]; simp [h]
  | [] => with_unfolding_all rfl
  | .int _ :: _ :: _ => with_unfolding_all rfl
  | .non :: _ => with_unfolding_all rfl
  | .bl _ :: _ => with_unfolding_all rfl
  | .str _ :: _ => with_unfolding_all rfl
  | .ty _ :: _ => with_unfolding_all rfl
  | .tup _ :: _ => with_unfolding_all rfl
  | .fz _ :: _ => with_unfolding_all rfl
  | .ref _ :: _ => with_unfolding_all rfl
  | .scr _ :: _ => with_unfolding_all rfl
  | .dic _ _ :: _ => with_unfolding_all rfl
theorem W_iEnumU {m : M (List T)} {Φ : Itr → Stt → Prop} : W (iEnumU m) st Φ = W m st (fun ts st1 => match ts with
    | [t] => Op (lstAt st1.S t) (fun us => Φ ⟨enumT us, fun st' => lstAt st'.S t = some us⟩ st1)
    | _ => False) := by
  unfold iEnumU
  rw [W_bind]
  congr 1
  funext ts st1
  match ts with
  | [t] =>
    unfold W
    simp only
    cases lstAt st1.S t <;> with_unfolding_all rfl
  | [] => with_unfolding_all rfl
  | _ :: _ :: _ => with_unfolding_all rfl
theorem W_iZipU {m : M (List T)} {Φ : Itr → Stt → Prop} : W (iZipU m) st Φ = W m st (fun ts st1 => match ts with
    | [t, u] => (match t, u with
      | .tup ts, .tup us => Φ ⟨zipT ts us, fun _ => True⟩ st1
      | t, u => Op (lstAt st1.S t) (fun us => Op (lstAt st1.S u) (fun ws => Φ ⟨zipT us ws, fun st' => lstAt st'.S t = some us ∧ lstAt st'.S u = some ws⟩ st1)))
    | _ => False) := by
  unfold iZipU
  rw [W_bind]
  congr 1
  funext ts st1
  match ts with
  | [t, u] =>
    have h : ∀ t u : T, W (fun st => match lstAt st.S t, lstAt st.S u with
      | some ts, some us => some (R.ok (⟨zipT ts us, fun st' => lstAt st'.S t = some ts ∧ lstAt st'.S u = some us⟩ : Itr), st)
      | _, _ => none : M Itr) st1 Φ = Op (lstAt st1.S t) (fun us => Op (lstAt st1.S u) (fun ws => Φ ⟨zipT us ws, fun st' => lstAt st'.S t = some us ∧ lstAt st'.S u = some ws⟩ st1)) := fun t u => by
      unfold W
      dsimp only
      cases lstAt st1.S t with
      | none => rfl
      | some us => cases lstAt st1.S u <;> rfl
    cases t <;> first | exact h _ _ | (cases u <;> first | exact h _ _ | with_unfolding_all rfl)
  | [] => with_unfolding_all rfl
  | [_] => with_unfolding_all rfl
  | _ :: _ :: _ :: _ => with_unfolding_all rfl
/-! loops -/
theorem W_cFor {mi : M Itr} {tg : Tg} {body : Cmd} {Φ : Fl → Stt → Prop} : W (cFor mi tg body) st Φ = W mi st (fun it st1 => W (forL it.chk tg body it.ts) st1 Φ) := by
  unfold cFor
  rw [W_bind]
/-- what a turn of a loop is to come to -/
def turn (I : Stt → Prop) (Φ : Fl → Stt → Prop) : Fl → Stt → Prop
  | .nxt, st => I st
  | .cnt, st => I st
  | .brk, st => Φ .nxt st
  | .ret v, st => Φ (.ret v) st
theorem W_forL {chk : Stt → Prop} {tg : Tg} {body : Cmd} {Φ : Fl → Stt → Prop} (I : Nat → Stt → Prop) : ∀ (ts : List T) (k : Nat) (st : Stt), I k st →
    (∀ i t st, ts[i]? = some t → I (k + i) st → chk st ∧ Op (asgT tg t st.σ) (fun σ' => W body { st with σ := σ' } (turn (I (k + i + 1)) Φ))) → (∀ st, I (k + ts.length) st → chk st ∧ Φ .nxt st) → W (forL chk tg body ts) st Φ
  | [], k, st, h0, _, he => by
    obtain ⟨hc, q⟩ := he st h0
    unfold W forL
    rw [if_pos hc]
    with_unfolding_all exact q
  | t :: ts, k, st, h0, hs, he => by
    obtain ⟨hc, q⟩ := hs 0 t st rfl h0
    obtain ⟨σ', ea, q⟩ := q.ex
    obtain ⟨f, st', eb, q⟩ := q.ex
    have rest : I (k + 0 + 1) st' → W (forL chk tg body ts) st' Φ := fun h =>
      W_forL I ts (k + 1) st' h (fun i u s e hi => by
        have := hs (i + 1) u s (by rw [List.getElem?_cons_succ]; exact e) (by rw [show k + (i + 1) = k + 1 + i by omega]; exact hi)
        rw [show k + (i + 1) = k + 1 + i by omega] at this
        exact this) (fun s hi => he s (by rw [List.length_cons, show k + (ts.length + 1) = k + 1 + ts.length by omega]; exact hi))
    unfold W forL
    rw [if_pos hc]
    simp only [ea, eb]
    cases f with
    | nxt => with_unfolding_all exact rest q
    | cnt => with_unfolding_all exact rest q
    | brk => with_unfolding_all exact q
    | ret v => with_unfolding_all exact q
theorem W_whileL {b : M Bool} {body : Cmd} {Φ : Fl → Stt → Prop} (I : Nat → Stt → Prop) (hs : ∀ n st, I n st → W b st (fun c st1 => if c = true then W body st1 (turn (fun st2 => ∃ m, m < n ∧ I m st2) Φ) else Φ .nxt st1)) : ∀ (fuel n : Nat) (st : Stt), n < fuel → I n st → W (whileL b body fuel) st Φ
  | 0, n, st, h, _ => absurd h (Nat.not_lt_zero _)
  | fuel + 1, n, st, h, hi => by
    unfold whileL
    rw [W_bind]
    refine (hs n st hi).mono fun c st1 q => ?_
    cases c with
    | false => with_unfolding_all exact q
    | true =>
      rw [if_pos rfl] at q
      show W (body >>= _) st1 Φ
      rw [W_bind]
      refine q.mono fun f st2 q => ?_
      cases f with
      | nxt =>
        obtain ⟨m, hm, hi2⟩ := q
        exact W_whileL I hs fuel m st2 (by omega) hi2
      | cnt =>
        obtain ⟨m, hm, hi2⟩ := q
        exact W_whileL I hs fuel m st2 (by omega) hi2
      | brk => with_unfolding_all exact q
      | ret v => with_unfolding_all exact q
/-- a comprehension by an invariant: I i done st, ahead of turn i -/
theorem lcL_inv {chk : Stt → Prop} {own : List Nat} {tg : Tg} {test : M Bool} {elt : M T} (I : Nat → List T → Stt → Prop) : ∀ (ts : List T) (k : Nat) (done : List T) (st : Stt), I k done st →
    (∀ i t done st, ts[i]? = some t → I (k + i) done st → chk st ∧ Op (asgT tg t st.σ) (fun σ' => W test { st with σ := σ' } (fun b st1 => if b = true then W elt st1 (fun y st2 => I (k + i + 1) (done ++ [y]) { st2 with σ := wipeS st2.σ own })
      else I (k + i + 1) done { st1 with σ := wipeS st1.σ own }))) → (∀ done st, I (k + ts.length) done st → chk st) → ∃ ys st', lcL chk own tg test elt ts st = some (ys, st') ∧ I (k + ts.length) (done ++ ys) st'
  | [], k, done, st, h0, _, he => by
    refine ⟨[], st, ?_, by rw [List.append_nil]; exact h0⟩
    unfold lcL
    rw [if_pos (he done st h0)]
  | t :: ts, k, done, st, h0, hs, he => by
    obtain ⟨hc, q⟩ := hs 0 t done st rfl h0
    obtain ⟨σ', ea, q⟩ := q.ex
    obtain ⟨b, st1, et, q⟩ := q.ex
    have rest : ∀ done' st', I (k + 0 + 1) done' st' → ∃ ys stE, lcL chk own tg test elt ts st' = some (ys, stE) ∧ I (k + (t :: ts).length) (done' ++ ys) stE := fun done' st' h => by
      have := lcL_inv I ts (k + 1) done' st' h (fun i u dn s e hi => by
        have := hs (i + 1) u dn s (by rw [List.getElem?_cons_succ]; exact e) (by rw [show k + (i + 1) = k + 1 + i by omega]; exact hi)
        rw [show k + (i + 1) = k + 1 + i by omega] at this
        exact this) (fun dn s hi => he dn s (by rw [List.length_cons, show k + (ts.length + 1) = k + 1 + ts.length by omega]; exact hi))
      rw [List.length_cons, show k + (ts.length + 1) = k + 1 + ts.length by omega]
      exact this
    cases b with
    | false =>
      rw [if_neg (by simp)] at q
      obtain ⟨ys, stE, e, q⟩ := rest done _ q
      refine ⟨ys, stE, ?_, q⟩
      unfold lcL
      rw [if_pos hc]
      simp only [ea, et, e]
    | true =>
      rw [if_pos rfl] at q
      obtain ⟨y, st2, ee, q⟩ := q.ex
      obtain ⟨ys, stE, e, q⟩ := rest _ _ q
      refine ⟨y :: ys, stE, ?_, by rw [List.append_assoc] at q; exact q⟩
      unfold lcL
      rw [if_pos hc]
      simp only [ea, et, ee, e]
theorem W_fComp {mi : M Itr} {own : List Nat} {tg : Tg} {test : M Bool} {elt : M T} {Φ : Ob → Stt → Prop} : W (fComp mi own tg test elt) st Φ = W mi st (fun it st1 => (it.ts.length ≤ 1000000 ∧ own.all (fun v => notOwn st1.σ[v]?) = true) ∧
    Op (lcL it.chk own tg test elt it.ts { st1 with σ := wipeS st1.σ own }) (fun p => Φ (.lst p.1) { p.2 with σ := restS st1.σ p.2.σ own })) := by
  unfold fComp
  rw [W_bind]
  congr 1
  funext it st1
  unfold W
  by_cases h : it.ts.length ≤ 1000000 ∧ own.all (fun v => notOwn st1.σ[v]?) = true
  · simp only [if_pos h, eq_iff_iff]
    cases lcL it.chk own tg test elt it.ts { st1 with σ := wipeS st1.σ own } with
    | none => simp [Op]
    | some p => simp only [Op]; exact ⟨fun z => ⟨h, z⟩, fun z => z.2⟩
  · simp only [if_neg h, eq_iff_iff, false_iff]
    exact fun z => h z.1
/-- .. whose test and element change nothing -/
theorem lcL_pure {chk : Stt → Prop} {own : List Nat} {tg : Tg} {test : M Bool} {elt : M T} {st : Stt} (p : T → Bool) (f : T → T) (hc : chk st) : ∀ ts : List T,
    (∀ t ∈ ts, Op (asgT tg t st.σ) (fun σ' => wipeS σ' own = st.σ ∧ W test { st with σ := σ' } (fun b st1 => b = p t ∧ st1 = { st with σ := σ' }) ∧ (p t = true → W elt { st with σ := σ' } (fun y st1 => y = f t ∧ st1 = { st with σ := σ' })))) →
    lcL chk own tg test elt ts st = some ((ts.filter p).map f, st)
  | [], _ => by unfold lcL; rw [if_pos hc]; with_unfolding_all rfl
  | t :: ts, h => by
    obtain ⟨σ', ea, hw, ht, he⟩ := (h t List.mem_cons_self).ex
    obtain ⟨b, st1, et, rfl, rfl⟩ := ht.ex
    have ih := lcL_pure p f hc ts fun u hu => h u (List.mem_cons_of_mem _ hu)
    have es : ({ st with σ := wipeS σ' own } : Stt) = st := by rw [hw]
    unfold lcL
    rw [if_pos hc]
    simp only [ea, et]
    cases hp : p t with
    | false =>
      simp only [es, ih]
      rw [List.filter_cons_of_neg (by rw [hp]; simp)]
    | true =>
      obtain ⟨y, st2, ee, rfl, rfl⟩ := (he hp).ex
      simp only [ee, es, ih]
      rw [List.filter_cons_of_pos hp]
      with_unfolding_all rfl
end
end Sw
namespace Sw
open PySem PySem.Spec PyProof.Rows L2
open Classical
section
variable {E : Ev} {g g1 : Gh} {H H1 : Hp} {σ : L2.St} {X : Cx} {pos : Pos}
/-- enumerate of a name's own list: it must not change -/
def iEnumV (i : Nat) : M Itr := fun st => match rVar i st with
  | some (.fz ts) => some (.ok ⟨enumT ts, fun st' => rVar i st' = some (.fz ts)⟩, st)
  | _ => none
theorem im_enumV {i : Nat} {e : Expr} {p tpos : Pos} {elts : List Expr} {kk : Nat} (hg : Gl X "enumerate") (hm : X.mg "enumerate" = none) (h : PE X e (tVar i)) (hs : starEach [e] X.env = [(false, eval e X.env)] := by rfl) :
    IM E [i] X (.Tuple elts kk tpos) (.Call (.Name "enumerate" p) [e] [] pos) (iEnumV i) :=
  ⟨PI.mono (pi_enum hg hm (pa_cons h pa_nil hs) hs) fun σ H R ⟨g, st, r, z⟩ => by
    unfold run iEnumV at z
    cases e1 : rVar i st with
    | none => simp only [e1] at z
    | some t =>
      simp only [e1] at z
      cases t with
      | fz ts =>
        simp only at z
        obtain ⟨v, ev⟩ := rVar_some r e1
        have rd := var_rd (E := E) (g := g) (H := H) (st := st) ev
        obtain ⟨a, xs, e, ha, rl⟩ := rd g st H _ r (Stp.refl _ _) e1
        have hlen : (enumT ts).length = ts.length := by simp [enumT]
        have sq : ∀ {g' st' σ' H'}, Rel E.K g' st' σ' H' → (∀ j ∈ [i], σ'[j]? = σ[j]?) → rVar i st' = some (.fz ts) → ∃ xs, H' a = some (.lst xs) ∧ RepL E.K g' ts xs := fun {g' st' σ' H'} r' hs e' => by
          have ev' : σ'[i]? = some (some v) := (hs i (List.mem_singleton.mpr rfl)).trans ev
          have rd' := var_rd (E := E) (g := g') (H := H') (st := st') ev'
          obtain ⟨b, ys, e2, hb, rl2⟩ := rd' g' st' H' _ r' (Stp.refl _ _) e'
          rw [e] at e2
          cases e2
          exact ⟨ys, hb, rl2⟩
        refine ⟨v, ev, a, xs, by rw [e], .inl (.inl ha), z g H r (Stp.refl _ _) _ ⟨fun g' st' σ' H' k r' s hch hs hi => ?_, fun g' st' σ' H' r' s hch hs => ?_, fun g' st' σ' H' k x H2 r' s hch hs hi y => ?_⟩⟩
        · obtain ⟨ys, hb, rl2⟩ := sq r' hs hch
          have hi : k < ts.length := by rw [← hlen]; exact hi
          obtain ⟨t, e⟩ := lt_get hi
          obtain ⟨x, ex, _⟩ := rl2.get e
          exact ⟨ys, x, .inl (.inl hb), ex⟩
        · obtain ⟨ys, hb, rl2⟩ := sq r' hs hch
          exact ⟨ys, .inl (.inl hb), by rw [rl2.len, ← hlen]; exact Nat.le_refl _⟩
        · obtain ⟨ys, hb, rl2⟩ := sq r' hs hch
          have hi : k < ts.length := by rw [← hlen]; exact hi
          obtain ⟨t, et⟩ := lt_get hi
          obtain ⟨x', ex, rx⟩ := rl2.get et
          obtain ⟨p, q, e1, hp, e2, y⟩ := y
          have e3 := y ys (.inl (.inl hb))
          rw [ex] at e3
          cases e3
          obtain ⟨r2, s2⟩ := r'.frz (o := .tup [.int (k : Nat), x']) hp
          rw [e1, e2]
          exact ⟨_, .tup [.int (k : Nat), t], r2, s2, by simp [enumT, et], rep_tup hp r'.zs (.two (rt_int _) rx)⟩
      | _ => exact z.elim⟩
theorem W_iEnumV {i : Nat} {st : Stt} {Φ : Itr → Stt → Prop} : W (iEnumV i) st Φ = Op (rVar i st) (fun t => match t with
    | .fz ts => Φ ⟨enumT ts, fun st' => rVar i st' = some (.fz ts)⟩ st
    | _ => False) := by
  unfold W iEnumV
  cases rVar i st with
  | none => rfl
  | some t => cases t <;> rfl
section
variable {x : Str} {p : Pos}
theorem iev {tpos cp : Pos} {elts : List Expr} {kk : Nat} (hm : X.mg "enumerate" = none) (i : Nat) (hg : Gl X "enumerate" := by rfl) (hN : X.N[i]? = some x := by rfl) (hv : Vis X.env.scope x := by first | exact Or.inl rfl | exact Or.inr (Or.inl rfl) | exact Or.inr (Or.inr rfl)) (hd : (x == ("__debug__" : Str)) = false := by decide)
    (hcd : (x == ("__classdict__" : Str)) = false := by decide) : IM E [i] X (.Tuple elts kk tpos) (.Call (.Name "enumerate" cp) [.Name x p] [] pos) (iEnumV i) := im_enumV hg hm (pe_var hN hv hd hcd)
end
end
end Sw
namespace Sw
open PySem PySem.Spec PyProof.Rows L2
open Classical
section
variable {E : Ev} {g g1 : Gh} {H H1 : Hp} {σ : L2.St} {X : Cx} {pos : Pos}
def sortC (zs : List (List Nat)) : List (List Nat) := zs.mergeSort (fun a b => decide (a ≤ b))
theorem sortC_perm {zs : List (List Nat)} : (sortC zs).Perm zs := List.mergeSort_perm _ _
theorem sortC_sorted {zs : List (List Nat)} : (sortC zs).Pairwise (· ≤ ·) := by
  have := List.pairwise_mergeSort (le := fun a b : List Nat => decide (a ≤ b)) (fun a b c h1 h2 => by
    simp only [decide_eq_true_eq] at *
    exact List.le_trans h1 h2) (fun a b => by
    simp only [Bool.or_eq_true, decide_eq_true_eq]
    exact List.le_total a b) zs
  exact this.imp fun h => by simpa using h
theorem sorted_uniq : ∀ {a b : List (List Nat)}, a.Perm b → a.Pairwise (· ≤ ·) → b.Pairwise (· ≤ ·) → a = b
  | [], b, h, _, _ => by rw [List.nil_perm.mp h]
  | x :: a, [], h, _, _ => by have := h.length_eq; simp at this
  | x :: a, y :: b, h, h1, h2 => by
    rw [List.pairwise_cons] at h1 h2
    have e : x = y := by
      have hx := h.mem_iff.mp List.mem_cons_self
      have hy := h.mem_iff.mpr (List.mem_cons_self (a := y) (l := b))
      rcases List.mem_cons.mp hx with e | hx
      · exact e
      · rcases List.mem_cons.mp hy with e | hy
        · exact e.symm
        · exact List.le_antisymm (h1.1 y hy) (h2.1 x hx)
    subst e
    rw [sorted_uniq h.cons_inv h1.2 h2.2]
theorem rising_pw : ∀ {ss : List Str} {p : Str}, risingS p ss = true → (p :: ss).Pairwise (fun a b : Str => a.cps.toList ≤ b.cps.toList)
  | [], p, _ => by simp
  | x :: r, p, h => by
    have h : (!ltCps x.cps.toList p.cps.toList && risingS x r) = true := h
    rw [Bool.and_eq_true] at h
    have ih := rising_pw h.2
    have hx : p.cps.toList ≤ x.cps.toList := by
      have h1 := h.1
      rw [ltCps_eq] at h1
      simpa using h1
    rw [List.pairwise_cons]
    refine ⟨fun y hy => ?_, ih⟩
    rcases List.mem_cons.mp hy with rfl | hy
    · exact hx
    · exact List.le_trans hx ((List.pairwise_cons.mp ih).1 y hy)
theorem sortedS_pw : ∀ {ss : List Str}, sortedS ss = true → (ss.map fun s => s.cps.toList).Pairwise (· ≤ ·)
  | [], _ => by simp
  | x :: r, h => by
    have := rising_pw (show risingS x r = true from h)
    exact List.pairwise_map.mpr this
def sortO : List T → Option (List T)
  | [.fz ts] => match strsOf ts with
    | some zs => if zs.length < 64 then some ((sortC zs).map .str) else none
    | none => none
  | _ => none
theorem rep_strs {K : PySem.W.Frag} : ∀ (zs : List (List Nat)), RepL K g (zs.map .str) ((zs.map sS).map V.str)
  | [] => .nil
  | z :: zs => by
    unfold RepL
    exact ⟨_, _, rfl, rt_str z, rep_strs zs⟩
theorem lr_sorted : LRF E (rSortedS E.K) sortO := by
  intro g H ts us vs Q zs rk e q
  match ts, e with
  | [.fz ws], e =>
    simp only [sortO] at e
    cases es : strsOf ws with
    | none => rw [es] at e; cases e
    | some cs =>
      rw [es] at e
      simp only at e
      split at e
      · rename_i h64
        cases e
        obtain ⟨v, rfl, rv⟩ := rk.one
        obtain ⟨a, xs, rfl, ha, rl⟩ := rv
        have ex := rl.strs es
        subst ex
        refine ⟨a, cs.map sS, rfl, .inl (.inl ha), by rw [List.length_map]; exact h64, fun ys p hp hs hH => ?_⟩
        have e1 : (cs.map sS).map (fun s => s.cps.toList) = cs := by
          rw [List.map_map]
          conv => rhs; rw [← List.map_id cs]
          refine List.map_congr_left fun z _ => ?_
          simp [sS]
        have e2 : (ys.map fun s => s.cps.toList) = sortC cs := by
          refine sorted_uniq ?_ (sortedS_pw hs) sortC_sorted
          have := hp.map (fun s : Str => s.cps.toList)
          rw [e1] at this
          exact this.trans sortC_perm.symm
        have e3 : ys = (sortC cs).map sS := by
          rw [← e2, List.map_map]
          conv => lhs; rw [← List.map_id ys]
          refine List.map_congr_left fun z _ => ?_
          simp [sS]
        rw [e3]
        exact q p _ hH (rep_strs _)
      · cases e
theorem x_sorted {p : Pos} {e : Expr} {m : M (List Rdr)} (G : Gd E X) (hm : X.mg "sorted" = none) (ha : OA E X [e] m) (hg : Gl X "sorted" := by rfl)
    (he : starEach [e] X.env = (false, eval e X.env) :: starEach [] X.env := by rfl) (hpl : (backTo pos (starEach [] X.env)).any (·.1) = false := by rfl) : FE E X (.Call (.Name "sorted" p) [e] [] pos) (fCall sortO m) :=
  fe_callB cr_sortedS (G.K ▸ lr_sorted) hg hm (by decide +kernel) ha (by decide) (by decide) he hpl
theorem sort_O {zs : List (List Nat)} (h : zs.length < 64) : sortO [.fz (zs.map .str)] = some ((sortC zs).map .str) := by
  show (match strsOf (zs.map T.str) with | some zs => (if zs.length < 64 then some ((sortC zs).map T.str) else none : Option (List T)) | none => none) = _
  have e : ∀ zs : List (List Nat), strsOf (zs.map T.str) = some zs := fun zs => by
    induction zs with
    | nil => rfl
    | cons z zs ih =>
      show (strsOf (zs.map T.str)).map (z :: ·) = _
      rw [ih]
      rfl
  rw [e]
  simp only [h, if_true]
/-- a name's list, given away, or what it is where it was given away before -/
def eFr (i : Nat) : M T := fun st => match st.σ[i]? with
  | some (.val t) => some (.ok t, st)
  | some (.own (.lst ts)) => some (.ok (.fz ts), { st with σ := st.σ.set i (.val (.fz ts)) })
  | _ => none
theorem me_fr {i : Nat} {e : Expr} (h : PE X e (tVar i)) : ME E X e (eFr i) := by
  refine ⟨⟨fun pins s σ H Q I q => ?_⟩⟩
  obtain ⟨g, st, r, z⟩ := q
  cases es : st.σ[i]? with
  | none => unfold run eFr at z; simp only [es] at z
  | some sl =>
    cases sl with
    | emp => unfold run eFr at z; simp only [es] at z
    | val t =>
      refine (me_var (E := E) h).pe.run pins s σ H Q I ⟨g, st, r, ?_⟩
      unfold run eFr at z
      unfold run eVar
      simp only [es] at z ⊢
      exact z
    | own ob =>
      refine (me_frz (E := E) h).pe.run pins s σ H Q I ⟨g, st, r, ?_⟩
      unfold run eFr at z
      unfold run eFrz
      cases ob with
      | lst ts =>
        simp only [es] at z ⊢
        exact z
      | _ => simp only [es] at z
theorem W_eFr {i : Nat} {st : Stt} {Φ : T → Stt → Prop} : W (eFr i) st Φ = (match st.σ[i]? with | some (.val t) => Φ t st | some (.own (.lst ts)) => Φ (.fz ts) { st with σ := st.σ.set i (.val (.fz ts)) } | _ => False) := by
  unfold W eFr
  cases st.σ[i]? with
  | none => rfl
  | some s =>
    cases s with
    | own ob => cases ob <;> rfl
    | _ => rfl
theorem frv {x : Str} {p : Pos} (i : Nat) (hN : X.N[i]? = some x := by rfl) (hv : Vis X.env.scope x := by first | exact Or.inl rfl | exact Or.inr (Or.inl rfl) | exact Or.inr (Or.inr rfl)) (hd : (x == ("__debug__" : Str)) = false := by decide)
    (hcd : (x == ("__classdict__" : Str)) = false := by decide) : ME E X (.Name x p) (eFr i) := me_fr (pe_var hN hv hd hcd)
end
end Sw
namespace Sw
open PySem PySem.Spec PyProof.Rows L2
open Classical

/-! ### computations with no names: over the store alone -/
abbrev Q (α : Type) := List Ob → Option (R α × List Ob)
section
variable {α β γ δ : Type}
def qP (a : α) : Q α := fun S => some (.ok a, S)
def qZ : Q α := fun _ => none
def qB (m : Q α) (f : α → Q β) : Q β := fun S => match m S with
  | some (.ok a, S1) => f a S1
  | some (.exc x, S1) => some (.exc x, S1)
  | none => none
def qO (o : Option α) : Q α := match o with
  | some a => qP a
  | none => qZ
def qK (t : T) : Q T := fun S => match peekT S t with
  | some u => some (.ok u, S)
  | none => none
def qOp2 (f : T → T → Option T) (x y : T) : Q T := qB (qK x) fun a => qB (qK y) fun b => qO (f a b)
def qTr (t : T) : Q Bool := match t with
  | .bl b => qP b
  | _ => qZ
def qI (t : T) : Q Int := match t with
  | .int i => qP i
  | _ => qZ
def qKs : List T → Q (List T)
  | [] => qP []
  | t :: ts => qB (qK t) fun u => qB (qKs ts) fun us => qP (u :: us)
def qCall (f : List T → Option β) (xs : List T) : Q β := qB (qKs xs) fun ts => qO (f ts)
inductive F (γ α : Type) where
  | nxt (a : α) | brk (c : γ) | cnt (c : γ) | ret (t : T)
def qSeq (q : Q (F γ α)) (k : α → Q (F γ β)) : Q (F γ β) := qB q fun f => match f with
  | .nxt a => k a
  | .brk c => qP (.brk c)
  | .cnt c => qP (.cnt c)
  | .ret t => qP (.ret t)
def qFor (body : T → γ → Q (F γ γ)) : List T → γ → Q (F δ γ)
  | [], a => qP (.nxt a)
  | t :: ts, a => qB (body t a) fun f => match f with
    | .nxt a' => qFor body ts a'
    | .cnt a' => qFor body ts a'
    | .brk a' => qP (.nxt a')
    | .ret t => qP (.ret t)
def qWhile (test : γ → Q Bool) (body : γ → Q (F γ γ)) : Nat → γ → Q (F δ γ)
  | 0, _ => qZ
  | n + 1, a => qB (test a) fun b => if b then qB (body a) fun f => (match f with
      | .nxt a' => qWhile test body n a'
      | .cnt a' => qWhile test body n a'
      | .brk a' => qP (.nxt a')
      | .ret t => qP (.ret t)) else qP (.nxt a)
def qCompL (g : T → Q (Option T)) : List T → Q (List T)
  | [] => qP []
  | t :: ts => fun S => match g t S with
    | some (.ok o, S1) => match qCompL g ts S1 with
      | some (.ok ys, S2) => some (.ok (match o with | some y => y :: ys | none => ys), S2)
      | _ => none
    | _ => none
def qComp (g : T → Q (Option T)) (l : List T) : Q (List T) := if l.length ≤ 1000000 then qCompL g l else qZ
def un1 (t : T) (k : T → Q α) : Q α := match t with
  | .tup [x] => k x
  | _ => qZ
def un2 (t : T) (k : T → T → Q α) : Q α := match t with
  | .tup [x, y] => k x y
  | _ => qZ
def un3 (t : T) (k : T → T → T → Q α) : Q α := match t with
  | .tup [x, y, z] => k x y z
  | _ => qZ
def un4 (t : T) (k : T → T → T → T → Q α) : Q α := match t with
  | .tup [x, y, z, u] => k x y z u
  | _ => qZ
def un5 (t : T) (k : T → T → T → T → T → Q α) : Q α := match t with
  | .tup [x, y, z, u, v] => k x y z u v
  | _ => qZ
/-- the items of a thing that stands still -/
def qIt (t : T) : Q (List T) := match t with
  | .tup ts => qP ts
  | .str s => qP (s.map fun c => .str [c])
  | .fz ts => qP ts
  | _ => qZ
def qRange (t : T) : Q (List T) := match t with
  | .int n => if n ≤ 1000000 ∧ -1000000 ≤ n then qP ((List.range n.toNat).map fun k => .int (k : Nat)) else qZ
  | _ => qZ
def qEnum (t : T) : Q (List T) := match t with
  | .fz ts => qP (enumT ts)
  | _ => qZ
def qZip (t u : T) : Q (List T) := match t, u with
  | .tup ts, .tup us => qP (zipT ts us)
  | .fz ts, .fz us => qP (zipT ts us)
  | _, _ => qZ
def slU (t : T) (lo hi : Option Int) : Option T := match t with
  | .str s => if s.length ≤ 1000000 then some (.str (cutL s lo hi)) else none
  | .tup ts => some (.tup (cutL ts lo hi))
  | .fz ts => some (.fz (cutL ts lo hi))
  | .scr ns => some (.fz ((cutL ns lo hi).map .int))
  | _ => none
def slL (t : T) (lo hi : Option Int) : Option (List T) := match t with
  | .fz ts => some (cutL ts lo hi)
  | .scr ns => some ((cutL ns lo hi).map .int)
  | _ => none
def revL (t : T) : Option (List T) := match t with
  | .fz ts => some ts.reverse
  | _ => none
def qSl (f : T → Option Int → Option Int → Option β) (x : T) (lo hi : Option Int) : Q β := qB (qK x) fun t => qO (f t lo hi)
def qTup (ts : List T) : Q T := if ts.length ≤ 1000 then qP (.tup ts) else qZ
def qLst (ts : List T) : Q (List T) := if ts.length ≤ 1000 then qP ts else qZ
def qTy (Ty : String) (x : T) : Q Unit := qB (qK x) fun t => if tyOk Ty t then qP () else qZ
def qMeth (f : T → List T → Option T) (x : T) (as : List T) : Q T := qB (qK x) fun t => qO (f t as)
def setL (us : List T) (k t : T) : Option (List T) := match k with
  | .int i => (ixN us.length i).map fun j => us.set j t
  | _ => none
def putP (d : List T × List T) (q t : T) : List T × List T := if d.1.any (fun k => kEq k q) then (d.1, putV d.1 d.2 q t) else (d.1 ++ [q], d.2 ++ [t])
def qPut (d : List T × List T) (k t : T) : Q (List T × List T) := if isKey k = true ∧ d.1.length ≤ 1000000 then qP (putP d k t) else qZ
/-- a boxed list -/
def boxL (S : List Ob) (x : T) : Option (Nat × List T) := match x with
  | .ref a => match S[a]? with
    | some (.lst us) => some (a, us)
    | _ => none
  | _ => none
def qIsL (x : T) : Q Unit := fun S => match boxL S x with
  | some _ => some (.ok (), S)
  | none => none
def qBx (f : List T → List T → Option (List T × T)) (x : T) (as : List T) : Q T := fun S => match boxL S x with
  | some (a, us) => match f us as with
    | some (us', r) => some (.ok r, S.set a (.lst us'))
    | none => none
  | none => none
def qBxSet (x k t : T) : Q Unit := fun S => match boxL S x with
  | some (a, us) => match setL us k t with
    | some us' => some (.ok (), S.set a (.lst us'))
    | none => none
  | none => none
def qBox (ob : Ob) : Q T := fun S => some (.ok (.ref S.length), S ++ [ob])
def qFn (q : Q (F Unit Unit)) : Q T := qB q fun f => match f with
  | .nxt _ => qP .non
  | .ret t => qP t
  | _ => qZ
end

/-! ### .. and that a computation with names does what one without does -/
structure Sim {α β : Type} (X : List Sl → Prop) (m : M α) (σ : List Sl) (q : Q β) (R : α → β → List Sl → Prop) : Prop where
  run : ∀ S, match q S with
    | none => True
    | some (.ok b, S') => ∃ a σ', m ⟨σ, S⟩ = some (.ok a, ⟨σ', S'⟩) ∧ R a b σ'
    | some (.exc x, S') => ∃ σ', m ⟨σ, S⟩ = some (.exc x, ⟨σ', S'⟩) ∧ X σ'
section
variable {α β γ δ ε : Type} {X : List Sl → Prop} {σ σ1 σ2 : List Sl}
theorem Sim.ok {m : M α} {q : Q β} {R : α → β → List Sl → Prop} (h : Sim X m σ q R) {S S' : List Ob} {b : β} (e : q S = some (.ok b, S')) : ∃ a σ', m ⟨σ, S⟩ = some (.ok a, ⟨σ', S'⟩) ∧ R a b σ' := by
  have := h.run S
  rw [e] at this
  exact this
theorem Sim.ex {m : M α} {q : Q β} {R : α → β → List Sl → Prop} (h : Sim X m σ q R) {S S' : List Ob} {x : Xn} (e : q S = some (.exc x, S')) : ∃ σ', m ⟨σ, S⟩ = some (.exc x, ⟨σ', S'⟩) ∧ X σ' := by
  have := h.run S
  rw [e] at this
  exact this
theorem Sim.zz {m : M α} {R : α → β → List Sl → Prop} : Sim X m σ qZ R := ⟨fun _ => trivial⟩
theorem Sim.pur {a : α} {b : β} {R : α → β → List Sl → Prop} (h : R a b σ) : Sim X (pure a) σ (qP b) R := ⟨fun S => ⟨a, σ, rfl, h⟩⟩
theorem Sim.bnd {ρ : Type} {m : M α} {q : Q β} {f : α → M ε} {g : β → Q ρ} {R : α → β → List Sl → Prop} {R2 : ε → ρ → List Sl → Prop} (h : Sim X m σ q R) (k : ∀ a b σ', R a b σ' → Sim X (f a) σ' (g b) R2) : Sim X (m >>= f) σ (qB q g) R2 := ⟨fun S => by
  unfold qB
  rw [bind_def]
  cases e : q S with
  | none => trivial
  | some p =>
    obtain ⟨r, S1⟩ := p
    cases r with
    | ok b =>
      obtain ⟨a, σ', e1, hr⟩ := h.ok e
      rw [e1]
      exact (k a b σ' hr).run S1
    | exc x =>
      obtain ⟨σ', e1, hx⟩ := h.ex e
      rw [e1]
      exact ⟨σ', rfl, hx⟩⟩
theorem Sim.mono {m : M α} {q : Q β} {R R2 : α → β → List Sl → Prop} (h : Sim X m σ q R) (k : ∀ a b σ', R a b σ' → R2 a b σ') : Sim X m σ q R2 := ⟨fun S => by
  have := h.run S
  cases e : q S with
  | none => trivial
  | some p =>
    obtain ⟨r, S1⟩ := p
    rw [e] at this
    cases r with
    | ok b =>
      obtain ⟨a, σ', e1, hr⟩ := this
      exact ⟨a, σ', e1, k _ _ _ hr⟩
    | exc x => exact this⟩
/-- m's run at each store is m2's -/
theorem Sim.cg {m m2 : M α} {q : Q β} {R : α → β → List Sl → Prop} (h : Sim X m2 σ q R) (e : ∀ S, m ⟨σ, S⟩ = m2 ⟨σ, S⟩) : Sim X m σ q R := ⟨fun S => by
  have := h.run S
  rw [← e S] at this
  exact this⟩
/-- a value that is known -/
structure SP (m : M T) (σ : List Sl) (t : T) : Prop where run : ∀ S, m ⟨σ, S⟩ = some (.ok t, ⟨σ, S⟩)
/-- .. a name's list frozen -/
structure SPf (m : M T) (σ : List Sl) (t : T) (σ1 : List Sl) : Prop where run : ∀ S, m ⟨σ, S⟩ = some (.ok t, ⟨σ1, S⟩)
abbrev eR (σ1 : List Sl) : T → T → List Sl → Prop := fun a b σ' => a = b ∧ σ' = σ1
abbrev xR (v : β → T) (s : β → List Sl) : T → β → List Sl → Prop := fun a b σ' => a = v b ∧ σ' = s b
abbrev SE (X : List Sl → Prop) (m : M T) (σ : List Sl) (q : Q T) (σ1 : List Sl) : Prop := Sim X m σ q (eR σ1)
abbrev bR (σ1 : List Sl) : Bool → Bool → List Sl → Prop := fun a b σ' => a = b ∧ σ' = σ1
abbrev ST (X : List Sl → Prop) (m : M Bool) (σ : List Sl) (q : Q Bool) (σ1 : List Sl) : Prop := Sim X m σ q (bR σ1)
abbrev lR (σ1 : List Sl) : Ob → List T → List Sl → Prop := fun a b σ' => a = .lst b ∧ σ' = σ1
abbrev SL (X : List Sl → Prop) (m : M Ob) (σ : List Sl) (q : Q (List T)) (σ1 : List Sl) : Prop := Sim X m σ q (lR σ1)
abbrev oR (σ1 : List Sl) : Option Int → Option Int → List Sl → Prop := fun a b σ' => a = b ∧ σ' = σ1
/-! binds -/
theorem bV {m : M T} {f : T → M α} {t : T} {q : Q β} {R : α → β → List Sl → Prop} (h : SP m σ t) (k : Sim X (f t) σ q R) : Sim X (m >>= f) σ q R :=
  Sim.cg k fun S => by rw [bind_def, h.run S]
theorem bF {m : M T} {f : T → M α} {t : T} {q : Q β} {R : α → β → List Sl → Prop} (h : SPf m σ t σ1) (k : Sim X (f t) σ1 q R) : Sim X (m >>= f) σ q R := ⟨fun S => by
  have := k.run S
  rw [bind_def, h.run S]
  exact this⟩
theorem bE {m : M T} {f : T → M α} {q1 : Q T} {q2 : T → Q β} {R : α → β → List Sl → Prop} (h : SE X m σ q1 σ1) (k : ∀ t, Sim X (f t) σ1 (q2 t) R) : Sim X (m >>= f) σ (qB q1 q2) R :=
  h.bnd fun _ b _ ⟨e1, e2⟩ => by rw [e1, e2]; exact k b
theorem bX {m : M T} {f : T → M α} {q1 : Q ε} {v : ε → T} {s : ε → List Sl} {q2 : ε → Q β} {R : α → β → List Sl → Prop} (h : Sim X m σ q1 (xR v s)) (k : ∀ b, Sim X (f (v b)) (s b) (q2 b) R) : Sim X (m >>= f) σ (qB q1 q2) R :=
  h.bnd fun _ b _ ⟨e1, e2⟩ => by rw [e1, e2]; exact k b
theorem bT {m : M Bool} {f : Bool → M α} {q1 : Q Bool} {q2 : Bool → Q β} {R : α → β → List Sl → Prop} (h : ST X m σ q1 σ1) (k : ∀ t, Sim X (f t) σ1 (q2 t) R) : Sim X (m >>= f) σ (qB q1 q2) R :=
  h.bnd fun _ b _ ⟨e1, e2⟩ => by rw [e1, e2]; exact k b
theorem bL {m : M Ob} {f : Ob → M α} {q1 : Q (List T)} {q2 : List T → Q β} {R : α → β → List Sl → Prop} (h : SL X m σ q1 σ1) (k : ∀ t, Sim X (f (.lst t)) σ1 (q2 t) R) : Sim X (m >>= f) σ (qB q1 q2) R :=
  h.bnd fun _ b _ ⟨e1, e2⟩ => by rw [e1, e2]; exact k b
/-! values -/
theorem v_var {i : Nat} {t : T} (h : σ[i]? = some (.val t) := by rfl) : SP (eVar i) σ t := ⟨fun S => by unfold eVar; simp only [h]⟩
theorem v_con {t : T} : SP (pure t) σ t := ⟨fun S => rfl⟩
theorem v_frz {i : Nat} {ts : List T} (h : σ[i]? = some (.own (.lst ts)) := by rfl) : SPf (eFrz i) σ (.fz ts) (σ.set i (.val (.fz ts))) := ⟨fun S => by unfold eFrz; simp only [h]⟩
theorem v_fr {i : Nat} {ts : List T} (h : σ[i]? = some (.own (.lst ts)) := by rfl) : SPf (eFr i) σ (.fz ts) (σ.set i (.val (.fz ts))) := ⟨fun S => by unfold eFr; simp only [h]⟩
theorem v_frV {i : Nat} {t : T} (h : σ[i]? = some (.val t) := by rfl) : SP (eFr i) σ t := ⟨fun S => by unfold eFr; simp only [h]⟩
theorem eV {m : M T} {t : T} (h : SP m σ t) : SE X m σ (qP t) σ := ⟨fun S => ⟨t, σ, h.run S, rfl, rfl⟩⟩
theorem eF {m : M T} {t : T} (h : SPf m σ t σ1) : SE X m σ (qP t) σ1 := ⟨fun S => ⟨t, σ1, h.run S, rfl, rfl⟩⟩
/-- as an expression whose list may have been changed -/
theorem eOf {m : M T} {q : Q T} (h : SE X m σ q σ1) : Sim X m σ q (xR id fun _ => σ1) := h
theorem eEnd {t : T} : SE X (pure t) σ (qP t) σ := Sim.pur ⟨rfl, rfl⟩
theorem bEnd {t : Bool} : ST X (pure t) σ (qP t) σ := Sim.pur ⟨rfl, rfl⟩
/-! operands -/
def Rd (r : Rdr) (x : T) (σ : List Sl) : Prop := ∀ S, r ⟨σ, S⟩ = peekT S x
theorem oV {i : Nat} {t : T} {f : Rdr → M α} {q : Q β} {R : α → β → List Sl → Prop} (k : ∀ r, Rd r t σ → Sim X (f r) σ q R) (h : σ[i]? = some (.val t) := by rfl) : Sim X (oVar i >>= f) σ q R :=
  Sim.cg (k (rVar i) fun S => by unfold rVar; simp only [h]; rfl) fun S => by rw [bind_def]; unfold oVar; simp only [h]
theorem oW {i : Nat} {ts : List T} {f : Rdr → M α} {q : Q β} {R : α → β → List Sl → Prop} (k : ∀ r, Rd r (.fz ts) σ → Sim X (f r) σ q R) (h : σ[i]? = some (.own (.lst ts)) := by rfl) : Sim X (oVar i >>= f) σ q R :=
  Sim.cg (k (rVar i) fun S => by unfold rVar; simp only [h]; rfl) fun S => by rw [bind_def]; unfold oVar; simp only [h]
theorem oD {i : Nat} {ks vs : List T} {f : Rdr → M α} {q : Q β} {R : α → β → List Sl → Prop} (k : ∀ r, Rd r (.dic ks vs) σ → Sim X (f r) σ q R) (h : σ[i]? = some (.own (.dct ks vs)) := by rfl) : Sim X (oVar i >>= f) σ q R :=
  Sim.cg (k (rVar i) fun S => by unfold rVar; simp only [h]; rfl) fun S => by rw [bind_def]; unfold oVar; simp only [h]
theorem oC {m : M T} {t : T} {f : Rdr → M α} {q : Q β} {R : α → β → List Sl → Prop} (h : SP m σ t) (k : ∀ r, Rd r t σ → Sim X (f r) σ q R) : Sim X (oE m >>= f) σ q R :=
  Sim.cg (k (fun st => peekT st.S t) fun S => rfl) fun S => by unfold oE; rw [bind_def, bind_def, h.run S]; rfl
theorem oX {m : M T} {q1 : Q ε} {v : ε → T} {s : ε → List Sl} {f : Rdr → M α} {q2 : ε → Q β} {R : α → β → List Sl → Prop} (h : Sim X m σ q1 (xR v s)) (k : ∀ b r, Rd r (v b) (s b) → Sim X (f r) (s b) (q2 b) R) : Sim X (oE m >>= f) σ (qB q1 q2) R :=
  Sim.cg (m2 := m >>= fun t => f fun st => peekT st.S t) (bX h fun b => k b (fun st => peekT st.S (v b)) fun S => rfl) fun S => by
    unfold oE
    simp only [bind_def]
    cases m ⟨σ, S⟩ with
    | none => rfl
    | some p =>
      obtain ⟨r, st⟩ := p
      cases r <;> rfl
theorem oG {m : M T} {q1 : Q T} {f : Rdr → M α} {q2 : T → Q β} {R : α → β → List Sl → Prop} (h : SE X m σ q1 σ1) (k : ∀ t r, Rd r t σ1 → Sim X (f r) σ1 (q2 t) R) : Sim X (oE m >>= f) σ (qB q1 q2) R :=
  oX (v := id) (s := fun _ => σ1) h fun b r hr => k b r hr
theorem rd2 {f : T → T → Option T} {ra rb : Rdr} {x y : T} (ha : Rd ra x σ) (hb : Rd rb y σ) : SE X (fun st => match ra st, rb st with | some a, some b => ofO (f a b) st | _, _ => none) σ (qOp2 f x y) σ := ⟨fun S => by
  unfold qOp2 qB qK
  rw [ha S, hb S]
  cases peekT S x with
  | none => trivial
  | some a =>
    simp only
    cases peekT S y with
    | none => trivial
    | some b =>
      simp only
      cases f a b with
      | none => trivial
      | some t => exact ⟨t, σ, rfl, rfl, rfl⟩⟩
theorem sOp2 {f : T → T → Option T} {ma mb : M Rdr} {q : Q β} {R : T → β → List Sl → Prop} (k : Sim X (ma >>= fun ra => mb >>= fun rb => (fun st => match ra st, rb st with | some a, some b => ofO (f a b) st | _, _ => none : M T)) σ q R) : Sim X (eOp2 f ma mb) σ q R := k
theorem sChain {f f' : T → T → Option T} {ma mb mc : M Rdr} {q : Q β} {R : T → β → List Sl → Prop} (k : Sim X (ma >>= fun ra => mb >>= fun rb => ((fun st => match ra st, rb st with | some a, some b => ofO (f a b) st | _, _ => none : M T) >>= fun z => match z with
  | .bl true => (mc >>= fun rc => (fun st => match rb st, rc st with | some a, some b => ofO (f' a b) st | _, _ => none : M T))
  | .bl false => pure (.bl false)
  | _ => stuck)) σ q R) : Sim X (eChain f f' ma mb mc) σ q R := k
def qCh (z : T) (q : Q T) : Q T := match z with
  | .bl true => q
  | .bl false => qP (.bl false)
  | _ => qZ
theorem chEnd {f : T → T → Option T} {ra rb : Rdr} {x y : T} {k : M T} {q : Q T} (ha : Rd ra x σ) (hb : Rd rb y σ) (h : SE X k σ q σ1) (hs : σ1 = σ := by rfl) : SE X ((fun st => match ra st, rb st with | some a, some b => ofO (f a b) st | _, _ => none : M T) >>= fun z => match z with
  | .bl true => k
  | .bl false => pure (.bl false)
  | _ => stuck) σ (qB (qOp2 f x y) fun z => qCh z q) σ1 :=
  bE (rd2 ha hb) fun z => by
    subst hs
    unfold qCh
    cases z with
    | bl b => cases b with
      | true => exact h
      | false => exact eEnd
    | _ => exact Sim.zz
/-! arguments -/
theorem aN {f : List T → M α} {q : Q β} {R : α → β → List Sl → Prop} (k : Sim X (f []) σ q R) : Sim X (aNil >>= f) σ q R := k
theorem ac_b {m : M T} {k : M (List T)} {f : List T → M α} (S : List Ob) : (aCons m k >>= f) ⟨σ, S⟩ = (m >>= fun t => k >>= fun ts => f (t :: ts)) ⟨σ, S⟩ := by
  unfold aCons
  simp only [bind_def]
  cases m ⟨σ, S⟩ with
  | none => rfl
  | some p =>
    obtain ⟨r, st⟩ := p
    cases r with
    | exc x => rfl
    | ok t =>
      simp only
      cases k st with
      | none => rfl
      | some p =>
        obtain ⟨r, st⟩ := p
        cases r <;> rfl
theorem aV {m : M T} {k : M (List T)} {t : T} {f : List T → M α} {q : Q β} {R : α → β → List Sl → Prop} (h : SP m σ t) (j : Sim X (k >>= fun ts => f (t :: ts)) σ q R) : Sim X (aCons m k >>= f) σ q R := Sim.cg (bV h j) ac_b
theorem aF {m : M T} {k : M (List T)} {t : T} {f : List T → M α} {q : Q β} {R : α → β → List Sl → Prop} (h : SPf m σ t σ1) (j : Sim X (k >>= fun ts => f (t :: ts)) σ1 q R) : Sim X (aCons m k >>= f) σ q R := Sim.cg (bF h j) ac_b
theorem aE {m : M T} {k : M (List T)} {f : List T → M α} {q1 : Q T} {q2 : T → Q β} {R : α → β → List Sl → Prop} (h : SE X m σ q1 σ1) (j : ∀ t, Sim X (k >>= fun ts => f (t :: ts)) σ1 (q2 t) R) : Sim X (aCons m k >>= f) σ (qB q1 q2) R := Sim.cg (bE h j) ac_b
theorem aX {m : M T} {k : M (List T)} {f : List T → M α} {q1 : Q ε} {v : ε → T} {s : ε → List Sl} {q2 : ε → Q β} {R : α → β → List Sl → Prop} (h : Sim X m σ q1 (xR v s)) (j : ∀ b, Sim X (k >>= fun ts => f (v b :: ts)) (s b) (q2 b) R) : Sim X (aCons m k >>= f) σ (qB q1 q2) R := Sim.cg (bX h j) ac_b
/-! readers as arguments -/
def Rds (σ : List Sl) : List Rdr → List T → Prop
  | [], [] => True
  | r :: rs, x :: xs => Rd r x σ ∧ Rds σ rs xs
  | _, _ => False
theorem rN {f : List Rdr → M α} {q : Q β} {R : α → β → List Sl → Prop} (k : Sim X (f []) σ q R) : Sim X (oNil >>= f) σ q R := k
theorem oc_b {m : M Rdr} {k : M (List Rdr)} {f : List Rdr → M α} (S : List Ob) : (oCons m k >>= f) ⟨σ, S⟩ = (m >>= fun t => k >>= fun ts => f (t :: ts)) ⟨σ, S⟩ := by
  unfold oCons
  simp only [bind_def]
  cases m ⟨σ, S⟩ with
  | none => rfl
  | some p =>
    obtain ⟨r, st⟩ := p
    cases r with
    | exc x => rfl
    | ok t =>
      simp only
      cases k st with
      | none => rfl
      | some p =>
        obtain ⟨r, st⟩ := p
        cases r <;> rfl
theorem rC {m : M Rdr} {k : M (List Rdr)} {f : List Rdr → M α} {q : Q β} {R : α → β → List Sl → Prop} (h : Sim X (m >>= fun t => k >>= fun ts => f (t :: ts)) σ q R) : Sim X (oCons m k >>= f) σ q R := Sim.cg h oc_b
theorem rds_run : ∀ {rs : List Rdr} {xs : List T}, Rds σ rs xs → ∀ S, match rdAll rs ⟨σ, S⟩ with | some ts => qKs xs S = some (.ok ts, S) | none => qKs xs S = none
  | [], [], _, S => rfl
  | r :: rs, x :: xs, ⟨h1, h2⟩, S => by
    have ih := rds_run h2 S
    unfold rdAll qKs qB qK
    rw [h1 S]
    cases peekT S x with
    | none => rfl
    | some u =>
      cases e : rdAll rs ⟨σ, S⟩ with
      | none => rw [e] at ih; simp only [ih]
      | some ts => rw [e] at ih; simp only [ih]; rfl
theorem rEnd {rs : List Rdr} {xs : List T} {f : List T → Option T} (h : Rds σ rs xs) : SE X (rdM rs fun ts => ofO (f ts)) σ (qCall f xs) σ := ⟨fun S => by
  have := rds_run h S
  unfold qCall qB rdM
  cases e : rdAll rs ⟨σ, S⟩ with
  | none => rw [e] at this; simp only [this]
  | some ts =>
    rw [e] at this
    simp only [this]
    cases f ts with
    | none => trivial
    | some t => exact ⟨t, σ, rfl, rfl, rfl⟩⟩
theorem rEndL {rs : List Rdr} {xs : List T} {f : List T → Option (List T)} (h : Rds σ rs xs) : SL X (rdM rs fun ts => ofO ((f ts).map .lst)) σ (qCall f xs) σ := ⟨fun S => by
  have := rds_run h S
  unfold qCall qB rdM
  cases e : rdAll rs ⟨σ, S⟩ with
  | none => rw [e] at this; simp only [this]
  | some ts =>
    rw [e] at this
    simp only [this]
    cases f ts with
    | none => trivial
    | some t => exact ⟨.lst t, σ, rfl, rfl, rfl⟩⟩
theorem sCall {f : List T → Option T} {m : M (List Rdr)} {q : Q β} {R : T → β → List Sl → Prop} (k : Sim X (m >>= fun rs => rdM rs fun ts => ofO (f ts)) σ q R) : Sim X (eCall f m) σ q R := k
theorem sCallL {f : List T → Option (List T)} {m : M (List Rdr)} {q : Q β} {R : Ob → β → List Sl → Prop} (k : Sim X (m >>= fun rs => rdM rs fun ts => ofO ((f ts).map .lst)) σ q R) : Sim X (fCall f m) σ q R := k
/-! tuples, lists -/
theorem sTup {m : M (List T)} {q : Q β} {R : T → β → List Sl → Prop} (k : Sim X (m >>= fun ts => if ts.length ≤ 1000 then pure (.tup ts) else stuck) σ q R) : Sim X (eTup m) σ q R := k
theorem tEnd {ts : List T} : SE X (if ts.length ≤ 1000 then pure (.tup ts) else stuck) σ (qTup ts) σ := by
  unfold qTup
  split
  · exact eEnd
  · exact Sim.zz
theorem tEndV {ts : List T} (h : ts.length ≤ 1000 := by simp only [List.length_cons, List.length_nil]; decide) : SE X (if ts.length ≤ 1000 then pure (.tup ts) else stuck) σ (qP (.tup ts)) σ := by
  rw [if_pos h]
  exact eEnd
theorem sLst {m : M (List T)} {q : Q β} {R : Ob → β → List Sl → Prop} (k : Sim X (m >>= fun ts => if ts.length ≤ 1000 then pure (.lst ts) else stuck) σ q R) : Sim X (fLst m) σ q R := k
theorem lEnd {ts : List T} (h : ts.length ≤ 1000 := by simp only [List.length_cons, List.length_nil]; decide) : SL X (if ts.length ≤ 1000 then pure (.lst ts) else stuck) σ (qP ts) σ := by
  rw [if_pos h]
  exact Sim.pur ⟨rfl, rfl⟩
theorem sFz {m : M Ob} {q : Q (List T)} (h : SL X m σ q σ1) : SE X (eFz m) σ (qB q fun ts => qP (.fz ts)) σ1 := bL h fun ts => eEnd
/-! calls -/
theorem sFn {m : FnM} {ma : M (List T)} {q : Q β} {R : T → β → List Sl → Prop} (k : Sim X (ma >>= fun ts => (fun st => match m ts st.S with | some (r, S') => some (r, { st with S := S' }) | none => none : M T)) σ q R) : Sim X (eFn m ma) σ q R := k
theorem fEnd {m : FnM} {ts : List T} (hx : X σ := by first | trivial | exact ⟨_, rfl⟩ | exact ⟨_, _, rfl⟩ | exact ⟨_, _, _, rfl⟩ | exact ⟨_, _, _, _, rfl⟩) : SE X (fun st => match m ts st.S with | some (r, S') => some (r, { st with S := S' }) | none => none : M T) σ (m ts) σ := ⟨fun S => by
  cases e : m ts S with
  | none => trivial
  | some p =>
    obtain ⟨r, S'⟩ := p
    cases r with
    | ok b => exact ⟨b, σ, by simp only [e], rfl, rfl⟩
    | exc x => exact ⟨σ, by simp only [e], hx⟩⟩
/-! truths -/
theorem tB {m : M T} {q : Q T} (h : SE X m σ q σ1) : ST X (asB m) σ (qB q qTr) σ1 := bE h fun t => by
  unfold qTr
  cases t with
  | bl b => exact bEnd
  | _ => exact Sim.zz
theorem tNot {m : M Bool} {q : Q Bool} (h : ST X m σ q σ1) : ST X (bNot m) σ (qB q fun b => qP (!b)) σ1 := bT h fun b => bEnd
theorem tAnd {m k : M Bool} {q r : Q Bool} (h : ST X m σ q σ1) (h2 : ST X k σ1 r σ1) : ST X (bAnd m k) σ (qB q fun b => if b then r else qP false) σ1 := bT h fun b => by
  cases b with
  | true => exact h2
  | false => exact bEnd
theorem tOr {m k : M Bool} {q r : Q Bool} (h : ST X m σ q σ1) (h2 : ST X k σ1 r σ1) : ST X (bOr m k) σ (qB q fun b => if b then qP true else r) σ1 := bT h fun b => by
  cases b with
  | true => exact bEnd
  | false => exact h2
theorem sNot {m : M T} {q : Q T} (h : SE X m σ q σ1) : SE X (eNot m) σ (qB q fun t => qB (qTr t) fun b => qP (.bl (!b))) σ1 :=
  Sim.cg (m2 := m >>= fun t => match t with | .bl b => pure (.bl (!b)) | _ => stuck) (bE h fun t => by
    cases t with
    | bl b => exact eEnd
    | _ => exact Sim.zz) fun S => by
    unfold eNot asB
    simp only [bind_def]
    cases m ⟨σ, S⟩ with
    | none => rfl
    | some p =>
      obtain ⟨r, st⟩ := p
      cases r with
      | exc x => rfl
      | ok t => cases t <;> rfl
theorem sAnd {m k : M T} {q r : Q T} (h : SE X m σ q σ1) (h2 : SE X k σ1 r σ1) : SE X (eAnd m k) σ (qB (qB q qTr) fun b => if b then r else qP (.bl false)) σ1 := bT (tB h) fun b => by
  cases b with
  | true => exact h2
  | false => exact eEnd
theorem sOr {m k : M T} {q r : Q T} (h : SE X m σ q σ1) (h2 : SE X k σ1 r σ1) : SE X (eOr m k) σ (qB (qB q qTr) fun b => if b then qP (.bl true) else r) σ1 := bT (tB h) fun b => by
  cases b with
  | true => exact eEnd
  | false => exact h2
theorem sIf {c : M Bool} {m k : M T} {qc : Q Bool} {q r : Q T} (h : ST X c σ qc σ1) (h1 : SE X m σ1 q σ2) (h2 : SE X k σ1 r σ2) : SE X (eIf c m k) σ (qB qc fun b => if b then q else r) σ2 := bT h fun b => by
  cases b with
  | true => exact h1
  | false => exact h2
theorem sNeg {m : M T} {q : Q T} (h : SE X m σ q σ1) : SE X (eNeg m) σ (qB q fun t => qB (qI t) fun i => qP (.int (-i))) σ1 := bE h fun t => by
  cases t with
  | int i => exact eEnd
  | _ => exact Sim.zz
/-! slices -/
theorem pN {f : Option Int → M α} {q : Q β} {R : α → β → List Sl → Prop} (k : Sim X (f none) σ q R) : Sim X (pNo >>= f) σ q R := k
theorem ps_b {m : M T} {f : Option Int → M α} (S : List Ob) : (pSome m >>= f) ⟨σ, S⟩ = (m >>= fun t => match t with | .int i => f (some i) | _ => stuck) ⟨σ, S⟩ := by
  unfold pSome
  simp only [bind_def]
  cases m ⟨σ, S⟩ with
  | none => rfl
  | some p =>
    obtain ⟨r, st⟩ := p
    cases r with
    | exc x => rfl
    | ok t => cases t <;> rfl
theorem pE {m : M T} {f : Option Int → M α} {q1 : Q T} {q2 : Int → Q β} {R : α → β → List Sl → Prop} (h : SE X m σ q1 σ1) (k : ∀ i, Sim X (f (some i)) σ1 (q2 i) R) : Sim X (pSome m >>= f) σ (qB q1 fun t => qB (qI t) q2) R :=
  Sim.cg (bE h fun t => by
    cases t with
    | int i => exact k i
    | _ => exact Sim.zz) ps_b
theorem pV {m : M T} {f : Option Int → M α} {i : Int} {q : Q β} {R : α → β → List Sl → Prop} (h : SP m σ (.int i)) (k : Sim X (f (some i)) σ q R) : Sim X (pSome m >>= f) σ q R :=
  Sim.cg (bV h k) ps_b
theorem sSlU {m : M Rdr} {ml mh : M (Option Int)} {q : Q β} {R : T → β → List Sl → Prop} (k : Sim X (m >>= fun r => ml >>= fun lo => mh >>= fun hi => (fun st => match r st with
    | some (.str s) => if s.length ≤ 1000000 then some (.ok (.str (cutL s lo hi)), st) else none
    | some (.tup ts) => some (.ok (.tup (cutL ts lo hi)), st)
    | some (.fz ts) => some (.ok (.fz (cutL ts lo hi)), st)
    | some (.scr ns) => some (.ok (.fz ((cutL ns lo hi).map .int)), st)
    | _ => none : M T)) σ q R) : Sim X (eSliceU m ml mh) σ q R := k
theorem slEnd {r : Rdr} {x : T} {lo hi : Option Int} (h : Rd r x σ) : SE X (fun st => match r st with
    | some (.str s) => if s.length ≤ 1000000 then some (.ok (.str (cutL s lo hi)), st) else none
    | some (.tup ts) => some (.ok (.tup (cutL ts lo hi)), st)
    | some (.fz ts) => some (.ok (.fz (cutL ts lo hi)), st)
    | some (.scr ns) => some (.ok (.fz ((cutL ns lo hi).map .int)), st)
    | _ => none : M T) σ (qSl slU x lo hi) σ := ⟨fun S => by
  unfold qSl qB qK
  rw [h S]
  cases peekT S x with
  | none => trivial
  | some t =>
    cases t with
    | str s =>
      simp only [slU]
      by_cases hl : s.length ≤ 1000000
      · rw [if_pos hl, if_pos hl]; exact ⟨_, _, rfl, rfl, rfl⟩
      · rw [if_neg hl]; trivial
    | tup ts => exact ⟨_, _, rfl, rfl, rfl⟩
    | fz ts => exact ⟨_, _, rfl, rfl, rfl⟩
    | scr ns => exact ⟨_, _, rfl, rfl, rfl⟩
    | _ => trivial⟩
theorem sSlL {m : M Rdr} {ml mh : M (Option Int)} {q : Q β} {R : Ob → β → List Sl → Prop} (k : Sim X (m >>= fun r => ml >>= fun lo => mh >>= fun hi => (fun st => match r st with
    | some (.fz ts) => some (.ok (.lst (cutL ts lo hi)), st)
    | some (.scr ns) => some (.ok (.lst ((cutL ns lo hi).map .int)), st)
    | _ => none : M Ob)) σ q R) : Sim X (fSlice m ml mh) σ q R := k
theorem slEndL {r : Rdr} {x : T} {lo hi : Option Int} (h : Rd r x σ) : SL X (fun st => match r st with
    | some (.fz ts) => some (.ok (.lst (cutL ts lo hi)), st)
    | some (.scr ns) => some (.ok (.lst ((cutL ns lo hi).map .int)), st)
    | _ => none : M Ob) σ (qSl slL x lo hi) σ := ⟨fun S => by
  unfold qSl qB qK
  rw [h S]
  cases peekT S x with
  | none => trivial
  | some t =>
    cases t with
    | fz ts => exact ⟨_, _, rfl, rfl, rfl⟩
    | scr ns => exact ⟨_, _, rfl, rfl, rfl⟩
    | _ => trivial⟩
theorem sRev {m : M Rdr} {q : Q β} {R : Ob → β → List Sl → Prop} (k : Sim X (m >>= fun r => (fun st => match r st with
    | some (.fz ts) => some (.ok (.lst ts.reverse), st)
    | _ => none : M Ob)) σ q R) : Sim X (fRev m) σ q R := k
theorem rvEnd {r : Rdr} {x : T} (h : Rd r x σ) : SL X (fun st => match r st with
    | some (.fz ts) => some (.ok (.lst ts.reverse), st)
    | _ => none : M Ob) σ (qB (qK x) fun t => qO (revL t)) σ := ⟨fun S => by
  unfold qB qK
  rw [h S]
  cases peekT S x with
  | none => trivial
  | some t =>
    cases t with
    | fz ts => exact ⟨_, _, rfl, rfl, rfl⟩
    | _ => trivial⟩
/-! methods of what stands -/
theorem sMeth {Ty : String} {f : T → List T → Option T} {m : M Rdr} {ma : M (List T)} {q : Q β} {R : T → β → List Sl → Prop} (k : Sim X (m >>= fun r => isTy Ty r >>= fun _ => ma >>= fun as => (fun st => match r st with
    | some t => ofO (f t as) st
    | none => none : M T)) σ q R) : Sim X (eMeth Ty f m ma) σ q R := k
theorem isTyB {Ty : String} {r : Rdr} {x : T} {f : Unit → M α} {q : Q β} {R : α → β → List Sl → Prop} (h : Rd r x σ) (k : Sim X (f ()) σ q R) : Sim X (isTy Ty r >>= f) σ (qB (qTy Ty x) fun _ => q) R := ⟨fun S => by
  have := k.run S
  unfold qB qTy qB qK
  rw [bind_def]
  unfold isTy
  rw [h S]
  cases peekT S x with
  | none => trivial
  | some t =>
    simp only
    cases e : tyOk Ty t with
    | false => rw [if_neg (by simp)]; trivial
    | true => simp only [if_true]; exact this⟩
theorem mEnd {r : Rdr} {x : T} {f : T → List T → Option T} {as : List T} (h : Rd r x σ) : SE X (fun st => match r st with
    | some t => ofO (f t as) st
    | none => none : M T) σ (qMeth f x as) σ := ⟨fun S => by
  unfold qMeth qB qK
  rw [h S]
  cases peekT S x with
  | none => trivial
  | some t =>
    simp only
    cases f t as with
    | none => trivial
    | some u => exact ⟨_, _, rfl, rfl, rfl⟩⟩
/-! lists that are changed -/
theorem sLstO {f : List T → List T → Option (List T × T)} {i : Nat} {ys : List T} {ma : M (List T)} {q : Q β} {R : T → β → List Sl → Prop} (k : Sim X (ma >>= fun as => opL f (pVar i) as) σ q R) (h : σ[i]? = some (.own (.lst ys)) := by rfl) : Sim X (eLst f (mVar i) ma) σ q R :=
  Sim.cg k fun S => by
    unfold eLst mVar isLst pVar
    simp only [bind_def, h]
theorem sLstO0 {f : List T → List T → Option (List T × T)} {i : Nat} {ys : List T} {q : Q β} {R : T → β → List Sl → Prop} (k : Sim X (opL f (pVar i) []) σ q R) (h : σ[i]? = some (.own (.lst ys)) := by rfl) : Sim X (eLst0 f (mVar i)) σ q R :=
  Sim.cg k fun S => by
    unfold eLst0 mVar pVar
    simp only [bind_def, h]
theorem lstEnd {f : List T → List T → Option (List T × T)} {i : Nat} {ys as : List T} (h : σ[i]? = some (.own (.lst ys)) := by rfl) : Sim X (opL f (pVar i) as) σ (qO (f ys as)) (xR (fun p : List T × T => p.2) fun p => σ.set i (.own (.lst p.1))) := ⟨fun S => by
  unfold opL pVar
  simp only [h]
  cases f ys as with
  | none => trivial
  | some p => exact ⟨_, _, rfl, rfl, rfl⟩⟩
theorem pBox {i : Nat} {x : T} {S : List Ob} {a : Nat} {us : List T} (h : σ[i]? = some (.val x)) (e : boxL S x = some (a, us)) : pVar i ⟨σ, S⟩ = some (.lst us, fun o => ⟨σ, S.set a o⟩) := by
  unfold boxL at e
  unfold pVar
  simp only [h]
  cases x with
  | ref b =>
    simp only at e ⊢
    cases es : S[b]? with
    | none => rw [es] at e; cases e
    | some ob =>
      rw [es] at e
      cases ob with
      | lst vs => cases e; rfl
      | _ => cases e
  | _ => cases e
theorem sLstB {f : List T → List T → Option (List T × T)} {i : Nat} {x : T} {ma : M (List T)} {q : Q β} {R : T → β → List Sl → Prop} (k : Sim X (ma >>= fun as => opL f (pVar i) as) σ q R) (h : σ[i]? = some (.val x) := by rfl) : Sim X (eLst f (mVar i) ma) σ (qB (qIsL x) fun _ => q) R := ⟨fun S => by
  have := k.run S
  unfold qB qIsL
  cases e : boxL S x with
  | none => trivial
  | some p =>
    obtain ⟨a, us⟩ := p
    have e1 : eLst f (mVar i) ma ⟨σ, S⟩ = (ma >>= fun as => opL f (pVar i) as) ⟨σ, S⟩ := by
      unfold eLst mVar isLst
      simp only [bind_def, pBox h e]
    rw [e1]
    exact this⟩
theorem sLstB0 {f : List T → List T → Option (List T × T)} {i : Nat} {x : T} {q : Q β} {R : T → β → List Sl → Prop} (k : Sim X (opL f (pVar i) []) σ q R) (h : σ[i]? = some (.val x) := by rfl) : Sim X (eLst0 f (mVar i)) σ (qB (qIsL x) fun _ => q) R := ⟨fun S => by
  have := k.run S
  unfold qB qIsL
  cases e : boxL S x with
  | none => trivial
  | some p =>
    obtain ⟨a, us⟩ := p
    have e1 : eLst0 f (mVar i) ⟨σ, S⟩ = opL f (pVar i) [] ⟨σ, S⟩ := by
      unfold eLst0 mVar
      simp only [bind_def, pBox h e]
    rw [e1]
    exact this⟩
theorem lstEndB {f : List T → List T → Option (List T × T)} {i : Nat} {x : T} {as : List T} (h : σ[i]? = some (.val x) := by rfl) : SE X (opL f (pVar i) as) σ (qBx f x as) σ := ⟨fun S => by
  unfold opL pVar qBx boxL
  simp only [h]
  cases x with
  | ref a =>
    simp only
    cases es : S[a]? with
    | none => trivial
    | some ob =>
      cases ob with
      | lst us =>
        simp only
        cases f us as with
        | none => trivial
        | some p => exact ⟨_, _, rfl, rfl, rfl⟩
      | _ => trivial
  | _ => trivial⟩
theorem sBox {m : M Ob} {q : Q (List T)} (h : SL X m σ q σ1) : SE X (eBox m) σ (qB q fun ts => qBox (.lst ts)) σ1 := bL h fun ts => ⟨fun S => ⟨_, _, rfl, rfl, rfl⟩⟩
end
end Sw
namespace Sw
open PySem PySem.Spec PyProof.Rows L2
open Classical
section
variable {α β γ δ ε : Type} {X : List Sl → Prop} {σ σ1 σ2 : List Sl}
/-! ### commands -/
abbrev cR (A : α → List Sl → Prop) (C : γ → List Sl → Prop) : Fl → F γ α → List Sl → Prop := fun f g σ' => match f, g with
  | .nxt, .nxt a => A a σ'
  | .brk, .brk c => C c σ'
  | .cnt, .cnt c => C c σ'
  | .ret t, .ret u => t = u
  | _, _ => False
abbrev SC (X : List Sl → Prop) (c : Cmd) (σ : List Sl) (q : Q (F γ α)) (A : α → List Sl → Prop) (C : γ → List Sl → Prop) : Prop := Sim X c σ q (cR A C)
abbrev nev : α → List Sl → Prop := fun _ _ => False
theorem c_nxt {A : α → List Sl → Prop} {C : γ → List Sl → Prop} {a : α} (h : A a σ) : SC X (pure .nxt) σ (qP (.nxt a)) A C := Sim.pur h
theorem c_brk {A : α → List Sl → Prop} {C : γ → List Sl → Prop} {a : γ} (h : C a σ) : SC X (pure .brk) σ (qP (.brk a)) A C := Sim.pur h
theorem c_cnt {A : α → List Sl → Prop} {C : γ → List Sl → Prop} {a : γ} (h : C a σ) : SC X (pure .cnt) σ (qP (.cnt a)) A C := Sim.pur h
theorem c_retN {A : α → List Sl → Prop} {C : γ → List Sl → Prop} : SC X (pure (.ret .non)) σ (qP (.ret .non)) A C := Sim.pur rfl
theorem c_retV {m : M T} {t : T} {A : α → List Sl → Prop} {C : γ → List Sl → Prop} (h : SP m σ t) : SC X (cRet m) σ (qP (.ret t)) A C := bV h (Sim.pur rfl)
theorem c_retF {m : M T} {t : T} {A : α → List Sl → Prop} {C : γ → List Sl → Prop} (h : SPf m σ t σ1) : SC X (cRet m) σ (qP (.ret t)) A C := bF h (Sim.pur rfl)
theorem c_ret {m : M T} {q : Q T} {A : α → List Sl → Prop} {C : γ → List Sl → Prop} (h : SE X m σ q σ1) : SC X (cRet m) σ (qB q fun t => qP (.ret t)) A C := bE h fun t => Sim.pur rfl
theorem c_retX {m : M T} {q : Q ε} {v : ε → T} {s : ε → List Sl} {A : α → List Sl → Prop} {C : γ → List Sl → Prop} (h : Sim X m σ q (xR v s)) : SC X (cRet m) σ (qB q fun p => qP (.ret (v p))) A C := bX h fun t => Sim.pur rfl
theorem c_end {c : Cmd} {q : Q (F γ α)} {A : α → List Sl → Prop} {C : γ → List Sl → Prop} (h : SC X (cSeq c (pure .nxt)) σ q A C) : SC X c σ q A C := Sim.cg h fun S => by
  unfold cSeq
  rw [bind_def]
  cases c ⟨σ, S⟩ with
  | none => rfl
  | some p =>
    obtain ⟨r, st⟩ := p
    cases r with
    | exc x => rfl
    | ok f => cases f <;> rfl
theorem c_assoc {a b r : Cmd} {q : Q (F γ α)} {A : α → List Sl → Prop} {C : γ → List Sl → Prop} (h : SC X (cSeq a (cSeq b r)) σ q A C) : SC X (cSeq (cSeq a b) r) σ q A C := Sim.cg h fun S => by
  unfold cSeq
  simp only [bind_def]
  cases a ⟨σ, S⟩ with
  | none => rfl
  | some p =>
    obtain ⟨r, st⟩ := p
    cases r with
    | exc x => rfl
    | ok f =>
      cases f with
      | nxt =>
        simp only [bind_def]
      | _ => first | rfl | simp only [pure_def]
theorem c_skip {r : Cmd} {q : Q (F γ α)} {A : α → List Sl → Prop} {C : γ → List Sl → Prop} (h : SC X r σ q A C) : SC X (cSeq (pure .nxt) r) σ q A C := h
theorem c_seq {a b : Cmd} {q : Q (F γ α)} {k : α → Q (F γ β)} {A : α → List Sl → Prop} {B : β → List Sl → Prop} {C : γ → List Sl → Prop} (h : SC X a σ q A C) (j : ∀ x σ1, A x σ1 → SC X b σ1 (k x) B C) : SC X (cSeq a b) σ (qSeq q k) B C :=
  Sim.bnd h fun f g σ' hr => by
    cases f <;> cases g <;> first | exact hr.elim | exact j _ _ hr | exact Sim.pur hr
/-- a command that never goes on -/
theorem c_exit {a b : Cmd} {q : Q (F γ β)} {B : β → List Sl → Prop} {C : γ → List Sl → Prop} (h : SC X a σ q nev C) : SC X (cSeq a b) σ q B C := ⟨fun S => by
  have := h.run S
  cases e : q S with
  | none => trivial
  | some p =>
    obtain ⟨r, S'⟩ := p
    rw [e] at this
    unfold cSeq
    rw [bind_def]
    cases r with
    | exc x => obtain ⟨σ', e1, hx⟩ := this; rw [e1]; exact ⟨σ', rfl, hx⟩
    | ok g =>
      obtain ⟨f, σ', e1, hr⟩ := this
      rw [e1]
      cases f <;> cases g <;> first | exact hr.elim | exact ⟨_, _, rfl, hr⟩⟩
theorem c_any {a : Cmd} {q : Q (F γ β)} {B : β → List Sl → Prop} {C : γ → List Sl → Prop} (h : SC X a σ q nev C) : SC X a σ q B C := h.mono fun f g σ' hr => by
  cases f <;> cases g <;> first | exact hr.elim | exact hr
theorem c_if {c : M Bool} {a b : Cmd} {qc : Q Bool} {q r : Q (F γ α)} {A : α → List Sl → Prop} {C : γ → List Sl → Prop} (h : ST X c σ qc σ1) (h1 : SC X a σ1 q A C) (h2 : SC X b σ1 r A C) : SC X (cIf c a b) σ (qB qc fun b => if b then q else r) A C := bT h fun b => by
  cases b with
  | true => exact h1
  | false => exact h2
/-- the rest in each way -/
theorem c_ifr {c : M Bool} {a b r : Cmd} {qc : Q Bool} {q1 q2 : Q (F γ α)} {A : α → List Sl → Prop} {C : γ → List Sl → Prop} (h : ST X c σ qc σ1) (h1 : SC X (cSeq a r) σ1 q1 A C) (h2 : SC X (cSeq b r) σ1 q2 A C) : SC X (cSeq (cIf c a b) r) σ (qB qc fun b => if b then q1 else q2) A C :=
  Sim.cg (m2 := cIf c (cSeq a r) (cSeq b r)) (c_if h h1 h2) fun S => by
    unfold cSeq cIf
    simp only [bind_def]
    cases c ⟨σ, S⟩ with
    | none => rfl
    | some p =>
      obtain ⟨r, st⟩ := p
      cases r with
      | exc x => rfl
      | ok b => cases b <;> rfl
theorem set_b {i : Nat} {m : M T} {r : Cmd} (S : List Ob) : cSeq (cSet i m) r ⟨σ, S⟩ = (m >>= fun t => (fun st => r { st with σ := st.σ.set i (.val t) } : Cmd)) ⟨σ, S⟩ := by
  unfold cSeq cSet
  simp only [bind_def]
  cases m ⟨σ, S⟩ with
  | none => rfl
  | some p =>
    obtain ⟨r, st⟩ := p
    cases r <;> rfl
theorem Sim.sh {m : M α} {g : List Sl → List Sl} {q : Q β} {R : α → β → List Sl → Prop} (h : Sim X m (g σ) q R) : Sim X (fun st => m { st with σ := g st.σ }) σ q R := ⟨fun S => h.run S⟩
theorem c_letV {i : Nat} {m : M T} {t : T} {r : Cmd} {q : Q (F γ α)} {A : α → List Sl → Prop} {C : γ → List Sl → Prop} (h : SP m σ t) (k : SC X r (σ.set i (.val t)) q A C) : SC X (cSeq (cSet i m) r) σ q A C :=
  Sim.cg (bV h (Sim.sh (g := fun s => s.set i (.val t)) k)) set_b
theorem c_letF {i : Nat} {m : M T} {t : T} {r : Cmd} {q : Q (F γ α)} {A : α → List Sl → Prop} {C : γ → List Sl → Prop} (h : SPf m σ t σ1) (k : SC X r (σ1.set i (.val t)) q A C) : SC X (cSeq (cSet i m) r) σ q A C :=
  Sim.cg (bF h (Sim.sh (g := fun s => s.set i (.val t)) k)) set_b
theorem c_let {i : Nat} {m : M T} {r : Cmd} {q1 : Q T} {q2 : T → Q (F γ α)} {A : α → List Sl → Prop} {C : γ → List Sl → Prop} (h : SE X m σ q1 σ1) (k : ∀ t, SC X r (σ1.set i (.val t)) (q2 t) A C) : SC X (cSeq (cSet i m) r) σ (qB q1 q2) A C :=
  Sim.cg (bE h fun t => Sim.sh (g := fun s => s.set i (.val t)) (k t)) set_b
theorem c_letX {i : Nat} {m : M T} {r : Cmd} {q1 : Q ε} {v : ε → T} {s : ε → List Sl} {q2 : ε → Q (F γ α)} {A : α → List Sl → Prop} {C : γ → List Sl → Prop} (h : Sim X m σ q1 (xR v s)) (k : ∀ p, SC X r ((s p).set i (.val (v p))) (q2 p) A C) : SC X (cSeq (cSet i m) r) σ (qB q1 q2) A C :=
  Sim.cg (bX h fun t => Sim.sh (g := fun s => s.set i (.val (v t))) (k t)) set_b
theorem own_b {i : Nat} {m : M Ob} {r : Cmd} (S : List Ob) : cSeq (cOwn i m) r ⟨σ, S⟩ = (m >>= fun t => (fun st => r { st with σ := st.σ.set i (.own t) } : Cmd)) ⟨σ, S⟩ := by
  unfold cSeq cOwn
  simp only [bind_def]
  cases m ⟨σ, S⟩ with
  | none => rfl
  | some p =>
    obtain ⟨r, st⟩ := p
    cases r <;> rfl
theorem c_own {i : Nat} {m : M Ob} {r : Cmd} {q1 : Q (List T)} {q2 : List T → Q (F γ α)} {A : α → List Sl → Prop} {C : γ → List Sl → Prop} (h : SL X m σ q1 σ1) (k : ∀ t, SC X r (σ1.set i (.own (.lst t))) (q2 t) A C) : SC X (cSeq (cOwn i m) r) σ (qB q1 q2) A C :=
  Sim.cg (bL h fun t => Sim.sh (g := fun s => s.set i (.own (.lst t))) (k t)) own_b
theorem c_ownD {i : Nat} {r : Cmd} {q : Q (F γ α)} {A : α → List Sl → Prop} {C : γ → List Sl → Prop} (k : SC X r (σ.set i (.own (.dct [] []))) q A C) : SC X (cSeq (cOwn i fDic) r) σ q A C :=
  Sim.cg (Sim.sh (g := fun s => s.set i (.own (.dct [] []))) k) own_b
theorem expr_b {m : M T} {r : Cmd} (S : List Ob) : cSeq (cExpr m) r ⟨σ, S⟩ = (m >>= fun _ => r) ⟨σ, S⟩ := by
  unfold cSeq cExpr
  simp only [bind_def]
  cases m ⟨σ, S⟩ with
  | none => rfl
  | some p =>
    obtain ⟨r, st⟩ := p
    cases r <;> rfl
theorem c_ex {m : M T} {r : Cmd} {q1 : Q ε} {v : ε → T} {s : ε → List Sl} {q2 : ε → Q (F γ α)} {A : α → List Sl → Prop} {C : γ → List Sl → Prop} (h : Sim X m σ q1 (xR v s)) (k : ∀ p, SC X r (s p) (q2 p) A C) : SC X (cSeq (cExpr m) r) σ (qB q1 q2) A C :=
  Sim.cg (bX h fun t => k t) expr_b
theorem c_exE {m : M T} {r : Cmd} {q1 : Q T} {q2 : T → Q (F γ α)} {A : α → List Sl → Prop} {C : γ → List Sl → Prop} (h : SE X m σ q1 σ1) (k : ∀ p, SC X r σ1 (q2 p) A C) : SC X (cSeq (cExpr m) r) σ (qB q1 q2) A C :=
  Sim.cg (bE h fun t => k t) expr_b
/-! ### targets -/
def SAs (X : List Sl → Prop) (gs : List Tg) (ts : List T) (σ : List Sl) (m : M α) (q : Q β) (R : α → β → List Sl → Prop) : Prop := (∃ σ0, asgTs gs ts σ = some σ0 ∧ Sim X m σ0 q R) ∨ q = qZ
theorem sa_nil {m : M α} {q : Q β} {R : α → β → List Sl → Prop} (h : Sim X m σ q R) : SAs X [] [] σ m q R := .inl ⟨σ, rfl, h⟩
theorem sa_nm {i : Nat} {t : T} {gs : List Tg} {ts : List T} {m : M α} {q : Q β} {R : α → β → List Sl → Prop} (h : SAs X gs ts (σ.set i (.val t)) m q R) : SAs X (.nm i :: gs) (t :: ts) σ m q R := h
theorem asgTs_app : ∀ {gs1 gs2 : List Tg} {ts1 ts2 : List T} {σ : List Sl}, gs1.length = ts1.length → asgTs (gs1 ++ gs2) (ts1 ++ ts2) σ = (asgTs gs1 ts1 σ).bind (asgTs gs2 ts2)
  | [], _, [], _, σ, _ => rfl
  | [], _, _ :: _, _, _, h => by cases h
  | _ :: _, _, [], _, _, h => by cases h
  | g :: gs1, gs2, t :: ts1, ts2, σ, h => by
    show (asgT g t σ).bind (asgTs (gs1 ++ gs2) (ts1 ++ ts2)) = ((asgT g t σ).bind (asgTs gs1 ts1)).bind (asgTs gs2 ts2)
    cases asgT g t σ with
    | none => rfl
    | some σ1 => exact asgTs_app (by simpa using h)
theorem sa_in {hs gs : List Tg} {us ts : List T} {m : M α} {q : Q β} {R : α → β → List Sl → Prop} (hl : hs.length = us.length) (h : SAs X (hs ++ gs) (us ++ ts) σ m q R) : SAs X (.tu hs :: gs) (.tup us :: ts) σ m q R := by
  rcases h with ⟨σ0, e, h⟩ | h
  · refine .inl ⟨σ0, ?_, h⟩
    rw [asgTs_app hl] at e
    exact e
  · exact .inr h
theorem sa_1 {g1 : Tg} {gs : List Tg} {t : T} {ts : List T} {m : M α} {k : T → Q β} {R : α → β → List Sl → Prop} (h : ∀ x, SAs X (g1 :: gs) (x :: ts) σ m (k x) R) : SAs X (.tu [g1] :: gs) (t :: ts) σ m (un1 t k) R := by
  unfold un1
  split
  · exact sa_in rfl (h _)
  · exact .inr rfl
theorem sa_2 {g1 g2 : Tg} {gs : List Tg} {t : T} {ts : List T} {m : M α} {k : T → T → Q β} {R : α → β → List Sl → Prop} (h : ∀ x y, SAs X (g1 :: g2 :: gs) (x :: y :: ts) σ m (k x y) R) : SAs X (.tu [g1, g2] :: gs) (t :: ts) σ m (un2 t k) R := by
  unfold un2
  split
  · exact sa_in rfl (h _ _)
  · exact .inr rfl
theorem sa_3 {g1 g2 g3 : Tg} {gs : List Tg} {t : T} {ts : List T} {m : M α} {k : T → T → T → Q β} {R : α → β → List Sl → Prop} (h : ∀ x y z, SAs X (g1 :: g2 :: g3 :: gs) (x :: y :: z :: ts) σ m (k x y z) R) : SAs X (.tu [g1, g2, g3] :: gs) (t :: ts) σ m (un3 t k) R := by
  unfold un3
  split
  · exact sa_in rfl (h _ _ _)
  · exact .inr rfl
theorem sa_4 {g1 g2 g3 g4 : Tg} {gs : List Tg} {t : T} {ts : List T} {m : M α} {k : T → T → T → T → Q β} {R : α → β → List Sl → Prop} (h : ∀ x y z u, SAs X (g1 :: g2 :: g3 :: g4 :: gs) (x :: y :: z :: u :: ts) σ m (k x y z u) R) : SAs X (.tu [g1, g2, g3, g4] :: gs) (t :: ts) σ m (un4 t k) R := by
  unfold un4
  split
  · exact sa_in rfl (h _ _ _ _)
  · exact .inr rfl
theorem sa_5 {g1 g2 g3 g4 g5 : Tg} {gs : List Tg} {t : T} {ts : List T} {m : M α} {k : T → T → T → T → T → Q β} {R : α → β → List Sl → Prop} (h : ∀ x y z u v, SAs X (g1 :: g2 :: g3 :: g4 :: g5 :: gs) (x :: y :: z :: u :: v :: ts) σ m (k x y z u v) R) : SAs X (.tu [g1, g2, g3, g4, g5] :: gs) (t :: ts) σ m (un5 t k) R := by
  unfold un5
  split
  · exact sa_in rfl (h _ _ _ _ _)
  · exact .inr rfl
theorem asgTs_one {g : Tg} {t : T} : asgTs [g] [t] σ = asgT g t σ := by
  show (asgT g t σ).bind (asgTs [] []) = _
  cases asgT g t σ <;> rfl
theorem c_unp {tg : Tg} {m : M T} {r : Cmd} {q1 : Q T} {q2 : T → Q (F γ α)} {A : α → List Sl → Prop} {C : γ → List Sl → Prop} (h : SE X m σ q1 σ1) (k : ∀ t, SAs X [tg] [t] σ1 r (q2 t) (cR A C)) : SC X (cSeq (cUnp tg m) r) σ (qB q1 q2) A C :=
  Sim.cg (m2 := m >>= fun t => (fun st => match asgT tg t st.σ with | some σ' => r { st with σ := σ' } | none => none : Cmd)) (bE h fun t => by
    rcases k t with ⟨σ0, e, hk⟩ | hk
    · rw [asgTs_one] at e
      refine Sim.cg (m2 := fun st => r { st with σ := σ0 }) (Sim.sh (g := fun _ => σ0) hk) fun S => ?_
      simp only [e]
    · rw [hk]; exact Sim.zz) fun S => by
    unfold cSeq cUnp
    simp only [bind_def]
    cases m ⟨σ, S⟩ with
    | none => rfl
    | some p =>
      obtain ⟨r, st⟩ := p
      cases r with
      | exc x => rfl
      | ok t =>
        simp only
        cases asgT tg t st.σ <;> rfl
theorem c_unpV {tg : Tg} {m : M T} {t : T} {r : Cmd} {q : Q (F γ α)} {A : α → List Sl → Prop} {C : γ → List Sl → Prop} (h : SP m σ t) (k : SAs X [tg] [t] σ r q (cR A C)) : SC X (cSeq (cUnp tg m) r) σ q A C := by
  have := c_unp (X := X) (q1 := qP t) (q2 := fun _ => q) (A := A) (C := C) (r := r) (tg := tg) (m := m) (σ := σ) (σ1 := σ)
  refine ⟨fun S => ?_⟩
  rcases k with ⟨σ0, e, hk⟩ | hk
  · rw [asgTs_one] at e
    have h1 := hk.run S
    have e2 : cSeq (cUnp tg m) r ⟨σ, S⟩ = r ⟨σ0, S⟩ := by
      unfold cSeq cUnp
      simp only [bind_def, h.run S, e]
    rw [e2]
    exact h1
  · rw [hk]; trivial
/-! ### iterables -/
abbrev iR (σ1 : List Sl) (C : List T → List Sl → Prop) : Itr → List T → List Sl → Prop := fun it l σ' => it.ts = l ∧ σ' = σ1 ∧ ∀ s S, C l s → it.chk ⟨s, S⟩
abbrev SI (X : List Sl → Prop) (m : M Itr) (σ : List Sl) (q : Q (List T)) (σ1 : List Sl) (C : List T → List Sl → Prop) : Prop := Sim X m σ q (iR σ1 C)
abbrev yes : List T → List Sl → Prop := fun _ _ => True
theorem itEnd {t : T} : SI X (fun st => match t with
    | .tup ts => some (.ok ⟨ts, fun _ => True⟩, st)
    | .str s => some (.ok ⟨s.map fun c => .str [c], fun _ => True⟩, st)
    | t => match lstAt st.S t with
      | some ts => some (.ok ⟨ts, fun st' => lstAt st'.S t = some ts⟩, st)
      | none => none : M Itr) σ (qIt t) σ yes := ⟨fun S => by
  unfold qIt
  cases t with
  | tup ts => exact ⟨_, _, rfl, rfl, rfl, fun _ _ _ => trivial⟩
  | str s => exact ⟨_, _, rfl, rfl, rfl, fun _ _ _ => trivial⟩
  | fz ts => exact ⟨_, _, rfl, rfl, rfl, fun _ _ _ => rfl⟩
  | _ => trivial⟩
theorem iUV {m : M T} {t : T} (h : SP m σ t) : SI X (iU m) σ (qIt t) σ yes := bV h itEnd
theorem iUF {m : M T} {t : T} (h : SPf m σ t σ1) : SI X (iU m) σ (qIt t) σ1 yes := bF h itEnd
theorem iUE {m : M T} {q : Q T} (h : SE X m σ q σ1) : SI X (iU m) σ (qB q qIt) σ1 yes := bE h fun t => itEnd
theorem iOwn {i : Nat} {ts : List T} (h : σ[i]? = some (.own (.lst ts)) := by rfl) : SI X (iVar i) σ (qP ts) σ (fun _ s => s[i]? = some (.own (.lst ts))) := ⟨fun S => by
  have e : ∀ (s : List Sl) (S : List Ob) (l : List T), s[i]? = some (.own (.lst l)) → rVar i ⟨s, S⟩ = some (.fz l) := fun s S l z => by unfold rVar; simp only [z]; rfl
  refine ⟨⟨ts, fun st' => rVar i st' = some (.fz ts)⟩, σ, ?_, rfl, rfl, fun s S z => e s S ts z⟩
  unfold iVar
  rw [e σ S ts h]⟩
theorem iEnOwn {i : Nat} {ts : List T} (h : σ[i]? = some (.own (.lst ts)) := by rfl) : SI X (iEnumV i) σ (qP (enumT ts)) σ (fun l s => s[i]? = some (.own (.lst ts))) := ⟨fun S => by
  have e : ∀ (s : List Sl) (S : List Ob) (l : List T), s[i]? = some (.own (.lst l)) → rVar i ⟨s, S⟩ = some (.fz l) := fun s S l z => by unfold rVar; simp only [z]; rfl
  refine ⟨⟨enumT ts, fun st' => rVar i st' = some (.fz ts)⟩, σ, ?_, rfl, rfl, fun s S z => e s S ts z⟩
  unfold iEnumV
  rw [e σ S ts h]⟩
theorem sRange {m : M (List T)} {q : Q β} {R : Itr → β → List Sl → Prop} (k : Sim X (m >>= fun ts => match ts with
    | [.int n] => if n ≤ 1000000 ∧ -1000000 ≤ n then pure ⟨(List.range n.toNat).map fun k => .int (k : Nat), fun _ => True⟩ else stuck
    | _ => stuck) σ q R) : Sim X (iRange m) σ q R := k
theorem rgEnd {t : T} : SI X (match [t] with
    | [.int n] => if n ≤ 1000000 ∧ -1000000 ≤ n then pure ⟨(List.range n.toNat).map fun k => .int (k : Nat), fun _ => True⟩ else stuck
    | _ => stuck) σ (qRange t) σ yes := by
  unfold qRange
  cases t with
  | int n =>
    simp only
    by_cases h : n ≤ 1000000 ∧ -1000000 ≤ n
    · rw [if_pos h, if_pos h]
      exact Sim.pur ⟨rfl, rfl, fun _ _ _ => trivial⟩
    · rw [if_neg h, if_neg h]; exact Sim.zz
  | _ => exact Sim.zz
theorem sEnum {m : M (List T)} {q : Q β} {R : Itr → β → List Sl → Prop} (k : Sim X (m >>= fun ts => match ts with
    | [t] => (fun st => match lstAt st.S t with
      | some ts => some (.ok ⟨enumT ts, fun st' => lstAt st'.S t = some ts⟩, st)
      | none => none : M Itr)
    | _ => stuck) σ q R) : Sim X (iEnumU m) σ q R := k
theorem enEnd {t : T} : SI X (match [t] with
    | [t] => (fun st => match lstAt st.S t with
      | some ts => some (.ok ⟨enumT ts, fun st' => lstAt st'.S t = some ts⟩, st)
      | none => none : M Itr)
    | _ => stuck) σ (qEnum t) σ yes := ⟨fun S => by
  unfold qEnum
  cases t with
  | fz ts => exact ⟨_, _, rfl, rfl, rfl, fun _ _ _ => rfl⟩
  | _ => trivial⟩
theorem sZip {m : M (List T)} {q : Q β} {R : Itr → β → List Sl → Prop} (k : Sim X (m >>= fun ts => match ts with
    | [t, u] => (fun st => match t, u with
      | .tup ts, .tup us => some (.ok ⟨zipT ts us, fun _ => True⟩, st)
      | t, u => match lstAt st.S t, lstAt st.S u with
        | some ts, some us => some (.ok ⟨zipT ts us, fun st' => lstAt st'.S t = some ts ∧ lstAt st'.S u = some us⟩, st)
        | _, _ => none : M Itr)
    | _ => stuck) σ q R) : Sim X (iZipU m) σ q R := k
theorem zpEnd {t u : T} : SI X (match [t, u] with
    | [t, u] => (fun st => match t, u with
      | .tup ts, .tup us => some (.ok ⟨zipT ts us, fun _ => True⟩, st)
      | t, u => match lstAt st.S t, lstAt st.S u with
        | some ts, some us => some (.ok ⟨zipT ts us, fun st' => lstAt st'.S t = some ts ∧ lstAt st'.S u = some us⟩, st)
        | _, _ => none : M Itr)
    | _ => stuck) σ (qZip t u) σ yes := ⟨fun S => by
  unfold qZip
  cases t with
  | tup ts => cases u with
    | tup us => exact ⟨_, _, rfl, rfl, rfl, fun _ _ _ => trivial⟩
    | _ => trivial
  | fz ts => cases u with
    | fz us => exact ⟨_, _, rfl, rfl, rfl, fun _ _ _ => ⟨rfl, rfl⟩⟩
    | _ => trivial
  | _ => trivial⟩
/-! ### loops -/
theorem forL_sim {chk : Stt → Prop} {tg : Tg} {body : Cmd} {qb : T → γ → Q (F γ γ)} {L : γ → List Sl → Prop} {C : δ → List Sl → Prop} (hc : ∀ a s S, L a s → chk ⟨s, S⟩)
    (hb : ∀ t a s, L a s → SAs X [tg] [t] s body (qb t a) (cR L L)) : ∀ (l : List T) (a : γ) (σ : List Sl), L a σ → SC X (forL chk tg body l) σ (qFor (δ := δ) qb l a) L C
  | [], a, σ, h => Sim.cg (c_nxt h) fun S => by
    unfold forL
    rw [if_pos (hc a σ S h)]
    rfl
  | t :: ts, a, σ, h => by
    rcases hb t a σ h with ⟨σ0, e, hk⟩ | hk
    · rw [asgTs_one] at e
      refine Sim.cg (m2 := (fun st => body { st with σ := σ0 } : Cmd) >>= fun f => match f with
        | .nxt => forL chk tg body ts
        | .cnt => forL chk tg body ts
        | .brk => pure .nxt
        | .ret v => pure (.ret v)) (Sim.bnd (Sim.sh (g := fun _ => σ0) hk) fun f g s hr => ?_) fun S => ?_
      · cases f <;> cases g <;> first | exact hr.elim | exact forL_sim hc hb ts _ _ hr | exact Sim.pur hr
      · rw [forL]
        dsimp only
        rw [if_pos (hc a σ S h)]
        simp only [e, bind_def]
        cases body ⟨σ0, S⟩ with
        | none => rfl
        | some p =>
          obtain ⟨r, st⟩ := p
          cases r with
          | exc x => rfl
          | ok f => cases f <;> rfl
    · unfold qFor
      rw [hk]
      exact Sim.zz
theorem c_for {mi : M Itr} {tg : Tg} {body : Cmd} {q : Q (List T)} {qb : T → γ → Q (F γ γ)} {a : γ} {L : γ → List Sl → Prop} {C : δ → List Sl → Prop} {K : List T → List Sl → Prop} (hi : SI X mi σ q σ1 K) (h0 : L a σ1) (hc : ∀ l x s, L x s → K l s)
    (hb : ∀ t x s, L x s → SAs X [tg] [t] s body (qb t x) (cR L L)) : SC X (cFor mi tg body) σ (qB q fun l => qFor (δ := δ) qb l a) L C :=
  Sim.bnd hi fun it l s ⟨e1, e2, e3⟩ => by
    subst e2
    rw [e1]
    exact forL_sim (fun x s S h => e3 s S (hc l x s h)) hb l a _ h0
/-- .. over a list of one's own -/
theorem c_forO {mi : M Itr} {tg : Tg} {body : Cmd} {l : List T} {qb : T → γ → Q (F γ γ)} {a : γ} {L : γ → List Sl → Prop} {C : δ → List Sl → Prop} {K : List T → List Sl → Prop} (hi : SI X mi σ (qP l) σ1 K) (h0 : L a σ1) (hc : ∀ x s, L x s → K l s)
    (hb : ∀ t x s, L x s → SAs X [tg] [t] s body (qb t x) (cR L L)) : SC X (cFor mi tg body) σ (qFor (δ := δ) qb l a) L C := by
  have := Sim.bnd (q := qP l) (g := fun m => (if m = l then qFor (δ := δ) qb l a else qZ : Q (F δ γ))) hi (R2 := cR L C) (f := fun it => forL it.chk tg body it.ts) fun it m s ⟨e1, e2, e3⟩ => by
    subst e2
    by_cases hm : m = l
    · subst hm
      rw [if_pos rfl, e1]
      exact forL_sim (fun x s S h => e3 s S (hc x s h)) hb _ a _ h0
    · rw [if_neg hm]; exact Sim.zz
  have e : (qB (qP l) fun m => (if m = l then qFor (δ := δ) qb l a else qZ : Q (F δ γ))) = qFor (δ := δ) qb l a := by
    show (if l = l then qFor (δ := δ) qb l a else qZ : Q (F δ γ)) = _
    rw [if_pos rfl]
  rw [e] at this
  exact this
theorem c_while {b : M Bool} {body : Cmd} {qt : γ → Q Bool} {qb : γ → Q (F γ γ)} {L : γ → List Sl → Prop} {C : δ → List Sl → Prop}
    (ht : ∀ x s, L x s → ST X b s (qt x) s) (hb : ∀ x s, L x s → SC X body s (qb x) L L) : ∀ (n : Nat) (a : γ) (σ : List Sl), L a σ → SC X (whileL b body n) σ (qWhile (δ := δ) qt qb n a) L C
  | 0, _, _, _ => Sim.zz
  | n + 1, a, σ, h => by
    unfold whileL qWhile
    refine bT (ht a σ h) fun d => ?_
    cases d with
    | false => exact Sim.pur h
    | true =>
      refine Sim.bnd (hb a σ h) fun f g s hr => ?_
      cases f <;> cases g <;> first | exact hr.elim | exact c_while ht hb n _ _ hr | exact Sim.pur hr
theorem c_wh {b : M Bool} {body : Cmd} {qt : γ → Q Bool} {qb : γ → Q (F γ γ)} {n : Nat} {a : γ} {L : γ → List Sl → Prop} {C : δ → List Sl → Prop} (h0 : L a σ)
    (ht : ∀ x s, L x s → ST X b s (qt x) s) (hb : ∀ x s, L x s → SC X body s (qb x) L L) : SC X (whileL b body n) σ (qWhile (δ := δ) qt qb n a) L C := c_while ht hb n a σ h0
/-! ### comprehensions -/
abbrev bodyT (test : M Bool) (elt : M T) : M (Option T) := test >>= fun b => match b with
  | true => elt >>= fun y => pure (some y)
  | false => pure none
abbrev wR (own : List Nat) (σ : List Sl) : Option T → Option T → List Sl → Prop := fun a b s => a = b ∧ wipeS s own = σ
theorem g_all {elt : M T} {q : Q T} {own : List Nat} {s1 : List Sl} (h : SE X elt σ q s1) (hw : wipeS s1 own = σ2) : Sim X (bodyT bYes elt) σ (qB q fun y => qP (some y)) (wR own σ2) := 
  bE h fun y => Sim.pur ⟨rfl, hw⟩
theorem g_allV {elt : M T} {t : T} {own : List Nat} (h : SP elt σ t) (hw : wipeS σ own = σ2) : Sim X (bodyT bYes elt) σ (qP (some t)) (wR own σ2) := 
  bV h (Sim.pur ⟨rfl, hw⟩)
theorem g_if {test : M Bool} {elt : M T} {qt : Q Bool} {q : Q T} {own : List Nat} {s1 s2 : List Sl} (ht : ST X test σ qt s1) (h : SE X elt s1 q s2) (hw1 : wipeS s1 own = σ2) (hw2 : wipeS s2 own = σ2) : Sim X (bodyT test elt) σ (qB qt fun b => if b then qB q (fun y => qP (some y)) else qP none) (wR own σ2) := 
  bT ht fun b => by
    cases b with
    | true => exact bE h fun y => Sim.pur ⟨rfl, hw2⟩
    | false => exact Sim.pur ⟨rfl, hw1⟩
theorem g_ifV {test : M Bool} {elt : M T} {qt : Q Bool} {t : T} {own : List Nat} {s1 : List Sl} (ht : ST X test σ qt s1) (h : SP elt s1 t) (hw1 : wipeS s1 own = σ2) : Sim X (bodyT test elt) σ (qB qt fun b => if b then qP (some t) else qP none) (wR own σ2) := 
  bT ht fun b => by
    cases b with
    | true => exact bV h (Sim.pur ⟨rfl, hw1⟩)
    | false => exact Sim.pur ⟨rfl, hw1⟩
theorem lcL_sim {chk : Stt → Prop} {own : List Nat} {tg : Tg} {test : M Bool} {elt : M T} {g : T → Q (Option T)} (hc : ∀ S, chk ⟨σ, S⟩) (hb : ∀ t, SAs X [tg] [t] σ (bodyT test elt) (g t) (wR own σ)) :
    ∀ (l : List T) (S : List Ob), match qCompL g l S with | some (.ok ys, S') => lcL chk own tg test elt l ⟨σ, S⟩ = some (ys, ⟨σ, S'⟩) | none => True | some (.exc _, _) => False
  | [], S => by
    show lcL chk own tg test elt [] ⟨σ, S⟩ = some ([], ⟨σ, S⟩)
    unfold lcL
    rw [if_pos (hc S)]
  | t :: ts, S => by
    have ih := lcL_sim hc hb ts
    unfold qCompL
    rcases hb t with ⟨σ0, e, hk⟩ | hk
    · rw [asgTs_one] at e
      have hr := hk.run S
      cases eg : g t S with
      | none => trivial
      | some p =>
        obtain ⟨r, S1⟩ := p
        rw [eg] at hr
        cases r with
        | exc x => trivial
        | ok o =>
          simp only
          obtain ⟨a, s1, e1, rfl, hw⟩ := hr
          have ih1 := ih S1
          cases el : qCompL g ts S1 with
          | none => trivial
          | some p =>
            obtain ⟨r, S2⟩ := p
            rw [el] at ih1
            cases r with
            | exc x => trivial
            | ok ys =>
              simp only at ih1 ⊢
              unfold lcL
              rw [if_pos (hc S)]
              simp only [e]
              unfold bodyT at e1
              rw [bind_def] at e1
              cases et : test ⟨σ0, S⟩ with
              | none => rw [et] at e1; cases e1
              | some p =>
                obtain ⟨r, st1⟩ := p
                rw [et] at e1
                cases r with
                | exc x => cases e1
                | ok b =>
                  cases b with
                  | true =>
                    simp only [bind_def] at e1 ⊢
                    cases ee : elt st1 with
                    | none => rw [ee] at e1; cases e1
                    | some p =>
                      obtain ⟨r, st2⟩ := p
                      rw [ee] at e1
                      cases r with
                      | exc x => cases e1
                      | ok y =>
                        cases e1
                        simp only [hw, ih1]
                  | false =>
                    cases e1
                    simp only [hw, ih1]
    · rw [hk]; trivial
theorem g_comp {mi : M Itr} {own : List Nat} {tg : Tg} {test : M Bool} {elt : M T} {q : Q (List T)} {g : T → Q (Option T)} {K : List T → List Sl → Prop} (hi : SI X mi σ q σ1 K) (hK : ∀ l, K l (wipeS σ1 own)) (hn : own.all (fun v => notOwn σ1[v]?) = true) (hr : restS σ1 (wipeS σ1 own) own = σ1)
    (hb : ∀ t, SAs X [tg] [t] (wipeS σ1 own) (bodyT test elt) (g t) (wR own (wipeS σ1 own))) : SL X (fComp mi own tg test elt) σ (qB q (qComp g)) σ1 :=
  Sim.bnd hi fun it l s ⟨e1, e2, e3⟩ => by
    subst e2
    refine ⟨fun S => ?_⟩
    unfold qComp
    by_cases hl : l.length ≤ 1000000
    · rw [if_pos hl, e1]
      have := lcL_sim (chk := it.chk) (σ := wipeS s own) (fun S => e3 _ S (hK l)) hb l S
      simp only [hl, hn, and_self, if_true]
      cases el : qCompL g l S with
      | none => trivial
      | some p =>
        obtain ⟨r, S2⟩ := p
        rw [el] at this
        cases r with
        | exc x => exact this.elim
        | ok ys =>
          simp only at this ⊢
          rw [this]
          exact ⟨_, _, rfl, rfl, by rw [hr]⟩
    · rw [if_neg hl]; trivial
/-! ### places -/
theorem setix_b {mp : M Plc} {mi m : M T} {r : Cmd} (S : List Ob) : cSeq (cSetIx mp mi m) r ⟨σ, S⟩ = (m >>= fun t => mp >>= fun pl => mi >>= fun k => (fun st => match pl st with
    | some (ob, set) => match setF ob k t with
      | some ob' => r (set ob')
      | none => none
    | none => none : Cmd)) ⟨σ, S⟩ := by
  unfold cSeq cSetIx
  simp only [bind_def]
  cases m ⟨σ, S⟩ with
  | none => rfl
  | some p =>
    obtain ⟨r1, st⟩ := p
    cases r1 with
    | exc x => rfl
    | ok t =>
      simp only
      cases mp st with
      | none => rfl
      | some p =>
        obtain ⟨r1, st⟩ := p
        cases r1 with
        | exc x => rfl
        | ok pl =>
          simp only
          cases mi st with
          | none => rfl
          | some p =>
            obtain ⟨r1, st⟩ := p
            cases r1 with
            | exc x => rfl
            | ok k =>
              simp only
              cases pl st with
              | none => rfl
              | some p =>
                obtain ⟨ob, set⟩ := p
                simp only
                cases setF ob k t <;> rfl
theorem c_setO {i : Nat} {ys : List T} {mi m : M T} {r : Cmd} {q1 q2 : Q T} {q3 : List T → Q (F γ α)} {A : α → List Sl → Prop} {C : γ → List Sl → Prop} (h : SE X m σ q1 σ) (h2 : SE X mi σ q2 σ)
    (k : ∀ l, SC X r (σ.set i (.own (.lst l))) (q3 l) A C) (h0 : σ[i]? = some (.own (.lst ys)) := by rfl) : SC X (cSeq (cSetIx (mVar i) mi m) r) σ (qB q1 fun t => qB q2 fun k => qB (qO (setL ys k t)) q3) A C :=
  Sim.cg (bE h fun t => Sim.cg (m2 := mi >>= fun k => (fun st => match pVar i st with
    | some (ob, set) => match setF ob k t with
      | some ob' => r (set ob')
      | none => none
    | none => none : Cmd)) (bE h2 fun k1 => ⟨fun S => by
      unfold pVar
      simp only [h0]
      unfold setF setL
      cases k1 with
      | int j =>
        simp only
        cases e : ixN ys.length j with
        | none => trivial
        | some n => exact (k _).run S
      | _ => trivial⟩) fun S => by unfold mVar pVar; simp only [bind_def, h0]) setix_b
theorem c_setB {i : Nat} {x : T} {mi m : M T} {r : Cmd} {q1 q2 : Q T} {q3 : Q (F γ α)} {A : α → List Sl → Prop} {C : γ → List Sl → Prop} (h : SE X m σ q1 σ) (h2 : SE X mi σ q2 σ)
    (k : SC X r σ q3 A C) (h0 : σ[i]? = some (.val x) := by rfl) : SC X (cSeq (cSetIx (mVar i) mi m) r) σ (qB q1 fun t => qB (qIsL x) fun _ => qB q2 fun k => qB (qBxSet x k t) fun _ => q3) A C :=
  Sim.cg (bE h fun t => ⟨fun S => by
    have hb := (bE h2 fun k1 => (⟨fun S => by
      unfold qB qBxSet
      cases e : boxL S x with
      | none => trivial
      | some p =>
        obtain ⟨a, us⟩ := p
        simp only
        rw [pBox h0 e]
        simp only [setF, setL]
        cases k1 with
        | int j =>
          simp only
          cases ixN us.length j with
          | none => trivial
          | some n => exact k.run _
        | _ => trivial⟩ : SC X (fun st => match pVar i st with
    | some (ob, set) => match setF ob k1 t with
      | some ob' => r (set ob')
      | none => none
    | none => none : Cmd) σ (qB (qBxSet x k1 t) fun _ => q3) A C)).run S
    unfold qB qIsL
    cases e : boxL S x with
    | none => trivial
    | some p =>
      obtain ⟨a, us⟩ := p
      unfold mVar
      rw [bind_def]
      simp only [pBox h0 e]
      exact hb⟩) setix_b
theorem put_b {mp : M Plc} {mk mv : M T} {r : Cmd} (S : List Ob) : cSeq (cPut mp mk mv) r ⟨σ, S⟩ = (mv >>= fun t => mp >>= fun pl => mk >>= fun k => (fun st => match pl st with
    | some (.dct ks vs, set) => if isKey k = true ∧ ks.length ≤ 1000000 then r (set (putD ks vs k t)) else none
    | _ => none : Cmd)) ⟨σ, S⟩ := by
  unfold cSeq cPut
  simp only [bind_def]
  cases mv ⟨σ, S⟩ with
  | none => rfl
  | some p =>
    obtain ⟨r1, st⟩ := p
    cases r1 with
    | exc x => rfl
    | ok t =>
      simp only
      cases mp st with
      | none => rfl
      | some p =>
        obtain ⟨r1, st⟩ := p
        cases r1 with
        | exc x => rfl
        | ok pl =>
          simp only
          cases mk st with
          | none => rfl
          | some p =>
            obtain ⟨r1, st⟩ := p
            cases r1 with
            | exc x => rfl
            | ok k =>
              simp only
              cases pl st with
              | none => rfl
              | some p =>
                obtain ⟨ob, set⟩ := p
                cases ob with
                | dct ks vs =>
                  simp only
                  by_cases h : isKey k = true ∧ ks.length ≤ 1000000
                  · simp only [if_pos h]
                  · simp only [if_neg h]
                | _ => rfl
theorem putD_P {d : List T × List T} {k t : T} : putD d.1 d.2 k t = .dct (putP d k t).1 (putP d k t).2 := by
  unfold putD putP
  split <;> rfl
theorem c_putO {i : Nat} {d : List T × List T} {mk mv : M T} {r : Cmd} {q1 q2 : Q T} {q3 : List T × List T → Q (F γ α)} {A : α → List Sl → Prop} {C : γ → List Sl → Prop} (h : SE X mv σ q1 σ) (h2 : SE X mk σ q2 σ)
    (k : ∀ e : List T × List T, SC X r (σ.set i (.own (.dct e.1 e.2))) (q3 e) A C) (h0 : σ[i]? = some (.own (.dct d.1 d.2)) := by rfl) : SC X (cSeq (cPut (mVar i) mk mv) r) σ (qB q1 fun t => qB q2 fun k => qB (qPut d k t) q3) A C :=
  Sim.cg (bE h fun t => Sim.cg (m2 := mk >>= fun k => (fun st => match pVar i st with
    | some (.dct ks vs, set) => if isKey k = true ∧ ks.length ≤ 1000000 then r (set (putD ks vs k t)) else none
    | _ => none : Cmd)) (bE h2 fun k1 => ⟨fun S => by
      unfold pVar qB qPut
      simp only [h0]
      by_cases hc : isKey k1 = true ∧ d.1.length ≤ 1000000
      · simp only [if_pos hc]
        rw [putD_P]
        exact (k _).run S
      · simp only [if_neg hc]; trivial⟩) fun S => by unfold mVar pVar; simp only [bind_def, h0]) put_b
/-! ### small forms -/
theorem rdn : Rds σ [] [] := trivial
theorem rdc {r : Rdr} {x : T} {rs : List Rdr} {xs : List T} (h : Rd r x σ) (k : Rds σ rs xs) : Rds σ (r :: rs) (x :: xs) := ⟨h, k⟩
structure SPs (m : M (List T)) (σ : List Sl) (ts : List T) : Prop where run : ∀ S, m ⟨σ, S⟩ = some (.ok ts, ⟨σ, S⟩)
theorem v_aN : SPs aNil σ [] := ⟨fun S => rfl⟩
theorem v_aC {m : M T} {k : M (List T)} {t : T} {ts : List T} (h : SP m σ t) (j : SPs k σ ts) : SPs (aCons m k) σ (t :: ts) := ⟨fun S => by
  unfold aCons
  simp only [bind_def, h.run S, j.run S]
  rfl⟩
theorem v_tup {m : M (List T)} {ts : List T} (h : SPs m σ ts) (hl : ts.length ≤ 1000 := by simp only [List.length_cons, List.length_nil]; decide) : SP (eTup m) σ (.tup ts) := ⟨fun S => by
  unfold eTup
  simp only [bind_def, h.run S, if_pos hl]
  rfl⟩
theorem v_lst {m : M (List T)} {ts : List T} (h : SPs m σ ts) (hl : ts.length ≤ 1000 := by simp only [List.length_cons, List.length_nil]; decide) : SP (eFz (fLst m)) σ (.fz ts) := ⟨fun S => by
  unfold eFz fLst
  simp only [bind_def, h.run S, if_pos hl]
  rfl⟩
theorem v_neg {m : M T} {i : Int} (h : SP m σ (.int i)) : SP (eNeg m) σ (.int (-i)) := ⟨fun S => by
  unfold eNeg
  simp only [bind_def, h.run S]
  rfl⟩
theorem pT {m : M T} {t : T} {f : Option Int → M α} {q2 : Int → Q β} {R : α → β → List Sl → Prop} (h : SP m σ t) (k : ∀ i, Sim X (f (some i)) σ (q2 i) R) : Sim X (pSome m >>= f) σ (qB (qI t) q2) R :=
  Sim.cg (bV h (by
    unfold qI
    cases t with
    | int i => exact k i
    | _ => exact Sim.zz)) ps_b
/-- a slot that nobody asks for: a name's value, or none -/
def jS : Option T → Sl
  | none => .emp
  | some t => .val t
theorem nO_v {t : T} : notOwn (some (.val t)) = true := rfl
theorem nO_e : notOwn (some .emp) = true := rfl
theorem nO_j {j : Option T} : notOwn (some (jS j)) = true := by cases j <;> rfl
/-! ### a def -/
theorem fn_sim {n : Nat} {c : Cmd} {ts : List T} {q : Q (F Unit Unit)} {S S' : List Ob} {r : R T} (h : SC (fun _ => True) c (ts.map .val ++ List.replicate (n - ts.length) .emp) q (fun _ _ => True) (fun _ _ => False)) (e : qFn q S = some (r, S')) : fnM n c ts S = some (r, S') := by
  have := h.run S
  unfold qFn qB at e
  unfold fnM
  cases eq : q S with
  | none => rw [eq] at e; cases e
  | some p =>
    obtain ⟨r1, S1⟩ := p
    rw [eq] at e this
    cases r1 with
    | exc x =>
      obtain ⟨s, e1, _⟩ := this
      rw [e1]
      exact e
    | ok g =>
      obtain ⟨f, s, e1, hr⟩ := this
      rw [e1]
      cases f <;> cases g <;> first | exact hr.elim | skip
      · exact e
      · cases hr; exact e
end
end Sw
namespace Sw
open PySem PySem.Spec PyProof.Rows L2
open Classical
section
variable {α β γ δ ε : Type}
/-! ### equations -/
theorem qB_P {a : α} {f : α → Q β} : qB (qP a) f = f a := Eq.trans rfl rfl
theorem qB_Z {f : α → Q β} : qB qZ f = qZ := Eq.trans rfl rfl
theorem qB_B {m : Q α} {f : α → Q β} {g : β → Q γ} : qB (qB m f) g = qB m fun a => qB (f a) g := by
  funext S
  unfold qB
  cases m S with
  | none => rfl
  | some p =>
    obtain ⟨r, S1⟩ := p
    cases r <;> rfl
theorem qB_Pr {m : Q α} : (qB m fun a => qP a) = m := by
  funext S
  unfold qB
  cases m S with
  | none => rfl
  | some p =>
    obtain ⟨r, S1⟩ := p
    cases r <;> rfl
theorem qB_if {c : Prop} [Decidable c] {a b : Q α} {f : α → Q β} : qB (if c then a else b) f = if c then qB a f else qB b f := by split <;> rfl
theorem qSeq_if {c : Prop} [Decidable c] {a b : Q (F γ α)} {f : α → Q (F γ β)} : qSeq (if c then a else b) f = if c then qSeq a f else qSeq b f := by split <;> rfl
theorem qO_some {a : α} : qO (some a) = qP a := Eq.trans rfl rfl
theorem qO_none : qO (none : Option α) = qZ := Eq.trans rfl rfl
theorem qO_ite {c : Prop} [Decidable c] {a b : Option α} : qO (if c then a else b) = if c then qO a else qO b := by split <;> rfl
theorem qSeq_B {q : Q β} {f : β → Q (F γ α)} {k : α → Q (F γ δ)} : qSeq (qB q f) k = qB q fun x => qSeq (f x) k := qB_B
theorem qSeq_nxt {a : α} {k : α → Q (F γ δ)} : qSeq (qP (.nxt a)) k = k a := Eq.trans rfl rfl
theorem qSeq_ret {t : T} {k : α → Q (F γ δ)} : qSeq (qP (.ret t)) k = qP (.ret t) := Eq.trans rfl rfl
theorem qSeq_brk {c : γ} {k : α → Q (F γ δ)} : qSeq (qP (.brk c)) k = qP (.brk c) := Eq.trans rfl rfl
theorem qSeq_cnt {c : γ} {k : α → Q (F γ δ)} : qSeq (qP (.cnt c)) k = qP (.cnt c) := Eq.trans rfl rfl
theorem qSeq_nx {q : Q α} {k : α → Q (F γ δ)} : qSeq (qB q fun a => qP (.nxt a)) k = qB q k := by rw [qSeq_B]; rfl
theorem qTr_b {b : Bool} : qTr (.bl b) = qP b := Eq.trans rfl rfl
theorem qI_i {i : Int} : qI (.int i) = qP i := Eq.trans rfl rfl
/-- what is no boxed thing -/
def nr : T → Bool
  | .ref _ => false
  | _ => true
theorem qK_n {t : T} (h : nr t = true) : qK t = qP t := by
  cases t <;> first | rfl | cases h
theorem nr_fz {l : List T} : nr (.fz l) = true := by simp only [nr]
theorem nr_tup {l : List T} : nr (.tup l) = true := by simp only [nr]
theorem nr_str {l : List Nat} : nr (.str l) = true := by simp only [nr]
theorem nr_int {i : Int} : nr (.int i) = true := by simp only [nr]
theorem nr_bl {i : Bool} : nr (.bl i) = true := by simp only [nr]
theorem nr_non : nr .non = true := by simp only [nr]
theorem nr_ty {i : String} : nr (.ty i) = true := by simp only [nr]
theorem nr_dic {i j : List T} : nr (.dic i j) = true := by simp only [nr]
theorem nr_scr {i : List Int} : nr (.scr i) = true := by simp only [nr]
theorem qOp2_n {f : T → T → Option T} {x y : T} (hx : nr x = true) (hy : nr y = true) : qOp2 f x y = qO (f x y) := by
  unfold qOp2
  rw [qK_n hx, qK_n hy]
  rfl
theorem qKs_nil : qKs [] = qP [] := Eq.trans rfl rfl
theorem qKs_n {x : T} {xs : List T} (h : nr x = true) : qKs (x :: xs) = qB (qKs xs) fun us => qP (x :: us) := by
  show qB (qK x) _ = _
  rw [qK_n h]
  rfl
theorem qCall_1 {f : List T → Option β} {x : T} (h : nr x = true) : qCall f [x] = qO (f [x]) := by
  unfold qCall
  rw [qKs_n h, qKs_nil]
  rfl
theorem qCall_2 {f : List T → Option β} {x y : T} (h : nr x = true) (h2 : nr y = true) : qCall f [x, y] = qO (f [x, y]) := by
  unfold qCall
  rw [qKs_n h, qKs_n h2, qKs_nil]
  rfl
theorem qSl_n {f : T → Option Int → Option Int → Option β} {x : T} {lo hi : Option Int} (h : nr x = true) : qSl f x lo hi = qO (f x lo hi) := by
  unfold qSl
  rw [qK_n h]
  rfl
theorem qTy_n {n : String} {x : T} (h : nr x = true) : qTy n x = if tyOk n x then qP () else qZ := by
  unfold qTy
  rw [qK_n h]
  rfl
theorem qMeth_n {f : T → List T → Option T} {x : T} {as : List T} (h : nr x = true) : qMeth f x as = qO (f x as) := by
  unfold qMeth
  rw [qK_n h]
  rfl
theorem tyOk_f {l : List T} : tyOk "list" (.fz l) = true := by first | rfl | decide +kernel | simp [tyOk]
theorem tyOk_s {l : List Nat} : tyOk "str" (.str l) = true := by first | rfl | decide +kernel | simp [tyOk]
theorem qIt_f {l : List T} : qIt (.fz l) = qP l := Eq.trans rfl rfl
theorem qIt_t {l : List T} : qIt (.tup l) = qP l := Eq.trans rfl rfl
theorem qIt_s {l : List Nat} : qIt (.str l) = qP (l.map fun c => .str [c]) := Eq.trans rfl rfl
theorem qEnum_f {l : List T} : qEnum (.fz l) = qP (enumT l) := Eq.trans rfl rfl
theorem qZip_t {l m : List T} : qZip (.tup l) (.tup m) = qP (zipT l m) := Eq.trans rfl rfl
theorem qZip_f {l m : List T} : qZip (.fz l) (.fz m) = qP (zipT l m) := Eq.trans rfl rfl
theorem qRange_n {n : Nat} (h : n ≤ 1000000) : qRange (.int n) = qP ((List.range n).map fun k => .int (k : Nat)) := by
  unfold qRange
  simp only
  rw [if_pos (by omega)]
  simp
theorem qRange_i {n : Int} (h : n ≤ 1000000) (h2 : -1000000 ≤ n) : qRange (.int n) = qP ((List.range n.toNat).map fun k => .int (k : Nat)) := by
  unfold qRange
  simp only
  rw [if_pos ⟨h, h2⟩]
theorem un2_t {x y : T} {k : T → T → Q α} : un2 (.tup [x, y]) k = k x y := Eq.trans rfl rfl
theorem un3_t {x y z : T} {k : T → T → T → Q α} : un3 (.tup [x, y, z]) k = k x y z := Eq.trans rfl rfl
theorem un4_t {x y z u : T} {k : T → T → T → T → Q α} : un4 (.tup [x, y, z, u]) k = k x y z u := Eq.trans rfl rfl
theorem slU_f {l : List T} {a b : Option Int} : slU (.fz l) a b = some (.fz (cutL l a b)) := Eq.trans rfl rfl
theorem slU_t {l : List T} {a b : Option Int} : slU (.tup l) a b = some (.tup (cutL l a b)) := Eq.trans rfl rfl
theorem slL_f {l : List T} {a b : Option Int} : slL (.fz l) a b = some (cutL l a b) := Eq.trans rfl rfl
theorem revL_f {l : List T} : revL (.fz l) = some l.reverse := Eq.trans rfl rfl
theorem qFor_nil {body : T → γ → Q (F γ γ)} {a : γ} : qFor (δ := δ) body [] a = qP (.nxt a) := Eq.trans rfl rfl
theorem qFor_cons {body : T → γ → Q (F γ γ)} {a : γ} {t : T} {ts : List T} : qFor (δ := δ) body (t :: ts) a = qB (body t a) fun f => match f with
    | .nxt a' => qFor body ts a'
    | .cnt a' => qFor body ts a'
    | .brk a' => qP (.nxt a')
    | .ret t => qP (.ret t) := rfl
theorem qFor_nx {body : T → γ → Q (F γ γ)} {f : T → γ → γ} : ∀ {l : List T} {a : γ}, (∀ t ∈ l, ∀ a, body t a = qP (.nxt (f t a))) → qFor (δ := δ) body l a = qP (.nxt (l.foldl (fun a t => f t a) a))
  | [], _, _ => rfl
  | t :: ts, a, h => by
    rw [qFor_cons, h t List.mem_cons_self, qB_P]
    simp only
    rw [qFor_nx fun u hu => h u (List.mem_cons_of_mem _ hu)]
    rfl
/-- a loop that goes on, by what holds all along; what is carried as told -/
theorem qFor_fold {ζ : Type} {body : T → γ → Q (F γ γ)} {en : ε → T} {ea : ζ → γ} {f : ε → ζ → ζ} (P : Nat → ζ → Prop) : ∀ {l : List ε} {k : Nat} {a : ζ}, P k a → (∀ i t a, l[i]? = some t → P (k + i) a → body (en t) (ea a) = qP (.nxt (ea (f t a))) ∧ P (k + i + 1) (f t a)) →
    qFor (δ := δ) body (l.map en) (ea a) = qP (.nxt (ea (l.foldl (fun a t => f t a) a))) ∧ P (k + l.length) (l.foldl (fun a t => f t a) a)
  | [], k, a, h0, _ => ⟨rfl, h0⟩
  | t :: ts, k, a, h0, h => by
    obtain ⟨e, h1⟩ := h 0 t a rfl h0
    have ih := qFor_fold (body := body) (en := en) (ea := ea) (f := f) P (l := ts) (k := k + 1) h1 fun i u b hu hb => by
      have := h (i + 1) u b (by rw [List.getElem?_cons_succ]; exact hu) (by rw [show k + (i + 1) = k + 1 + i by omega]; exact hb)
      rw [show k + (i + 1) = k + 1 + i by omega] at this
      exact this
    rw [List.map_cons, qFor_cons, e, qB_P, List.length_cons, show k + (ts.length + 1) = k + 1 + ts.length by omega]
    exact ih
theorem enumT_map {en : ε → T} {l : List ε} : enumT (l.map en) = (l.mapIdx fun i x => (i, x)).map fun p => .tup [.int (p.1 : Nat), en p.2] := by
  unfold enumT
  refine List.ext_getElem? fun i => ?_
  rw [List.getElem?_mapIdx, List.getElem?_map, List.getElem?_map, List.getElem?_mapIdx]
  cases l[i]? <;> rfl
theorem foldl_app {ζ : Type} {f : ε → List ζ} : ∀ {l : List ε} {a : List ζ}, l.foldl (fun a t => a ++ f t) a = a ++ l.flatMap f
  | [], a => by simp
  | t :: ts, a => by
    rw [List.foldl_cons, foldl_app, List.flatMap_cons, List.append_assoc]
theorem qFor_findM {body : T → Unit → Q (F Unit Unit)} {en : ε → T} {p : ε → Bool} {r : ε → T} : ∀ {l : List ε}, (∀ t ∈ l, body (en t) () = if p t then qP (.ret (r t)) else qP (.nxt ())) → qFor (δ := δ) body (l.map en) () = qP (match l.find? p with | some t => .ret (r t) | none => .nxt ())
  | [], _ => rfl
  | t :: ts, h => by
    rw [List.map_cons, qFor_cons, h t List.mem_cons_self]
    cases e : p t with
    | true => rw [if_pos rfl, List.find?_cons_of_pos (by rw [e]), qB_P]
    | false =>
      rw [if_neg (by simp), List.find?_cons_of_neg (by rw [e]; simp), qB_P]
      exact qFor_findM fun u hu => h u (List.mem_cons_of_mem _ hu)
/-- .. and never stops -/
theorem qFor_skip {body : T → Unit → Q (F Unit Unit)} : ∀ {l : List T}, (∀ t ∈ l, body t () = qP (.nxt ())) → qFor (δ := δ) body l () = qP (.nxt ())
  | [], _ => rfl
  | t :: ts, h => by
    rw [qFor_cons, h t List.mem_cons_self, qB_P]
    exact qFor_skip fun u hu => h u (List.mem_cons_of_mem _ hu)
/-- a loop that goes on while p fails, and gives r where it holds -/
theorem qFor_find {body : T → Unit → Q (F Unit Unit)} {p : T → Bool} {r : T → T} : ∀ {l : List T}, (∀ t ∈ l, body t () = if p t then qP (.ret (r t)) else qP (.nxt ())) → qFor (δ := δ) body l () = qP (match l.find? p with | some t => .ret (r t) | none => .nxt ())
  | [], _ => rfl
  | t :: ts, h => by
    rw [qFor_cons, h t List.mem_cons_self]
    cases e : p t with
    | true => rw [if_pos rfl, List.find?_cons_of_pos (by rw [e]), qB_P]
    | false =>
      rw [if_neg (by simp), List.find?_cons_of_neg (by rw [e]; simp), qB_P]
      exact qFor_find fun u hu => h u (List.mem_cons_of_mem _ hu)
theorem qCompL_pure {g : T → Q (Option T)} {f : T → Option T} : ∀ {l : List T}, (∀ t ∈ l, g t = qP (f t)) → qCompL g l = qP (l.filterMap f)
  | [], _ => rfl
  | t :: ts, h => by
    funext S
    unfold qCompL
    rw [h t List.mem_cons_self, qCompL_pure fun u hu => h u (List.mem_cons_of_mem _ hu)]
    unfold qP
    simp only
    rw [List.filterMap_cons]
    cases f t <;> rfl
theorem qComp_p {g : T → Q (Option T)} {f : T → Option T} {l : List T} (hl : l.length ≤ 1000000) (h : ∀ t ∈ l, g t = qP (f t)) : qComp g l = qP (l.filterMap f) := by
  unfold qComp
  rw [if_pos hl, qCompL_pure h]
/-- .. over told things -/
theorem qComp_m {g : T → Q (Option T)} {en : ε → T} {f : ε → Option T} {l : List ε} (hl : l.length ≤ 1000000) (h : ∀ t ∈ l, g (en t) = qP (f t)) : qComp g (l.map en) = qP (l.filterMap f) := by
  unfold qComp
  rw [if_pos (by simpa using hl)]
  have : ∀ {l : List ε}, (∀ t ∈ l, g (en t) = qP (f t)) → qCompL g (l.map en) = qP (l.filterMap f) := by
    intro l
    induction l with
    | nil => intro _; rfl
    | cons t ts ih =>
      intro h
      funext S
      rw [List.map_cons]
      unfold qCompL
      rw [h t List.mem_cons_self, ih fun u hu => h u (List.mem_cons_of_mem _ hu)]
      unfold qP
      simp only
      rw [List.filterMap_cons]
      cases f t <;> rfl
  exact this h
/-- each one's own -/
theorem qComp_a {g : T → Q (Option T)} {en : ε → T} {f : ε → T} {l : List ε} (hl : l.length ≤ 1000000) (h : ∀ t ∈ l, g (en t) = qP (some (f t))) : qComp g (l.map en) = qP (l.map f) := by
  rw [qComp_m (f := fun t => some (f t)) hl h]
  congr 1
  induction l with
  | nil => rfl
  | cons t ts ih => rw [List.filterMap_cons_some (by rfl), ih (by simp at hl; omega) fun u hu => h u (List.mem_cons_of_mem _ hu)]; rfl
/-- some of them -/
theorem qComp_f {g : T → Q (Option T)} {en f : ε → T} {p : ε → Bool} {l : List ε} (hl : l.length ≤ 1000000) (h : ∀ t ∈ l, g (en t) = qP (if p t then some (f t) else none)) : qComp g (l.map en) = qP ((l.filter p).map f) := by
  rw [qComp_m (f := fun t => if p t then some (f t) else none) hl h]
  congr 1
  clear h hl
  induction l with
  | nil => rfl
  | cons t ts ih =>
    cases e : p t with
    | true => rw [List.filterMap_cons_some (by rw [e]; rfl), List.filter_cons_of_pos e, ih]; rfl
    | false => rw [List.filterMap_cons_none (by rw [e]; rfl), List.filter_cons_of_neg (by rw [e]; simp), ih]
theorem qIf_P {c : Bool} {a b : α} : (if c = true then qP a else qP b) = qP (if c then a else b) := by cases c <;> rfl
theorem qFn_ret {t : T} : qFn (qP (.ret t)) = qP t := Eq.trans rfl rfl
theorem qFn_nxt {t : Unit} : qFn (qP (.nxt t)) = qP .non := Eq.trans rfl rfl
theorem qFn_B {q : Q α} {f : α → Q (F Unit Unit)} : qFn (qB q f) = qB q fun x => qFn (f x) := qB_B
theorem qFn_if {c : Prop} [Decidable c] {a b : Q (F Unit Unit)} : qFn (if c then a else b) = if c then qFn a else qFn b := by split <;> rfl
/-- a def that changes nothing -/
theorem fn_pure {m : FnM} {ts : List T} {q : Q T} {v : T} (hs : ∀ {S S' : List Ob} {r : R T}, q S = some (r, S') → m ts S = some (r, S')) (h : q = qP v) : m ts = qP v := by
  funext S
  exact hs (by rw [h]; rfl)
theorem fw_pure {m : FnM} {ts : List T} {v : T} (h : ∀ S, Fw m ts S fun t S' => t = v ∧ S' = S) : m ts = qP v := by
  funext S
  obtain ⟨t, S', e, rfl, rfl⟩ := (h S).ex
  exact e
/-! ### what one comes to -/
@[irreducible] def Qw (q : Q α) (S : List Ob) (Φ : α → List Ob → Prop) : Prop := match q S with
  | some (.ok a, S') => Φ a S'
  | _ => False
section
variable {S : List Ob}
theorem Qw.ex {q : Q α} {Φ : α → List Ob → Prop} (h : Qw q S Φ) : ∃ t S', q S = some (.ok t, S') ∧ Φ t S' := by
  unfold Qw at h
  cases e : q S with
  | none => rw [e] at h; exact h.elim
  | some p =>
    obtain ⟨r, S'⟩ := p
    rw [e] at h
    cases r with
    | ok t => exact ⟨t, S', rfl, h⟩
    | exc x => exact h.elim
theorem Qw.of {q : Q α} {Φ : α → List Ob → Prop} {t : α} {S' : List Ob} (e : q S = some (.ok t, S')) (h : Φ t S') : Qw q S Φ := by
  unfold Qw
  rw [e]
  exact h
theorem Qw.mono {q : Q α} {Φ Ψ : α → List Ob → Prop} (h : Qw q S Φ) (k : ∀ t S', Φ t S' → Ψ t S') : Qw q S Ψ := by
  obtain ⟨t, S', e, q⟩ := h.ex
  exact .of e (k t S' q)
theorem Qw_P {a : α} {Φ : α → List Ob → Prop} : Qw (qP a) S Φ = Φ a S := by unfold Qw qP; rfl
theorem Qw_Z {Φ : α → List Ob → Prop} : Qw qZ S Φ = False := by unfold Qw qZ; rfl
theorem Qw_B {m : Q α} {f : α → Q β} {Φ : β → List Ob → Prop} : Qw (qB m f) S Φ = Qw m S fun a S1 => Qw (f a) S1 Φ := by
  unfold Qw qB
  cases m S with
  | none => rfl
  | some p =>
    obtain ⟨r, S1⟩ := p
    cases r <;> rfl
theorem Qw_O {o : Option α} {Φ : α → List Ob → Prop} : Qw (qO o) S Φ = Op o fun a => Φ a S := by
  cases o with
  | none => exact Qw_Z
  | some a => exact Qw_P
theorem Qw_if {c : Prop} [Decidable c] {a b : Q α} {Φ : α → List Ob → Prop} : Qw (if c then a else b) S Φ = if c then Qw a S Φ else Qw b S Φ := by split <;> rfl
theorem Qw_fn {m : FnM} {ts : List T} {Φ : T → List Ob → Prop} : Qw (m ts) S Φ = Fw m ts S Φ := by
  unfold Qw Fw
  cases m ts S with
  | none => rfl
  | some p =>
    obtain ⟨r, S1⟩ := p
    cases r <;> rfl
theorem Qw_seq {q : Q (F γ α)} {k : α → Q (F γ β)} {Φ : F γ β → List Ob → Prop} : Qw (qSeq q k) S Φ = Qw q S fun f S1 => match f with
    | .nxt a => Qw (k a) S1 Φ
    | .brk c => Φ (.brk c) S1
    | .cnt c => Φ (.cnt c) S1
    | .ret t => Φ (.ret t) S1 := by
  unfold qSeq
  rw [Qw_B]
  congr 1
  funext f S1
  cases f <;> first | rfl | exact Qw_P
theorem Qw_qFn {q : Q (F Unit Unit)} {Φ : T → List Ob → Prop} : Qw (qFn q) S Φ = Qw q S fun f S1 => match f with
    | .nxt _ => Φ .non S1
    | .ret t => Φ t S1
    | _ => False := by
  unfold qFn
  rw [Qw_B]
  congr 1
  funext f S1
  cases f <;> first | exact Qw_P | exact Qw_Z
theorem Qw_seqE {q : Q (F γ α)} {k : α → Q (F γ β)} {a : α} {Φ : F γ β → List Ob → Prop} (h : q = qP (.nxt a)) (h2 : Qw (k a) S Φ) : Qw (qSeq q k) S Φ := by
  rw [h]
  exact h2
theorem Qw_BE {q : Q α} {f : α → Q β} {a : α} {Φ : β → List Ob → Prop} (h : q = qP a) (h2 : Qw (f a) S Φ) : Qw (qB q f) S Φ := by
  rw [h]
  exact h2
theorem fw_of {m : FnM} {ts : List T} {q : Q T} {Φ : T → List Ob → Prop} (hs : ∀ {S S' : List Ob} {r : R T}, q S = some (r, S') → m ts S = some (r, S')) (h : Qw q S Φ) : Fw m ts S Φ := by
  obtain ⟨t, S', e, q⟩ := h.ex
  exact .of (hs e) q
/-- a loop by an invariant -/
theorem Qw_for {body : T → γ → Q (F γ γ)} {Φ : F δ γ → List Ob → Prop} (I : Nat → γ → List Ob → Prop) : ∀ (l : List T) (k : Nat) (a : γ) (S : List Ob), I k a S →
    (∀ i t a S, l[i]? = some t → I (k + i) a S → Qw (body t a) S fun f S1 => match f with
      | .nxt a' => I (k + i + 1) a' S1
      | .cnt a' => I (k + i + 1) a' S1
      | .brk a' => Φ (.nxt a') S1
      | .ret t => Φ (.ret t) S1) → (∀ a S, I (k + l.length) a S → Φ (.nxt a) S) → Qw (qFor body l a) S Φ
  | [], k, a, S, h0, _, he => by rw [qFor_nil, Qw_P]; exact he a S h0
  | t :: ts, k, a, S, h0, hs, he => by
    rw [qFor_cons, Qw_B]
    refine (hs 0 t a S rfl h0).mono fun f S1 q => ?_
    have rest : ∀ a1, I (k + 0 + 1) a1 S1 → Qw (qFor body ts a1) S1 Φ := fun a1 h =>
      Qw_for I ts (k + 1) a1 S1 h (fun i u b S e hi => by
        have := hs (i + 1) u b S (by rw [List.getElem?_cons_succ]; exact e) (by rw [show k + (i + 1) = k + 1 + i by omega]; exact hi)
        rw [show k + (i + 1) = k + 1 + i by omega] at this
        exact this) (fun b S hi => he b S (by rw [List.length_cons, show k + (ts.length + 1) = k + 1 + ts.length by omega]; exact hi))
    cases f with
    | nxt a1 => exact rest a1 q
    | cnt a1 => exact rest a1 q
    | brk a1 => show Qw (qP _) S1 Φ; rw [Qw_P]; exact q
    | ret u => show Qw (qP _) S1 Φ; rw [Qw_P]; exact q
/-- .. whose turns are no matter of their number -/
theorem Qw_forI {body : T → γ → Q (F γ γ)} {Φ : F δ γ → List Ob → Prop} (I : γ → List Ob → Prop) {l : List T} {a : γ} {S : List Ob} (h0 : I a S)
    (hs : ∀ t a S, t ∈ l → I a S → Qw (body t a) S fun f S1 => match f with
      | .nxt a' => I a' S1
      | .cnt a' => I a' S1
      | .brk a' => Φ (.nxt a') S1
      | .ret t => Φ (.ret t) S1) (he : ∀ a S, I a S → Φ (.nxt a) S) : Qw (qFor body l a) S Φ :=
  Qw_for (fun _ => I) l 0 a S h0 (fun i t a S e hi => hs t a S (List.mem_of_getElem? e) hi) fun a S h => he a S h
theorem Qw_while {test : γ → Q Bool} {body : γ → Q (F γ γ)} {Φ : F δ γ → List Ob → Prop} (I : Nat → γ → List Ob → Prop) (hs : ∀ n a S, I n a S → Qw (test a) S fun b S1 => if b = true then Qw (body a) S1 (fun f S2 => match f with
      | .nxt a' => ∃ m, m < n ∧ I m a' S2
      | .cnt a' => ∃ m, m < n ∧ I m a' S2
      | .brk a' => Φ (.nxt a') S2
      | .ret t => Φ (.ret t) S2) else Φ (.nxt a) S1) : ∀ (fuel n : Nat) (a : γ) (S : List Ob), n < fuel → I n a S → Qw (qWhile test body fuel a) S Φ
  | 0, n, a, S, h, _ => absurd h (Nat.not_lt_zero _)
  | fuel + 1, n, a, S, h, hi => by
    unfold qWhile
    rw [Qw_B]
    refine (hs n a S hi).mono fun c S1 q => ?_
    cases c with
    | false =>
      rw [if_neg (by simp)] at q ⊢
      rw [Qw_P]
      exact q
    | true =>
      rw [if_pos rfl] at q ⊢
      rw [Qw_B]
      refine q.mono fun f S2 q => ?_
      cases f with
      | nxt a1 =>
        obtain ⟨m, hm, hi2⟩ := q
        exact Qw_while I hs fuel m a1 S2 (by omega) hi2
      | cnt a1 =>
        obtain ⟨m, hm, hi2⟩ := q
        exact Qw_while I hs fuel m a1 S2 (by omega) hi2
      | brk a1 => show Qw (qP _) S2 Φ; rw [Qw_P]; exact q
      | ret u => show Qw (qP _) S2 Φ; rw [Qw_P]; exact q
/-- a comprehension by an invariant -/
theorem Qw_compL {g : T → Q (Option T)} {Φ : List T → List Ob → Prop} (I : Nat → List T → List Ob → Prop) : ∀ (l : List T) (k : Nat) (done : List T) (S : List Ob), I k done S →
    (∀ i t done S, l[i]? = some t → I (k + i) done S → Qw (g t) S fun o S1 => I (k + i + 1) (match o with | some y => done ++ [y] | none => done) S1) → (∀ ys S, I (k + l.length) (done ++ ys) S → Φ ys S) → Qw (qCompL g l) S Φ
  | [], k, done, S, h0, _, he => by
    show Qw (qP []) S Φ
    rw [Qw_P]
    exact he [] S (by rw [List.append_nil]; exact h0)
  | t :: ts, k, done, S, h0, hs, he => by
    obtain ⟨o, S1, e1, h1⟩ := (hs 0 t done S rfl h0).ex
    cases o with
    | none =>
      have ih := Qw_compL (g := g) (Φ := Φ) I ts (k + 1) done S1 h1 (fun i u dn S e hi => by
        have := hs (i + 1) u dn S (by rw [List.getElem?_cons_succ]; exact e) (by rw [show k + (i + 1) = k + 1 + i by omega]; exact hi)
        rw [show k + (i + 1) = k + 1 + i by omega] at this
        exact this) (fun ys S2 hi => he _ S2 (by
          rw [List.length_cons, show k + (ts.length + 1) = k + 1 + ts.length by omega]
          exact hi))
      obtain ⟨ys, S2, e2, h2⟩ := ih.ex
      refine .of (t := ys) (S' := S2) ?_ h2
      unfold qCompL
      rw [e1]
      simp only
      rw [e2]
    | some y =>
      have ih := Qw_compL (g := g) (Φ := fun ys S2 => Φ (y :: ys) S2) I ts (k + 1) (done ++ [y]) S1 h1 (fun i u dn S e hi => by
        have := hs (i + 1) u dn S (by rw [List.getElem?_cons_succ]; exact e) (by rw [show k + (i + 1) = k + 1 + i by omega]; exact hi)
        rw [show k + (i + 1) = k + 1 + i by omega] at this
        exact this) (fun ys S2 hi => he _ S2 (by
          rw [List.length_cons, show k + (ts.length + 1) = k + 1 + ts.length by omega]
          rw [List.append_assoc] at hi
          exact hi))
      obtain ⟨ys, S2, e2, h2⟩ := ih.ex
      refine .of (t := y :: ys) (S' := S2) ?_ h2
      unfold qCompL
      rw [e1]
      simp only
      rw [e2]
theorem Qw_comp {g : T → Q (Option T)} {Φ : List T → List Ob → Prop} (I : Nat → List T → List Ob → Prop) {l : List T} {S : List Ob} (hl : l.length ≤ 1000000) (h0 : I 0 [] S)
    (hs : ∀ i t done S, l[i]? = some t → I i done S → Qw (g t) S fun o S1 => I (i + 1) (match o with | some y => done ++ [y] | none => done) S1) (he : ∀ ys S, I l.length ys S → Φ ys S) : Qw (qComp g l) S Φ := by
  unfold qComp
  rw [if_pos hl]
  exact Qw_compL I l 0 [] S h0 (fun i t done S e h => by rw [Nat.zero_add] at h ⊢; exact hs i t done S e h) fun ys S h => he ys S (by rw [Nat.zero_add, List.nil_append] at h; exact h)
end
end
end Sw
namespace Sw
open PySem PySem.Spec PyProof.Rows L2
open Classical
theorem W_bYes {st : Stt} {Φ : Bool → Stt → Prop} : W bYes st Φ = Φ true st := by unfold W; rfl
theorem Lw_lst {us : List T} {set : Ob → Stt} {Φ : List T → (Ob → Stt) → Prop} : Lw (some (.lst us, set)) Φ = Φ us set := rfl
theorem lstAt_fz {S : List Ob} {ts : List T} : lstAt S (.fz ts) = some ts := rfl
theorem lenO_fz {ts : List T} : lenO [.fz ts] = some (.int ts.length) := rfl
theorem lenO_str {s : List Nat} : lenO [.str s] = if s.length ≤ 1000000 then some (.int s.length) else none := rfl
theorem isiO_v {t : T} {c : String} : isiO [t, .ty c] = match t.tyOf with | some n => (kitB n c).map .bl | none => none := rfl
/-! ### the pot of a law -/
def PotO (ob : Ob) : Prop := ∃ (cs : List Int) (at_ rest : Int), ob = .lst [.fz (cs.map .int), .int at_, .int rest] ∧ 0 ≤ at_ ∧ 0 ≤ rest
def IsPot (S : List Ob) (p : Nat) : Prop := ∃ ob, S[p]? = some ob ∧ PotO ob
/-- the pot alone has turned -/
def Pt (p : Nat) (S S' : List Ob) : Prop := IsPot S' p ∧ S'.length = S.length ∧ ∀ q, q ≠ p → S'[q]? = S[q]?
theorem Pt.refl {p : Nat} {S : List Ob} (h : IsPot S p) : Pt p S S := ⟨h, rfl, fun _ _ => rfl⟩
theorem Pt.trans {p : Nat} {S S1 S2 : List Ob} (h : Pt p S S1) (k : Pt p S1 S2) : Pt p S S2 := ⟨k.1, k.2.1.trans h.2.1, fun q hq => (k.2.2 q hq).trans (h.2.2 q hq)⟩
theorem IsPot.lt {p : Nat} {S : List Ob} (h : IsPot S p) : p < S.length := by
  obtain ⟨ob, e, _⟩ := h
  exact (List.getElem?_eq_some_iff.mp e).1
theorem Pt.set {p : Nat} {S : List Ob} {ob : Ob} (h : IsPot S p) (k : PotO ob) : Pt p S (S.set p ob) := by
  refine ⟨⟨ob, ?_, k⟩, List.length_set, fun q hq => List.getElem?_set_ne (fun e => hq e.symm)⟩
  rw [List.getElem?_set_self h.lt]
/-- a name set by what leaves the rest as it is -/
theorem W_let {i : Nat} {m : M T} {rest : Cmd} {st : Stt} {Φ : Fl → Stt → Prop} (P : T → Prop) (h : W m st (fun t st1 => st1 = st ∧ P t)) (k : ∀ t, P t → W rest { st with σ := st.σ.set i (.val t) } Φ) : W (cSeq (cSet i m) rest) st Φ := by
  rw [W_cSeq, W_cSet]
  refine h.mono fun t st1 q => ?_
  obtain ⟨rfl, q⟩ := q
  exact k t q
theorem W_seq {a b : Cmd} {st : Stt} {Φ : Fl → Stt → Prop} (P : Stt → Prop) (h : W a st (fun f st1 => f = .nxt ∧ P st1)) (k : ∀ st1, P st1 → W b st1 Φ) : W (cSeq a b) st Φ := by
  rw [W_cSeq]
  refine h.mono fun f st1 q => ?_
  obtain ⟨rfl, q⟩ := q
  exact k st1 q
theorem ixN_nat {n k : Nat} (h : k < n) : ixN n (k : Int) = some k := by
  unfold ixN
  rw [if_pos (by omega), if_pos (by omega)]
  simp
theorem atI_k {α : Type} {xs : List α} {k : Nat} : atI xs (k : Int) = xs[k]? := by
  unfold atI
  by_cases h : k < xs.length
  · rw [ixN_nat h]; rfl
  · unfold ixN
    rw [if_pos (by omega), if_neg (by omega)]
    simp only [Option.bind_none]
    rw [List.getElem?_eq_none (by omega)]
theorem ix_n {ts : List T} {k : Nat} : ixU (.fz ts) (.int (k : Int)) = ts[k]? := atI_k
theorem ix_0 {ts : List T} : ixU (.fz ts) (.int 0) = ts[0]? := atI_k (k := 0)
theorem ix_1 {ts : List T} : ixU (.fz ts) (.int 1) = ts[1]? := atI_k (k := 1)
theorem ix_2 {ts : List T} : ixU (.fz ts) (.int 2) = ts[2]? := atI_k (k := 2)
theorem ix_t0 {ts : List T} : ixU (.tup ts) (.int 0) = ts[0]? := atI_k (k := 0)
theorem ix_t1 {ts : List T} : ixU (.tup ts) (.int 1) = ts[1]? := atI_k (k := 1)
theorem ix_t2 {ts : List T} : ixU (.tup ts) (.int 2) = ts[2]? := atI_k (k := 2)
theorem ix_i {ts : List T} {i : Int} (h : 0 ≤ i) : ixU (.fz ts) (.int i) = ts[i.toNat]? := by
  have := @ix_n ts i.toNat
  rw [Int.toNat_of_nonneg h] at this
  exact this
theorem set_i {ts : List T} {i : Int} {t : T} (h : 0 ≤ i) (h2 : i < ts.length) : setF (.lst ts) (.int i) t = some (.lst (ts.set i.toNat t)) := by
  unfold setF
  have := @ixN_nat ts.length i.toNat (by omega)
  rw [Int.toNat_of_nonneg h] at this
  simp only [this, Option.map_some]
theorem set_1 {a b c t : T} : setF (.lst [a, b, c]) (.int 1) t = some (.lst [a, t, c]) := rfl
theorem set_2 {a b c t : T} : setF (.lst [a, b, c]) (.int 2) t = some (.lst [a, b, t]) := rfl
theorem dats_all {n : Nat} : ∀ {ts : List T}, (∀ t ∈ ts, t.dat n = true) → T.dats n ts = true
  | [], _ => rfl
  | t :: ts, h => by
    show (t.dat n && T.dats n ts) = true
    rw [h t List.mem_cons_self, dats_all fun u hu => h u (List.mem_cons_of_mem _ hu)]
    rfl
theorem dat_fz {n : Nat} {ts : List T} (h : ∀ t ∈ ts, t.dat n = true) : (T.fz ts).dat (n + 1) = true := dats_all h
theorem dat_int {n : Nat} {i : Int} : (T.int i).dat n = true := by cases n <;> rfl
theorem dat_str {n : Nat} {s : List Nat} (h : s.all (· < 0x110000) = true) : (T.str s).dat n = true := by cases n <;> exact h
theorem eqvs_nil {ts : List T} : T.eqvs ts [] = ts.isEmpty := by cases ts <;> rfl
theorem dat_nil {n : Nat} : (T.fz []).dat (n + 1) = true := rfl
theorem eq_nil {ts : List T} (h : (T.fz ts).dat 60 = true) : eqT (.fz ts) (.fz []) = some (.bl ts.isEmpty) := by
  unfold eqT eqO
  rw [h]
  simp only [dat_nil, Bool.and_self, if_true, Option.map_some, T.eqv, eqvs_nil]
theorem ne_nil {ts : List T} (h : (T.fz ts).dat 60 = true) : neT (.fz ts) (.fz []) = some (.bl (!ts.isEmpty)) := by
  unfold neT neO
  rw [h]
  simp only [dat_nil, Bool.and_self, if_true, Option.map_some, T.eqv, eqvs_nil]
theorem dat_ints {n : Nat} {cs : List Int} : (T.fz (cs.map .int)).dat (n + 1) = true := dat_fz fun t h => by
  obtain ⟨i, _, rfl⟩ := List.mem_map.mp h
  exact dat_int
theorem eqvs_str : ∀ {a b : List (List Nat)}, T.eqvs (a.map .str) (b.map .str) = (a == b)
  | [], [] => rfl
  | [], _ :: _ => rfl
  | _ :: _, [] => rfl
  | x :: a, y :: b => by
    show (x == y && T.eqvs (a.map .str) (b.map .str)) = (x :: a == y :: b)
    rw [eqvs_str]
    rfl
theorem W_if {c : M Bool} {a e : Cmd} {st : Stt} {Φ : Fl → Stt → Prop} (b : Bool) (h : W c st (fun d st1 => d = b ∧ st1 = st)) (ht : b = true → W a st Φ) (hf : b = false → W e st Φ) : W (cIf c a e) st Φ := by
  rw [W_cIf]
  refine h.mono fun d st1 q => ?_
  obtain ⟨rfl, rfl⟩ := q
  cases d
  · exact hf rfl
  · exact ht rfl
theorem sIx_n {n d : Nat} {i : Int} (h : 0 ≤ i) : HT.sIx n d (some i) = min i.toNat n := by
  unfold HT.sIx
  simp only [h]
  split <;> omega
theorem cut_to {α : Type} {xs : List α} {i : Int} (h : 0 ≤ i) : cutL xs none (some i) = xs.take i.toNat := by
  unfold cutL
  rw [sIx_n h]
  show (xs.drop 0).take (min i.toNat xs.length - 0) = _
  rw [List.drop_zero, Nat.sub_zero, List.take_eq_take_iff]
  omega
theorem cut_from {α : Type} {xs : List α} {i : Int} (h : 0 ≤ i) : cutL xs (some i) none = xs.drop i.toNat := by
  unfold cutL
  rw [sIx_n h]
  show (xs.drop _).take (xs.length - _) = _
  by_cases hl : i.toNat ≤ xs.length
  · rw [Nat.min_eq_left hl, List.take_of_length_le (by simp)]
  · rw [List.drop_eq_nil_of_le (by omega), List.drop_eq_nil_of_le (by omega), List.take_nil]
theorem enum_get {ts : List T} {i : Nat} {t : T} (h : (enumT ts)[i]? = some t) : ∃ u, ts[i]? = some u ∧ t = .tup [.int (i : Nat), u] := by
  unfold enumT at h
  rw [List.getElem?_mapIdx] at h
  cases e : ts[i]? with
  | none => rw [e] at h; cases h
  | some u => rw [e] at h; cases h; exact ⟨u, rfl, rfl⟩
theorem asg_2 {i j : Nat} {t u : T} {σ : List Sl} : asgT (.tu [.nm i, .nm j]) (.tup [t, u]) σ = some ((σ.set i (.val t)).set j (.val u)) := rfl
theorem asg_n {i : Nat} {t : T} {σ : List Sl} : asgT (.nm i) t σ = some (σ.set i (.val t)) := rfl
theorem list_fz {ts : List T} : listO [.fz ts] = some ts := rfl
theorem turn_n {I : Stt → Prop} {Φ : Fl → Stt → Prop} {st : Stt} : turn I Φ .nxt st = I st := rfl
theorem turn_c {I : Stt → Prop} {Φ : Fl → Stt → Prop} {st : Stt} : turn I Φ .cnt st = I st := rfl
theorem turn_b {I : Stt → Prop} {Φ : Fl → Stt → Prop} {st : Stt} : turn I Φ .brk st = Φ .nxt st := rfl
theorem turn_r {I : Stt → Prop} {Φ : Fl → Stt → Prop} {st : Stt} {v : T} : turn I Φ (.ret v) st = Φ (.ret v) st := rfl
theorem Op_lcI {chk : Stt → Prop} {own : List Nat} {tg : Tg} {test : M Bool} {elt : M T} {ts : List T} {st : Stt} {Φ : List T × Stt → Prop} (I : Nat → List T → Stt → Prop) (h0 : I 0 [] st)
    (hs : ∀ i t done st, ts[i]? = some t → I i done st → chk st ∧ Op (asgT tg t st.σ) (fun σ' => W test { st with σ := σ' } (fun b st1 => if b = true then W elt st1 (fun y st2 => I (i + 1) (done ++ [y]) { st2 with σ := wipeS st2.σ own })
      else I (i + 1) done { st1 with σ := wipeS st1.σ own }))) (he : ∀ done st, I ts.length done st → chk st) (k : ∀ ys st', I ts.length ys st' → Φ (ys, st')) : Op (lcL chk own tg test elt ts st) Φ := by
  obtain ⟨ys, st', e, h⟩ := lcL_inv I ts 0 [] st h0 (fun i t done st e h => by
    rw [Nat.zero_add] at h ⊢
    exact hs i t done st e h) (fun done st h => he done st (by rw [Nat.zero_add] at h; exact h))
  rw [Nat.zero_add, List.nil_append] at h
  exact .of e (k ys st' h)
theorem Op_lcP {chk : Stt → Prop} {own : List Nat} {tg : Tg} {test : M Bool} {elt : M T} {ts : List T} {st : Stt} {Φ : List T × Stt → Prop} (p : T → Bool) (f : T → T) (hc : chk st)
    (h : ∀ t ∈ ts, Op (asgT tg t st.σ) (fun σ' => wipeS σ' own = st.σ ∧ W test { st with σ := σ' } (fun b st1 => b = p t ∧ st1 = { st with σ := σ' }) ∧ (p t = true → W elt { st with σ := σ' } (fun y st1 => y = f t ∧ st1 = { st with σ := σ' })))) (k : Φ ((ts.filter p).map f, st)) : Op (lcL chk own tg test elt ts st) Φ :=
  .of (lcL_pure p f hc ts h) k
theorem range_get {n i : Nat} {t : T} (h : ((List.range n).map fun k : Nat => T.int (k : Int))[i]? = some t) : i < n ∧ t = .int (i : Nat) := by
  rw [List.getElem?_map] at h
  obtain ⟨k, hk, rfl⟩ := Option.map_eq_some_iff.mp h
  obtain ⟨hl, hk⟩ := List.getElem?_eq_some_iff.mp hk
  rw [List.getElem_range] at hk
  subst hk
  exact ⟨by simpa using hl, rfl⟩
theorem wipe_1 {σ : List Sl} {v : Nat} : wipeS σ [v] = σ.set v .emp := rfl
theorem wipe_2 {σ : List Sl} {v w : Nat} : wipeS σ [v, w] = (σ.set w .emp).set v .emp := rfl
theorem rest_1 {σ0 σ : List Sl} {v : Nat} : restS σ0 σ [v] = σ.set v (σ0[v]?.getD .emp) := rfl
theorem rest_2 {σ0 σ : List Sl} {v w : Nat} : restS σ0 σ [v, w] = (σ.set w (σ0[w]?.getD .emp)).set v (σ0[v]?.getD .emp) := rfl
theorem insert_i {us : List T} {i : Int} {t : T} (h : 0 ≤ i) (h2 : i ≤ 1000000) (h3 : us.length ≤ 1000000) : insertF us [.int i, t] = some (us.take i.toNat ++ [t] ++ us.drop i.toNat, .non) := by
  unfold insertF
  simp only [h, h2, h3, and_self, if_true]
theorem add_s {x y : List Nat} (h : x.length + y.length ≤ 1000000) : addU (.str x) (.str y) = some (.str (x ++ y)) := by
  unfold addU
  simp only [h, if_true]
theorem append_i {us : List T} {t : T} (h : us.length ≤ 1000000) : appendF us [t] = some (us ++ [t], .non) := by
  unfold appendF
  simp only [h, if_true]
theorem strsO_map : ∀ {zs : List (List Nat)}, strsOf (zs.map .str) = some zs
  | [] => rfl
  | z :: zs => by
    show (strsOf (zs.map .str)).map (z :: ·) = _
    rw [strsO_map]
    rfl
theorem joinL_nil : ∀ {zs : List (List Nat)}, TL.joinL [] zs = zs.flatten
  | [] => rfl
  | [p] => by simp [TL.joinL]
  | p :: q :: r => by
    show p ++ ([] ++ TL.joinL [] (q :: r)) = _
    rw [joinL_nil]
    rfl
theorem W_seq_r {a b : Cmd} {st : Stt} {Φ : Fl → Stt → Prop} (P : Stt → Prop) (h : W a st (fun f st1 => match f with | .nxt => P st1 | f => Φ f st1)) (k : ∀ st1, P st1 → W b st1 Φ) : W (cSeq a b) st Φ := by
  rw [W_cSeq]
  refine h.mono fun f st1 q => ?_
  cases f with
  | nxt => exact k st1 q
  | _ => exact q
theorem add_i {i j : Int} : addU (.int i) (.int j) = some (.int (i + j)) := rfl
theorem sub_i {i j : Int} : subO (.int i) (.int j) = some (.int (i - j)) := rfl
theorem mul_r {i j : Int} (h1 : -(2 ^ 64) < j) (h2 : j < 2 ^ 64) : mulU (.int i) (.int j) = some (.int (i * j)) := by
  have : mulC i j = true := by unfold mulC; simp only [Bool.or_eq_true, decide_eq_true_eq]; exact .inr ⟨h1, h2⟩
  simp [mulU, mulO, iiO, this]
theorem mul_l {i j : Int} (h1 : -(2 ^ 64) < i) (h2 : i < 2 ^ 64) : mulU (.int i) (.int j) = some (.int (i * j)) := by
  have : mulC i j = true := by unfold mulC; simp only [Bool.or_eq_true, decide_eq_true_eq]; exact .inl ⟨h1, h2⟩
  simp [mulU, mulO, iiO, this]
theorem mod_i {i j : Int} (h : 0 < j) : modO (.int i) (.int j) = some (.int (i % j)) := by
  simp [modO, iiO, modC, h]
theorem div_i {i j : Int} (h : 0 < j) (h2 : j ≤ 100000) : divO (.int i) (.int j) = some (.int (i / j)) := by
  have h3 : j.natAbs < 2 ^ 17 := by omega
  have : j.natAbs.log2 < 9000 := (Nat.log2_lt (by omega)).mpr (Nat.lt_of_lt_of_le h3 (Nat.pow_le_pow_right (by decide) (by decide)))
  simp [divO, iiO, divC, h, this]
theorem lt_i {i j : Int} : ltO (.int i) (.int j) = some (.bl (decide (i < j))) := rfl
theorem le_i {i j : Int} : leO (.int i) (.int j) = some (.bl (decide (i ≤ j))) := rfl
theorem gt_i {i j : Int} : gtO (.int i) (.int j) = some (.bl (decide (j < i))) := rfl
theorem ge_i {i j : Int} : geO (.int i) (.int j) = some (.bl (decide (j ≤ i))) := rfl
theorem eq_i {i j : Int} : eqT (.int i) (.int j) = some (.bl (i == j)) := by
  unfold eqT eqO
  simp only [T.dat, Bool.and_self, if_true, Option.map_some, T.eqv]
theorem ne_i {i j : Int} : neT (.int i) (.int j) = some (.bl (!(i == j))) := by
  unfold neT neO
  simp only [T.dat, Bool.and_self, if_true, Option.map_some, T.eqv]
theorem p1018 : powO (.int 10) (.int 18) = some (.int 1000000000000000000) := rfl
theorem p1017 : powO (.int 10) (.int 17) = some (.int 100000000000000000) := rfl
end Sw
set_option maxHeartbeats 4000000
namespace Lw
open PySem PySem.Spec PyProof.Rows L2 Sw
open Classical
noncomputable def b_head_of : Cmd :=
    (cSeq (cFor (iU (eVar 0)) (.nm 1) (cIf (bNot (asB (eCall anyO (oCons (oE (eFz (fComp (iU (eVar 0)) [2] (.nm 2) bYes (eOp2 inU (oE (eOp2 ixU (oVar 1) (oE (pure (.int 0))))) (oE (eSliceU (oVar 2) (pSome (pure (.int 1))) pNo)))))) oNil)))) (cRet (eOp2 ixU (oVar 1) (oE (pure (.int 0))))) (pure .nxt)))
    (cRet (pure .non)))
noncomputable def m_head_of : FnM := fnM 3 b_head_of
noncomputable def b_ring_of : Cmd :=
    (cSeq (cSet 1 (eOp2 ixU (oE (eFz (fComp (iU (eVar 0)) [2] (.nm 2) (asB (eOp2 neT (oVar 2) (oE (eFz (fLst aNil))))) (eOp2 ixU (oVar 2) (oE (pure (.int 0))))))) (oE (pure (.int 0)))))
    (cSeq (cOwn 3 fDic)
    (cSeq (cOwn 4 (fLst aNil))
    (cSeq (whileL (asB (eOp2 ninU (oVar 1) (oVar 3))) (cSeq (cPut (mVar 3) (eVar 1) (eCall lenO (oCons (oVar 4) oNil)))
    (cSeq (cSet 5 (eOp2 ixU (oE (eFz (fComp (iEnumU (aCons (eVar 0) aNil)) [5, 2] (.tu [(.nm 5), (.nm 2)]) (asB (eOp2 inU (oVar 1) (oE (eSliceU (oVar 2) (pSome (pure (.int 1))) pNo)))) (eVar 5)))) (oE (pure (.int 0)))))
    (cSeq (cExpr (eLst appendF (mVar 4) (aCons (eTup (aCons (eOp2 ixU (oE (eOp2 ixU (oVar 0) (oVar 5))) (oE (pure (.int 0)))) (aCons (eVar 1) (aCons (eVar 5) aNil)))) aNil)))
    (cSet 1 (eOp2 ixU (oE (eOp2 ixU (oVar 0) (oVar 5))) (oE (pure (.int 0)))))))) FUEL)
    (cRet (eFz (fRev (oE (eSliceU (oVar 4) (pSome (eOp2 ixU (oVar 3) (oVar 1))) pNo)))))))))
noncomputable def m_ring_of : FnM := fnM 6 b_ring_of
noncomputable def b_merge : Cmd :=
    (cSeq (cSet 1 (eFz (fComp (iU (eVar 0)) [2] (.nm 2) bYes (eFz (fCall listO (oCons (oVar 2) oNil))))))
    (cSeq (cOwn 3 (fLst aNil))
    (cSeq (whileL (asB (eCall anyO (oCons (oE (eFz (fComp (iU (eVar 1)) [2] (.nm 2) bYes (eOp2 neT (oVar 2) (oE (eFz (fLst aNil))))))) oNil))) (cSeq (cSet 4 (eFn m_head_of (aCons (eFz (fComp (iU (eVar 1)) [2] (.nm 2) (asB (eOp2 neT (oVar 2) (oE (eFz (fLst aNil))))) (eVar 2))) aNil)))
    (cSeq (cIf (asB (eOp2 isNO (oVar 4) (oE (pure .non)))) (cRet (eTup (aCons (pure (.str [114, 105, 110, 103])) (aCons (eFn m_ring_of (aCons (eVar 1) aNil)) aNil)))) (pure .nxt))
    (cSeq (cExpr (eLst appendF (mVar 3) (aCons (eVar 4) aNil)))
    (cSet 1 (eFz (fComp (iU (eVar 1)) [2] (.nm 2) bYes (eSliceU (oVar 2) (pSome (eCall intO (oCons (oE (eOp2 eqT (oE (eSliceU (oVar 2) pNo (pSome (pure (.int 1))))) (oE (eFz (fLst (aCons (eVar 4) aNil)))))) oNil))) pNo))))))) FUEL)
    (cRet (eTup (aCons (pure (.str [108, 105, 110, 101])) (aCons (eFrz 3) aNil)))))))
noncomputable def m_merge : FnM := fnM 5 b_merge
noncomputable def b_is_demand : Cmd :=
    (cSeq (cUnp (.tu [(.nm 2), (.nm 3), (.nm 4)]) (eVar 1))
    (cSeq (cIf (bOr (bNot (asB (eChain leO ltO (oE (pure (.int 0))) (oVar 4) (oE (eCall lenO (oCons (oVar 0) oNil)))))) (bOr (asB (eOp2 ninU (oVar 2) (oE (eOp2 ixU (oVar 0) (oVar 4))))) (asB (eOp2 ninU (oVar 3) (oE (eOp2 ixU (oVar 0) (oVar 4))))))) (cRet (pure (.bl false))) (pure .nxt))
    (cRet (eOp2 ltO (oE (eMeth "list" indexF (oE (eOp2 ixU (oVar 0) (oVar 4))) (aCons (eVar 2) aNil))) (oE (eMeth "list" indexF (oE (eOp2 ixU (oVar 0) (oVar 4))) (aCons (eVar 3) aNil)))))))
noncomputable def m_is_demand : FnM := fnM 5 b_is_demand
noncomputable def b_is_ring : Cmd :=
    (cSeq (cIf (asB (eOp2 eqT (oE (eCall lenO (oCons (oVar 1) oNil))) (oE (pure (.int 0))))) (cRet (pure (.bl false))) (pure .nxt))
    (cSeq (cFor (iEnumU (aCons (eVar 1) aNil)) (.tu [(.nm 2), (.nm 3)]) (cIf (bOr (bNot (asB (eFn m_is_demand (aCons (eVar 0) (aCons (eVar 3) aNil))))) (asB (eOp2 neT (oE (eOp2 ixU (oE (eOp2 ixU (oVar 1) (oE (eOp2 subO (oVar 2) (oE (pure (.int 1))))))) (oE (pure (.int 1))))) (oE (eOp2 ixU (oVar 3) (oE (pure (.int 0)))))))) (cRet (pure (.bl false))) (pure .nxt)))
    (cRet (pure (.bl true)))))
noncomputable def m_is_ring : FnM := fnM 4 b_is_ring
noncomputable def b__law_blend : Cmd :=
    (cSeq (cIf (asB (eOp2 geO (oVar 0) (oE (eOp2 powO (oE (pure (.int 10))) (oE (pure (.int 18))))))) (cRet (eVar 0)) (pure .nxt))
    (cSeq (cSet 2 (eOp2 modO (oE (eOp2 addU (oE (eOp2 addU (oE (eOp2 mulU (oE (eOp2 modO (oVar 0) (oE (pure (.int 998244353))))) (oE (pure (.int 40692))))) (oE (eOp2 mulU (oVar 1) (oE (pure (.int 69621))))))) (oE (pure (.int 1009))))) (oE (pure (.int 2147483399)))))
    (cSeq (cSet 3 (eOp2 modO (oE (eOp2 addU (oE (eOp2 addU (oE (eOp2 mulU (oVar 2) (oVar 2))) (oE (eOp2 mulU (oVar 1) (oE (pure (.int 48271))))))) (oE (eOp2 modO (oVar 0) (oE (pure (.int 131071))))))) (oE (pure (.int 2147483647)))))
    (cSeq (cSet 4 (eOp2 modO (oE (eOp2 addU (oE (eOp2 addU (oE (eOp2 mulU (oVar 3) (oVar 3))) (oE (eOp2 mulU (oVar 2) (oE (pure (.int 17))))))) (oE (pure (.int 3))))) (oE (pure (.int 2147483629)))))
    (cRet (eOp2 addU (oE (eOp2 mulU (oE (eOp2 addU (oE (eOp2 mulU (oVar 2) (oE (pure (.int 2147483647))))) (oVar 3))) (oE (pure (.int 2147483629))))) (oVar 4)))))))
noncomputable def m__law_blend : FnM := fnM 5 b__law_blend
noncomputable def b__law_pot : Cmd :=
    (cSeq (cOwn 1 (fCall listO (oCons (oE (eSliceU (oVar 0) pNo (pSome (pure (.int 12))))) oNil)))
    (cSeq (cFor (iEnumU (aCons (eSliceU (oVar 0) (pSome (pure (.int 12))) (pSome (pure (.int 63)))) aNil)) (.tu [(.nm 2), (.nm 3)]) (cSetIx (mVar 1) (eOp2 modO (oVar 2) (oE (pure (.int 12)))) (eOp2 addU (oE (eOp2 ixU (oVar 1) (oE (eOp2 modO (oVar 2) (oE (pure (.int 12))))))) (oVar 3))))
    (cRet (eBox (fLst (aCons (eFrz 1) (aCons (pure (.int 0)) (aCons (pure (.int 0)) aNil))))))))
noncomputable def m__law_pot : FnM := fnM 4 b__law_pot
noncomputable def b__law_pick : Cmd :=
    (cSeq (cIf (asB (eOp2 ltO (oE (eOp2 ixU (oVar 0) (oE (pure (.int 2))))) (oVar 1))) (cSeq (cSet 2 (eOp2 ixU (oVar 0) (oE (pure (.int 1)))))
    (cSeq (cSet 3 (eOp2 mulU (oE (pure (.int 11))) (oVar 2)))
    (cSeq (cIf (asB (eOp2 ltO (oVar 2) (oE (eCall lenO (oCons (oE (eOp2 ixU (oVar 0) (oE (pure (.int 0))))) oNil))))) (cSet 3 (eOp2 ixU (oE (eOp2 ixU (oVar 0) (oE (pure (.int 0))))) (oVar 2))) (cIf (asB (eOp2 neT (oE (eOp2 ixU (oVar 0) (oE (pure (.int 0))))) (oE (eFz (fLst aNil))))) (cSet 3 (eOp2 modO (oE (eOp2 ixU (oE (eOp2 ixU (oVar 0) (oE (pure (.int 0))))) (oE (eOp2 modO (oE (eOp2 addU (oE (eOp2 mulU (oVar 2) (oE (pure (.int 7))))) (oE (pure (.int 1))))) (oE (eCall lenO (oCons (oE (eOp2 ixU (oVar 0) (oE (pure (.int 0))))) oNil))))))) (oE (eOp2 addU (oE (eOp2 powO (oE (pure (.int 10))) (oE (pure (.int 17))))) (oE (eOp2 mulU (oE (pure (.int 3))) (oVar 2))))))) (pure .nxt)))
    (cSeq (cSetIx (mVar 0) (pure (.int 1)) (eOp2 addU (oVar 2) (oE (pure (.int 1)))))
    (cSetIx (mVar 0) (pure (.int 2)) (eFn m__law_blend (aCons (eVar 3) (aCons (eVar 2) aNil)))))))) (pure .nxt))
    (cSeq (cSet 4 (eOp2 modO (oE (eOp2 ixU (oVar 0) (oE (pure (.int 2))))) (oVar 1)))
    (cSeq (cSetIx (mVar 0) (pure (.int 2)) (eOp2 divO (oE (eOp2 ixU (oVar 0) (oE (pure (.int 2))))) (oVar 1)))
    (cRet (eVar 4)))))
noncomputable def m__law_pick : FnM := fnM 5 b__law_pick
noncomputable def b__law_order : Cmd :=
    (cSeq (cOwn 2 (fLst aNil))
    (cSeq (cFor (iRange (aCons (eVar 1) aNil)) (.nm 3) (cExpr (eLst insertF (mVar 2) (aCons (eFn m__law_pick (aCons (eVar 0) (aCons (eOp2 addU (oVar 3) (oE (pure (.int 1)))) aNil))) (aCons (eVar 3) aNil)))))
    (cRet (eFrz 2))))
noncomputable def m__law_order : FnM := fnM 4 b__law_order
noncomputable def b__law_letters : Cmd :=
    (cSeq (cSet 2 (pure (.str [97, 98, 99, 100, 101, 102, 103, 104, 105, 106, 107, 108, 109, 110, 111, 112, 113, 114, 115, 116, 117, 118, 119, 120, 121, 122])))
    (cSeq (cSet 3 (eMeth "str" joinF (oE (pure (.str []))) (aCons (eFz (fComp (iRange (aCons (pure (.int 7)) aNil)) [4] (.nm 4) bYes (eOp2 ixU (oVar 2) (oE (eFn m__law_pick (aCons (eVar 0) (aCons (pure (.int 26)) aNil))))))) aNil)))
    (cSeq (cSet 5 (eFn m__law_pick (aCons (eVar 0) (aCons (pure (.int 3)) aNil))))
    (cSeq (cSet 6 (eFn m__law_pick (aCons (eVar 0) (aCons (pure (.int 26)) aNil))))
    (cSeq (cSet 7 (eFn m__law_pick (aCons (eVar 0) (aCons (pure (.int 8)) aNil))))
    (cSeq (cOwn 8 (fLst aNil))
    (cSeq (cFor (iRange (aCons (eVar 1) aNil)) (.nm 4) (cSeq (cSet 9 (eSliceU (oVar 3) pNo (pSome (eOp2 modO (oE (eOp2 addU (oVar 7) (oE (eOp2 mulU (oVar 4) (oE (eOp2 modO (oVar 5) (oE (pure (.int 2))))))))) (oE (pure (.int 8)))))))
    (cSeq (cSet 10 (eOp2 ixU (oE (eFz (fLst (aCons (pure (.int 0)) (aCons (eCall lenO (oCons (oVar 9) oNil)) (aCons (eOp2 divO (oE (eCall lenO (oCons (oVar 9) oNil))) (oE (pure (.int 2)))) aNil)))))) (oVar 5)))
    (cExpr (eLst appendF (mVar 8) (aCons (eOp2 addU (oE (eOp2 addU (oE (eSliceU (oVar 9) pNo (pSome (eVar 10)))) (oE (eOp2 ixU (oVar 2) (oE (eOp2 modO (oE (eOp2 addU (oVar 6) (oE (eOp2 mulU (oE (pure (.int 5))) (oVar 4))))) (oE (pure (.int 26))))))))) (oE (eSliceU (oVar 9) (pSome (eVar 10)) pNo))) aNil))))))
    (cRet (eFrz 8)))))))))
noncomputable def m__law_letters : FnM := fnM 11 b__law_letters
noncomputable def b__law_names : Cmd :=
    (cSeq (cSet 2 (eFn m__law_pick (aCons (eVar 0) (aCons (pure (.int 4)) aNil))))
    (cSeq (cSet 3 (eFn m__law_pick (aCons (eVar 0) (aCons (pure (.int 26)) aNil))))
    (cSeq (cSet 4 (pure (.str [97, 98, 99, 100, 101, 102, 103, 104, 105, 106, 107, 108, 109, 110, 111, 112, 113, 114, 115, 116, 117, 118, 119, 120, 121, 122])))
    (cSeq (cIf (asB (eOp2 eqT (oVar 2) (oE (pure (.int 3))))) (cSet 5 (eFz (fComp (iRange (aCons (eVar 1) aNil)) [6] (.nm 6) bYes (eOp2 mulU (oE (eOp2 ixU (oVar 4) (oE (eOp2 modO (oE (eOp2 addU (oVar 3) (oE (eOp2 divO (oVar 6) (oE (pure (.int 8))))))) (oE (pure (.int 26))))))) (oE (eOp2 addU (oE (pure (.int 1))) (oE (eOp2 modO (oVar 6) (oE (pure (.int 8))))))))))) (cSet 5 (eFn m__law_letters (aCons (eVar 0) (aCons (eVar 1) aNil)))))
    (cRet (eFz (fComp (iU (eFn m__law_order (aCons (eVar 0) (aCons (eVar 1) aNil)))) [6] (.nm 6) bYes (eOp2 ixU (oVar 5) (oVar 6)))))))))
noncomputable def m__law_names : FnM := fnM 7 b__law_names
noncomputable def b__law_rows : Cmd :=
    (cSeq (cSet 1 (eFn m__law_pick (aCons (eVar 0) (aCons (pure (.int 4)) aNil))))
    (cSeq (cSet 2 (eOp2 addU (oE (pure (.int 1))) (oE (eFn m__law_pick (aCons (eVar 0) (aCons (eOp2 ixU (oE (eFz (fLst (aCons (pure (.int 3)) (aCons (pure (.int 5)) (aCons (pure (.int 8)) (aCons (pure (.int 16)) aNil))))))) (oE (eFn m__law_pick (aCons (eVar 0) (aCons (pure (.int 4)) aNil))))) aNil))))))
    (cSeq (cSet 3 (eFn m__law_names (aCons (eVar 0) (aCons (eVar 2) aNil))))
    (cSeq (cOwn 4 (fLst aNil))
    (cSeq (cFor (iRange (aCons (eFn m__law_pick (aCons (eVar 0) (aCons (eOp2 ixU (oE (eFz (fLst (aCons (pure (.int 3)) (aCons (pure (.int 5)) (aCons (pure (.int 8)) (aCons (pure (.int 17)) aNil))))))) (oE (eFn m__law_pick (aCons (eVar 0) (aCons (pure (.int 4)) aNil))))) aNil))) aNil)) (.nm 5) (cSeq (cSet 6 (eOp2 addU (oE (pure (.int 1))) (oE (eFn m__law_pick (aCons (eVar 0) (aCons (pure (.int 4)) aNil))))))
    (cSeq (cOwn 7 (fComp (iU (eVar 3)) [8] (.nm 8) (asB (eOp2 ltO (oE (eFn m__law_pick (aCons (eVar 0) (aCons (pure (.int 4)) aNil)))) (oVar 6))) (eVar 8)))
    (cSeq (cIf (bAnd (asB (eOp2 gtO (oVar 1) (oE (pure (.int 1))))) (bAnd (asB (eOp2 neT (oVar 7) (oE (eFz (fLst aNil))))) (asB (eOp2 ltO (oE (eFn m__law_pick (aCons (eVar 0) (aCons (pure (.int 4)) aNil)))) (oE (eOp2 subO (oVar 1) (oE (pure (.int 1))))))))) (cSeq (cSet 9 (eFn m__law_pick (aCons (eVar 0) (aCons (eCall lenO (oCons (oVar 7) oNil)) aNil))))
    (cExpr (eLst insertF (mVar 7) (aCons (eFn m__law_pick (aCons (eVar 0) (aCons (eCall lenO (oCons (oVar 7) oNil)) aNil))) (aCons (eLst popF (mVar 7) (aCons (eVar 9) aNil)) aNil))))) (pure .nxt))
    (cSeq (cIf (bAnd (asB (eOp2 eqT (oVar 1) (oE (pure (.int 3))))) (asB (eOp2 eqT (oE (eFn m__law_pick (aCons (eVar 0) (aCons (pure (.int 4)) aNil)))) (oE (pure (.int 0)))))) (cOwn 7 (fComp (iU (eFn m__law_order (aCons (eVar 0) (aCons (eCall lenO (oCons (oVar 7) oNil)) aNil)))) [9] (.nm 9) bYes (eOp2 ixU (oVar 7) (oVar 9)))) (pure .nxt))
    (cExpr (eLst appendF (mVar 4) (aCons (eFrz 7) aNil))))))))
    (cRet (eFrz 4)))))))
noncomputable def m__law_rows : FnM := fnM 10 b__law_rows
noncomputable def b__law_all_orders : Cmd :=
    (cSeq (cSet 1 (eFz (fLst (aCons (eFz (fLst aNil)) aNil))))
    (cSeq (cFor (iU (eVar 0)) (.nm 2) (cSeq (cOwn 3 (fLst aNil))
    (cSeq (cFor (iU (eVar 1)) (.nm 4) (cExpr (eLst extendF (mVar 3) (aCons (eFz (fComp (iRange (aCons (eOp2 addU (oE (eCall lenO (oCons (oVar 4) oNil))) (oE (pure (.int 1)))) aNil)) [5] (.nm 5) bYes (eOp2 addU (oE (eOp2 addU (oE (eSliceU (oVar 4) pNo (pSome (eVar 5)))) (oE (eFz (fLst (aCons (eVar 2) aNil)))))) (oE (eSliceU (oVar 4) (pSome (eVar 5)) pNo))))) aNil))))
    (cSet 1 (eFrz 3)))))
    (cRet (eVar 1))))
noncomputable def m__law_all_orders : FnM := fnM 6 b__law_all_orders
noncomputable def b__law_keeps : Cmd :=
    (cSeq (cFor (iU (eVar 1)) (.nm 2) (cIf (asB (eOp2 neT (oE (eFz (fComp (iU (eVar 0)) [3] (.nm 3) (asB (eOp2 inU (oVar 3) (oVar 2))) (eVar 3)))) (oVar 2))) (cRet (pure (.bl false))) (pure .nxt)))
    (cRet (pure (.bl true))))
noncomputable def m__law_keeps : FnM := fnM 4 b__law_keeps
noncomputable def b__law_no_ring : Cmd :=
    (cSeq (cOwn 1 (fLst aNil))
    (cSeq (cFor (iEnumU (aCons (eVar 0) aNil)) (.tu [(.nm 2), (.nm 3)]) (cExpr (eLst extendF (mVar 1) (aCons (eFz (fComp (iRange (aCons (eOp2 subO (oE (eCall lenO (oCons (oVar 3) oNil))) (oE (pure (.int 1)))) aNil)) [4] (.nm 4) bYes (eTup (aCons (eOp2 ixU (oVar 3) (oVar 4)) (aCons (eOp2 ixU (oVar 3) (oE (eOp2 addU (oVar 4) (oE (pure (.int 1)))))) (aCons (eVar 2) aNil)))))) aNil))))
    (cSeq (cFor (iU (eFr 1)) (.nm 5) (cSeq (cIf (asB (eFn m_is_ring (aCons (eVar 0) (aCons (eFz (fLst (aCons (eVar 5) aNil))) aNil)))) (cRet (pure (.bl false))) (pure .nxt))
    (cFor (iU (eFr 1)) (.nm 6) (cSeq (cIf (asB (eFn m_is_ring (aCons (eVar 0) (aCons (eFz (fLst (aCons (eVar 5) (aCons (eVar 6) aNil)))) aNil)))) (cRet (pure (.bl false))) (pure .nxt))
    (cFor (iU (eSliceU (oVar 1) pNo (pSome (pure (.int 6))))) (.nm 7) (cIf (asB (eFn m_is_ring (aCons (eVar 0) (aCons (eFz (fLst (aCons (eVar 5) (aCons (eVar 6) (aCons (eVar 7) aNil))))) aNil)))) (cRet (pure (.bl false))) (pure .nxt)))))))
    (cRet (pure (.bl true))))))
noncomputable def m__law_no_ring : FnM := fnM 8 b__law_no_ring
noncomputable def b__law_right : Cmd :=
    (cSeq (cSet 1 (eFz (fLst aNil)))
    (cSeq (cFor (iU (eVar 0)) (.nm 2) (cSet 1 (eOp2 addU (oVar 1) (oE (eFz (fComp (iU (eVar 2)) [3] (.nm 3) (asB (eOp2 ninU (oVar 3) (oVar 1))) (eVar 3)))))))
    (cSeq (cSet 4 (eFn m_merge (aCons (eVar 0) aNil)))
    (cSeq (cIf (asB (eOp2 eqT (oE (eOp2 ixU (oVar 4) (oE (pure (.int 0))))) (oE (pure (.str [114, 105, 110, 103]))))) (cSet 5 (eOp2 isBO (oE (eFn m_is_ring (aCons (eVar 0) (aCons (eOp2 ixU (oVar 4) (oE (pure (.int 1)))) aNil)))) (oE (pure (.bl true))))) (cSet 5 (eAnd (eOp2 eqT (oE (eFz (fCall sortO (oCons (oE (eOp2 ixU (oVar 4) (oE (pure (.int 1))))) oNil)))) (oE (eFz (fCall sortO (oCons (oVar 1) oNil))))) (eAnd (eFn m__law_keeps (aCons (eOp2 ixU (oVar 4) (oE (pure (.int 1)))) (aCons (eVar 0) aNil))) (eFn m__law_no_ring (aCons (eSliceU (oVar 0) pNo (pSome (pure (.int 4)))) aNil))))))
    (cSeq (cIf (asB (eOp2 ltO (oE (eCall lenO (oCons (oVar 1) oNil))) (oE (pure (.int 6))))) (cSeq (cSet 6 (eFz (fComp (iU (eFn m__law_all_orders (aCons (eVar 1) aNil))) [7] (.nm 7) (asB (eFn m__law_keeps (aCons (eVar 7) (aCons (eVar 0) aNil)))) (eVar 7))))
    (cSet 5 (eAnd (eVar 5) (eOp2 eqT (oE (eOp2 neT (oVar 6) (oE (eFz (fLst aNil))))) (oE (eOp2 eqT (oE (eOp2 ixU (oVar 4) (oE (pure (.int 0))))) (oE (pure (.str [108, 105, 110, 101]))))))))) (pure .nxt))
    (cRet (eVar 5)))))))
noncomputable def m__law_right : FnM := fnM 8 b__law_right
noncomputable def b__law_turned_right : Cmd :=
    (cSeq (cSet 2 (eFz (fComp (iU (eVar 1)) [3] (.nm 3) (asB (eOp2 gtO (oE (eCall lenO (oCons (oVar 3) oNil))) (oE (pure (.int 1))))) (eVar 3))))
    (cSeq (cIf (asB (eOp2 eqT (oVar 2) (oE (eFz (fLst aNil))))) (cRet (pure (.bl true))) (pure .nxt))
    (cSeq (cSet 3 (eOp2 ixU (oVar 2) (oE (eFn m__law_pick (aCons (eVar 0) (aCons (eCall lenO (oCons (oVar 2) oNil)) aNil))))))
    (cSeq (cSet 4 (eFn m__law_pick (aCons (eVar 0) (aCons (eOp2 subO (oE (eCall lenO (oCons (oVar 3) oNil))) (oE (pure (.int 1)))) aNil))))
    (cSeq (cSet 5 (eOp2 addU (oE (eOp2 addU (oVar 4) (oE (pure (.int 1))))) (oE (eFn m__law_pick (aCons (eVar 0) (aCons (eOp2 subO (oE (eOp2 subO (oE (eCall lenO (oCons (oVar 3) oNil))) (oE (pure (.int 1))))) (oVar 4)) aNil))))))
    (cSeq (cSet 6 (eOp2 addU (oE (eSliceU (oVar 1) pNo (pSome (pure (.int 15))))) (oE (eFz (fLst (aCons (eFz (fLst (aCons (eOp2 ixU (oVar 3) (oVar 5)) (aCons (eOp2 ixU (oVar 3) (oVar 4)) aNil)))) aNil))))))
    (cSeq (cIf (asB (eOp2 ninU (oVar 3) (oE (eSliceU (oVar 1) pNo (pSome (pure (.int 15))))))) (cRet (pure (.bl true))) (pure .nxt))
    (cSeq (cSet 7 (eFn m_merge (aCons (eVar 6) aNil)))
    (cRet (eAnd (eOp2 eqT (oE (eOp2 ixU (oVar 7) (oE (pure (.int 0))))) (oE (pure (.str [114, 105, 110, 103])))) (eOp2 isBO (oE (eFn m_is_ring (aCons (eVar 6) (aCons (eOp2 ixU (oVar 7) (oE (pure (.int 1)))) aNil)))) (oE (pure (.bl true))))))))))))))
noncomputable def m__law_turned_right : FnM := fnM 8 b__law_turned_right
noncomputable def b_law : Cmd :=
    (cSeq (cSet 1 (eFn m__law_pot (aCons (eVar 0) aNil)))
    (cSeq (cFor (iRange (aCons (pure (.int 3)) aNil)) (.nm 2) (cSeq (cSet 3 (eFn m__law_names (aCons (eVar 1) (aCons (eOp2 addU (oE (pure (.int 1))) (oE (eFn m__law_pick (aCons (eVar 1) (aCons (pure (.int 5)) aNil))))) aNil))))
    (cSeq (cOwn 4 (fLst aNil))
    (cSeq (cFor (iRange (aCons (eFn m__law_pick (aCons (eVar 1) (aCons (pure (.int 7)) aNil))) aNil)) (.nm 5) (cSeq (cSet 6 (eFz (fComp (iU (eFn m__law_order (aCons (eVar 1) (aCons (eCall lenO (oCons (oVar 3) oNil)) aNil)))) [7] (.nm 7) bYes (eOp2 ixU (oVar 3) (oVar 7)))))
    (cSeq (cSet 8 (eOp2 addU (oE (pure (.int 1))) (oE (eFn m__law_pick (aCons (eVar 1) (aCons (pure (.int 4)) aNil))))))
    (cSeq (cSet 6 (eIf (asB (eOp2 eqT (oE (eFn m__law_pick (aCons (eVar 1) (aCons (pure (.int 2)) aNil)))) (oE (pure (.int 0))))) (eFz (fCall sortO (oCons (oVar 6) oNil))) (eVar 6)))
    (cExpr (eLst appendF (mVar 4) (aCons (eFz (fComp (iU (eVar 6)) [9] (.nm 9) (asB (eOp2 ltO (oE (eFn m__law_pick (aCons (eVar 1) (aCons (pure (.int 4)) aNil)))) (oVar 8))) (eVar 9))) aNil)))))))
    (cFor (iU (eFz (fLst (aCons (eFrz 4) (aCons (eFn m__law_rows (aCons (eVar 1) aNil)) aNil))))) (.nm 10) (cIf (bOr (bNot (asB (eFn m__law_right (aCons (eVar 10) aNil)))) (bNot (asB (eFn m__law_turned_right (aCons (eVar 1) (aCons (eVar 10) aNil)))))) (cRet (pure (.bl false))) (pure .nxt)))))))
    (cRet (pure (.bl true)))))
noncomputable def m_law : FnM := fnM 11 b_law
end Lw
set_option maxHeartbeats 4000000
namespace Lw
open PySem PySem.Spec PyProof.Rows L2 Sw
open Classical
noncomputable def qb_head_of (x_rows : T) : Q (F Unit Unit) :=
    (qSeq (qB (qIt x_rows) fun l29 => qFor (fun x3 _ => (qB (qB (qB (qB (qB (qB (qIt x_rows) (qComp fun x4 => (qB (qB (qOp2 ixU x3 (.int 0)) fun t11 => (qB (qSl slU x4 (some 1) none) fun t16 => (qOp2 inU t11 t16))) fun y17 => qP (some y17)))) fun l18 => qP (.fz l18)) fun t21 => (qCall anyO [t21])) qTr) fun b22 => qP (!b22)) fun b23 => if b23 then (qB (qOp2 ixU x3 (.int 0)) fun t28 => qP (.ret t28)) else (qP (.nxt ())))) l29 ()) fun _ => (qP (.ret .non)))
noncomputable def q_head_of (x_rows : T) : Q T := qFn (qb_head_of x_rows)
theorem sb_head_of (x_rows : T) : SC (fun _ => True) (b_head_of) [.val x_rows, .emp, .emp] (qb_head_of x_rows) (fun (_ : Unit) _ => True) (fun (_ : Unit) _ => False) := by
  unfold b_head_of qb_head_of
  exact (c_seq (c_for (K := yes) (L := fun (a : Unit) s => ∃ (j1 : Option T), s = [.val x_rows, jS j1, .emp]) (iUV (v_var (i := 0))) ⟨none, rfl⟩ (fun _ _ _ _ => trivial) (fun | x3, _, _, ⟨j1, rfl⟩ => (sa_nm (sa_nil (c_if (tNot (tB (sCall (rC (oG (sFz (g_comp (K := yes) (iUV (v_var (i := 0))) (fun _ => trivial) (by simp only [List.all_cons, List.all_nil, List.getElem?_cons_zero, List.getElem?_cons_succ, List.set_cons_zero, List.set_cons_succ, nO_v, nO_e, nO_j, Bool.and_self]) rfl fun x4 => (sa_nm (sa_nil (g_all (sOp2 (oG (sOp2 (oV (i := 1) fun r5 h6 => (oC v_con fun r7 h8 => (rd2 h6 h8)))) fun t11 r9 h10 => (oG (sSlU (oV (i := 2) fun r12 h13 => (pV v_con (pN (slEnd h13))))) fun t16 r14 h15 => (rd2 h10 h15)))) rfl))))) fun t21 r19 h20 => (rN (rEnd (rdc h20 rdn)))))))) (c_any (c_ret (sOp2 (oV (i := 1) fun r24 h25 => (oC v_con fun r26 h27 => (rd2 h25 h27)))))) (c_nxt ⟨(some x3), rfl⟩)))))) (fun | _, _, ⟨j1, rfl⟩ => (c_retV v_con)))
theorem qs_head_of {x_rows : T} {S S' : List Ob} {r : R T} (h : q_head_of x_rows S = some (r, S')) : m_head_of [x_rows] S = some (r, S') := fn_sim (n := 3) (ts := [x_rows]) (sb_head_of x_rows) h
noncomputable def qb_ring_of (x_rows : T) : Q (F Unit Unit) :=
    (qB (qB (qB (qB (qIt x_rows) (qComp fun x1 => (qB (qB (qOp2 neT x1 (.fz [])) qTr) fun b10 => if b10 then qB (qOp2 ixU x1 (.int 0)) (fun y11 => qP (some y11)) else qP none))) fun l12 => qP (.fz l12)) fun t15 => (qOp2 ixU t15 (.int 0))) fun name_18 => (qB (qP []) fun demands_19 => (qSeq (qWhile (fun a20 => (qB (qOp2 ninU a20.1 (.dic a20.2.1.1 a20.2.1.2)) qTr)) (fun a20 => (qB (qCall lenO [(.fz a20.2.2)]) fun t28 => qB (qP a20.1) fun t29 => qB (qPut a20.2.1 t29 t28) fun met_30 => (qB (qB (qB (qB (qEnum x_rows) (qComp fun x31 => (un2 x31 fun x32 x33 => (qB (qB (qB (qSl slU x33 (some 1) none) fun t40 => (qOp2 inU a20.1 t40)) qTr) fun b41 => if b41 then qP (some x32) else qP none)))) fun l42 => qP (.fz l42)) fun t45 => (qOp2 ixU t45 (.int 0))) fun number_48 => (qB (qB (qB (qB (qOp2 ixU x_rows number_48) fun t64 => (qOp2 ixU t64 (.int 0))) fun t67 => (qP (.tup [t67, a20.1, number_48]))) fun t68 => (qO (appendF a20.2.2 [t68]))) fun p69 => (qB (qB (qOp2 ixU x_rows number_48) fun t76 => (qOp2 ixU t76 (.int 0))) fun name_79 => (qP (.nxt (name_79, met_30, p69.1)))))))) FUEL (name_18, (([], []) : List T × List T), demands_19)) fun a21 => (qB (qB (qB (qB (qOp2 ixU (.dic a21.2.1.1 a21.2.1.2) a21.1) fun t87 => qB (qI t87) fun i86 => (qSl slU (.fz a21.2.2) (some i86) none)) fun t90 => (qB (qK t90) fun u => qO (revL u))) fun l91 => qP (.fz l91)) fun t92 => qP (.ret t92)))))
noncomputable def q_ring_of (x_rows : T) : Q T := qFn (qb_ring_of x_rows)
theorem sb_ring_of (x_rows : T) : SC (fun _ => True) (b_ring_of) [.val x_rows, .emp, .emp, .emp, .emp, .emp] (qb_ring_of x_rows) (fun (_ : Unit) _ => True) (fun (_ : Unit) _ => False) := by
  unfold b_ring_of qb_ring_of
  exact (c_let (sOp2 (oG (sFz (g_comp (K := yes) (iUV (v_var (i := 0))) (fun _ => trivial) (by simp only [List.all_cons, List.all_nil, List.getElem?_cons_zero, List.getElem?_cons_succ, List.set_cons_zero, List.set_cons_succ, nO_v, nO_e, nO_j, Bool.and_self]) rfl fun x1 => (sa_nm (sa_nil (g_if (tB (sOp2 (oV (i := 2) fun r2 h3 => (oC (v_lst v_aN) fun r4 h5 => (rd2 h3 h5))))) (sOp2 (oV (i := 2) fun r6 h7 => (oC v_con fun r8 h9 => (rd2 h7 h9)))) rfl rfl))))) fun t15 r13 h14 => (oC v_con fun r16 h17 => (rd2 h14 h17)))) fun name_18 => (c_ownD (c_own (sLst (aN lEnd)) fun demands_19 => (c_seq (c_wh (L := fun (a : T × (List T × List T) × List T) s => ∃ (j5 : Option T), s = [.val x_rows, .val a.1, .emp, .own (.dct a.2.1.1 a.2.1.2), .own (.lst a.2.2), jS j5]) ⟨none, rfl⟩ (fun | a20, _, ⟨j5, rfl⟩ => (tB (sOp2 (oV (i := 1) fun r22 h23 => (oD (i := 3) fun r24 h25 => (rd2 h23 h25)))))) (fun | a20, _, ⟨j5, rfl⟩ => (c_putO (i := 3) (d := a20.2.1) (sCall (rC (oW (i := 4) fun r26 h27 => (rN (rEnd (rdc h27 rdn)))))) (eV (v_var (i := 1))) fun met_30 => (c_let (sOp2 (oG (sFz (g_comp (K := yes) (sEnum (aV (v_var (i := 0)) (aN (enEnd (t := x_rows))))) (fun _ => trivial) (by simp only [List.all_cons, List.all_nil, List.getElem?_cons_zero, List.getElem?_cons_succ, List.set_cons_zero, List.set_cons_succ, nO_v, nO_e, nO_j, Bool.and_self]) rfl fun x31 => (sa_2 fun x32 x33 => (sa_nm (sa_nm (sa_nil (g_ifV (tB (sOp2 (oV (i := 1) fun r34 h35 => (oG (sSlU (oV (i := 2) fun r36 h37 => (pV v_con (pN (slEnd h37))))) fun t40 r38 h39 => (rd2 h35 h39))))) (v_var (i := 5)) rfl))))))) fun t45 r43 h44 => (oC v_con fun r46 h47 => (rd2 h44 h47)))) fun number_48 => (c_ex (sLstO (aE (sTup (aE (sOp2 (oG (sOp2 (oV (i := 0) fun r58 h59 => (oV (i := 5) fun r60 h61 => (rd2 h59 h61)))) fun t64 r62 h63 => (oC v_con fun r65 h66 => (rd2 h63 h66)))) fun t67 => (aV (v_var (i := 1)) (aV (v_var (i := 5)) (aN tEndV))))) fun t68 => (aN lstEnd))) fun p69 => (c_end (c_let (sOp2 (oG (sOp2 (oV (i := 0) fun r70 h71 => (oV (i := 5) fun r72 h73 => (rd2 h71 h73)))) fun t76 r74 h75 => (oC v_con fun r77 h78 => (rd2 h75 h78)))) fun name_79 => (c_nxt ⟨(some number_48), rfl⟩)))))))) (fun | a21, _, ⟨j5, rfl⟩ => (c_ret (sFz (sRev (oG (sSlU (oW (i := 4) fun r80 h81 => (pE (sOp2 (oD (i := 3) fun r82 h83 => (oV (i := 1) fun r84 h85 => (rd2 h83 h85)))) fun i86 => (pN (slEnd h81))))) fun t90 r88 h89 => (rvEnd h89))))))))))
theorem qs_ring_of {x_rows : T} {S S' : List Ob} {r : R T} (h : q_ring_of x_rows S = some (r, S')) : m_ring_of [x_rows] S = some (r, S') := fn_sim (n := 6) (ts := [x_rows]) (sb_ring_of x_rows) h
noncomputable def qb_merge (x_rows : T) : Q (F Unit Unit) :=
    (qB (qB (qB (qIt x_rows) (qComp fun x1 => (qB (qB (qCall listO [x1]) fun l4 => qP (.fz l4)) fun y5 => qP (some y5)))) fun l6 => qP (.fz l6)) fun left_7 => (qB (qP []) fun line_8 => (qSeq (qWhile (fun a9 => (qB (qB (qB (qB (qIt a9.1) (qComp fun x11 => (qB (qOp2 neT x11 (.fz [])) fun y16 => qP (some y16)))) fun l17 => qP (.fz l17)) fun t20 => (qCall anyO [t20])) qTr)) (fun a9 => (qB (qB (qB (qB (qIt a9.1) (qComp fun x21 => (qB (qB (qOp2 neT x21 (.fz [])) qTr) fun b26 => if b26 then qP (some x21) else qP none))) fun l27 => qP (.fz l27)) fun t28 => (m_head_of [t28])) fun name_29 => (qB (qB (qOp2 isNO name_29 .non) qTr) fun b34 => if b34 then (qB (qB (m_ring_of [a9.1]) fun t35 => (qP (.tup [(.str [114, 105, 110, 103]), t35]))) fun t36 => qP (.ret t36)) else (qB (qO (appendF a9.2 [name_29])) fun p37 => (qB (qB (qB (qIt a9.1) (qComp fun x38 => (qB (qB (qB (qB (qSl slU x38 none (some 1)) fun t45 => (qOp2 eqT t45 (.fz [name_29]))) fun t50 => (qCall intO [t50])) fun t52 => qB (qI t52) fun i51 => (qSl slU x38 (some i51) none)) fun y53 => qP (some y53)))) fun l54 => qP (.fz l54)) fun left_55 => (qP (.nxt (left_55, p37.1)))))))) FUEL (left_7, line_8)) fun a10 => (qB (qP (.tup [(.str [108, 105, 110, 101]), (.fz a10.2)])) fun t56 => qP (.ret t56)))))
noncomputable def q_merge (x_rows : T) : Q T := qFn (qb_merge x_rows)
theorem sb_merge (x_rows : T) : SC (fun _ => True) (b_merge) [.val x_rows, .emp, .emp, .emp, .emp] (qb_merge x_rows) (fun (_ : Unit) _ => True) (fun (_ : Unit) _ => False) := by
  unfold b_merge qb_merge
  exact (c_let (sFz (g_comp (K := yes) (iUV (v_var (i := 0))) (fun _ => trivial) (by simp only [List.all_cons, List.all_nil, List.getElem?_cons_zero, List.getElem?_cons_succ, List.set_cons_zero, List.set_cons_succ, nO_v, nO_e, nO_j, Bool.and_self]) rfl fun x1 => (sa_nm (sa_nil (g_all (sFz (sCallL (rC (oV (i := 2) fun r2 h3 => (rN (rEndL (rdc h3 rdn))))))) rfl))))) fun left_7 => (c_own (sLst (aN lEnd)) fun line_8 => (c_seq (c_wh (L := fun (a : T × List T) s => ∃ (j4 : Option T), s = [.val x_rows, .val a.1, .emp, .own (.lst a.2), jS j4]) ⟨none, rfl⟩ (fun | a9, _, ⟨j4, rfl⟩ => (tB (sCall (rC (oG (sFz (g_comp (K := yes) (iUV (v_var (i := 1))) (fun _ => trivial) (by simp only [List.all_cons, List.all_nil, List.getElem?_cons_zero, List.getElem?_cons_succ, List.set_cons_zero, List.set_cons_succ, nO_v, nO_e, nO_j, Bool.and_self]) rfl fun x11 => (sa_nm (sa_nil (g_all (sOp2 (oV (i := 2) fun r12 h13 => (oC (v_lst v_aN) fun r14 h15 => (rd2 h13 h15)))) rfl))))) fun t20 r18 h19 => (rN (rEnd (rdc h19 rdn)))))))) (fun | a9, _, ⟨j4, rfl⟩ => (c_let (sFn (aE (sFz (g_comp (K := yes) (iUV (v_var (i := 1))) (fun _ => trivial) (by simp only [List.all_cons, List.all_nil, List.getElem?_cons_zero, List.getElem?_cons_succ, List.set_cons_zero, List.set_cons_succ, nO_v, nO_e, nO_j, Bool.and_self]) rfl fun x21 => (sa_nm (sa_nil (g_ifV (tB (sOp2 (oV (i := 2) fun r22 h23 => (oC (v_lst v_aN) fun r24 h25 => (rd2 h23 h25))))) (v_var (i := 2)) rfl))))) fun t28 => (aN fEnd))) fun name_29 => (c_ifr (tB (sOp2 (oV (i := 4) fun r30 h31 => (oC v_con fun r32 h33 => (rd2 h31 h33))))) (c_exit (c_ret (sTup (aV v_con (aE (sFn (aV (v_var (i := 1)) (aN fEnd))) fun t35 => (aN tEndV)))))) (c_skip (c_ex (sLstO (aV (v_var (i := 4)) (aN lstEnd))) fun p37 => (c_end (c_let (sFz (g_comp (K := yes) (iUV (v_var (i := 1))) (fun _ => trivial) (by simp only [List.all_cons, List.all_nil, List.getElem?_cons_zero, List.getElem?_cons_succ, List.set_cons_zero, List.set_cons_succ, nO_v, nO_e, nO_j, Bool.and_self]) rfl fun x38 => (sa_nm (sa_nil (g_all (sSlU (oV (i := 2) fun r39 h40 => (pE (sCall (rC (oG (sOp2 (oG (sSlU (oV (i := 2) fun r41 h42 => (pN (pV v_con (slEnd h42))))) fun t45 r43 h44 => (oC (v_lst (v_aC (v_var (i := 4)) v_aN)) fun r46 h47 => (rd2 h44 h47)))) fun t50 r48 h49 => (rN (rEnd (rdc h49 rdn)))))) fun i51 => (pN (slEnd h40))))) rfl))))) fun left_55 => (c_nxt ⟨(some name_29), rfl⟩))))))))) (fun | a10, _, ⟨j4, rfl⟩ => (c_ret (sTup (aV v_con (aF (v_frz (i := 3)) (aN tEndV)))))))))
theorem qs_merge {x_rows : T} {S S' : List Ob} {r : R T} (h : q_merge x_rows S = some (r, S')) : m_merge [x_rows] S = some (r, S') := fn_sim (n := 5) (ts := [x_rows]) (sb_merge x_rows) h
noncomputable def qb_is_demand (x_rows x_demand : T) : Q (F Unit Unit) :=
    (un3 x_demand fun x1 x2 x3 => (qB (qB (qB (qB (qB (qOp2 leO (.int 0) x3) fun t32 => qCh t32 (qB (qCall lenO [x_rows]) fun t31 => (qOp2 ltO x3 t31))) qTr) fun b33 => qP (!b33)) fun b34 => if b34 then qP true else (qB (qB (qB (qOp2 ixU x_rows x3) fun t21 => (qOp2 ninU x1 t21)) qTr) fun b22 => if b22 then qP true else (qB (qB (qOp2 ixU x_rows x3) fun t12 => (qOp2 ninU x2 t12)) qTr))) fun b35 => if b35 then (qP (.ret (.bl false))) else (qB (qB (qB (qOp2 ixU x_rows x3) fun t42 => (qB (qTy "list" t42) fun _ => (qMeth indexF t42 [x1]))) fun t45 => (qB (qB (qOp2 ixU x_rows x3) fun t52 => (qB (qTy "list" t52) fun _ => (qMeth indexF t52 [x2]))) fun t55 => (qOp2 ltO t45 t55))) fun t56 => qP (.ret t56))))
noncomputable def q_is_demand (x_rows x_demand : T) : Q T := qFn (qb_is_demand x_rows x_demand)
theorem sb_is_demand (x_rows x_demand : T) : SC (fun _ => True) (b_is_demand) [.val x_rows, .val x_demand, .emp, .emp, .emp] (qb_is_demand x_rows x_demand) (fun (_ : Unit) _ => True) (fun (_ : Unit) _ => False) := by
  unfold b_is_demand qb_is_demand
  exact (c_unpV (v_var (i := 1)) (sa_3 fun x1 x2 x3 => (sa_nm (sa_nm (sa_nm (sa_nil (c_ifr (tOr (tNot (tB (sChain (oC v_con fun r23 h24 => (oV (i := 4) fun r25 h26 => (chEnd h24 h26 (oG (sCall (rC (oV (i := 0) fun r27 h28 => (rN (rEnd (rdc h28 rdn)))))) fun t31 r29 h30 => (rd2 h26 h30)))))))) (tOr (tB (sOp2 (oV (i := 2) fun r13 h14 => (oG (sOp2 (oV (i := 0) fun r15 h16 => (oV (i := 4) fun r17 h18 => (rd2 h16 h18)))) fun t21 r19 h20 => (rd2 h14 h20))))) (tB (sOp2 (oV (i := 3) fun r4 h5 => (oG (sOp2 (oV (i := 0) fun r6 h7 => (oV (i := 4) fun r8 h9 => (rd2 h7 h9)))) fun t12 r10 h11 => (rd2 h5 h11))))))) (c_exit (c_retV v_con)) (c_skip (c_ret (sOp2 (oG (sMeth (oG (sOp2 (oV (i := 0) fun r36 h37 => (oV (i := 4) fun r38 h39 => (rd2 h37 h39)))) fun t42 r40 h41 => (isTyB h41 (aV (v_var (i := 2)) (aN (mEnd h41)))))) fun t45 r43 h44 => (oG (sMeth (oG (sOp2 (oV (i := 0) fun r46 h47 => (oV (i := 4) fun r48 h49 => (rd2 h47 h49)))) fun t52 r50 h51 => (isTyB h51 (aV (v_var (i := 3)) (aN (mEnd h51)))))) fun t55 r53 h54 => (rd2 h44 h54)))))))))))))
theorem qs_is_demand {x_rows x_demand : T} {S S' : List Ob} {r : R T} (h : q_is_demand x_rows x_demand S = some (r, S')) : m_is_demand [x_rows, x_demand] S = some (r, S') := fn_sim (n := 5) (ts := [x_rows, x_demand]) (sb_is_demand x_rows x_demand) h
noncomputable def qb_is_ring (x_rows x_demands : T) : Q (F Unit Unit) :=
    (qB (qB (qB (qCall lenO [x_demands]) fun t5 => (qOp2 eqT t5 (.int 0))) qTr) fun b8 => if b8 then (qP (.ret (.bl false))) else (qSeq (qB (qEnum x_demands) fun l41 => qFor (fun x11 _ => (un2 x11 fun x12 x13 => (qB (qB (qB (qB (m_is_demand [x_rows, x13]) qTr) fun b38 => qP (!b38)) fun b39 => if b39 then qP true else (qB (qB (qB (qB (qOp2 subO x12 (.int 1)) fun t22 => (qOp2 ixU x_demands t22)) fun t25 => (qOp2 ixU t25 (.int 1))) fun t30 => (qB (qOp2 ixU x13 (.int 0)) fun t37 => (qOp2 neT t30 t37))) qTr)) fun b40 => if b40 then (qP (.ret (.bl false))) else (qP (.nxt ()))))) l41 ()) fun _ => (qP (.ret (.bl true)))))
noncomputable def q_is_ring (x_rows x_demands : T) : Q T := qFn (qb_is_ring x_rows x_demands)
theorem sb_is_ring (x_rows x_demands : T) : SC (fun _ => True) (b_is_ring) [.val x_rows, .val x_demands, .emp, .emp] (qb_is_ring x_rows x_demands) (fun (_ : Unit) _ => True) (fun (_ : Unit) _ => False) := by
  unfold b_is_ring qb_is_ring
  exact (c_ifr (tB (sOp2 (oG (sCall (rC (oV (i := 1) fun r1 h2 => (rN (rEnd (rdc h2 rdn)))))) fun t5 r3 h4 => (oC v_con fun r6 h7 => (rd2 h4 h7))))) (c_exit (c_retV v_con)) (c_skip (c_seq (c_for (K := yes) (L := fun (a : Unit) s => ∃ (j2 : Option T) (j3 : Option T), s = [.val x_rows, .val x_demands, jS j2, jS j3]) (sEnum (aV (v_var (i := 1)) (aN (enEnd (t := x_demands))))) ⟨none, none, rfl⟩ (fun _ _ _ _ => trivial) (fun | x11, _, _, ⟨j2, j3, rfl⟩ => (sa_2 fun x12 x13 => (sa_nm (sa_nm (sa_nil (c_if (tOr (tNot (tB (sFn (aV (v_var (i := 0)) (aV (v_var (i := 3)) (aN fEnd)))))) (tB (sOp2 (oG (sOp2 (oG (sOp2 (oV (i := 1) fun r14 h15 => (oG (sOp2 (oV (i := 2) fun r16 h17 => (oC v_con fun r18 h19 => (rd2 h17 h19)))) fun t22 r20 h21 => (rd2 h15 h21)))) fun t25 r23 h24 => (oC v_con fun r26 h27 => (rd2 h24 h27)))) fun t30 r28 h29 => (oG (sOp2 (oV (i := 3) fun r31 h32 => (oC v_con fun r33 h34 => (rd2 h32 h34)))) fun t37 r35 h36 => (rd2 h29 h36)))))) (c_any (c_retV v_con)) (c_nxt ⟨(some x12), (some x13), rfl⟩)))))))) (fun | _, _, ⟨j2, j3, rfl⟩ => (c_retV v_con)))))
theorem qs_is_ring {x_rows x_demands : T} {S S' : List Ob} {r : R T} (h : q_is_ring x_rows x_demands S = some (r, S')) : m_is_ring [x_rows, x_demands] S = some (r, S') := fn_sim (n := 4) (ts := [x_rows, x_demands]) (sb_is_ring x_rows x_demands) h
noncomputable def qb__law_blend (x_cell x_at : T) : Q (F Unit Unit) :=
    (qB (qB (qB (qOp2 powO (.int 10) (.int 18)) fun t9 => (qOp2 geO x_cell t9)) qTr) fun b10 => if b10 then (qP (.ret x_cell)) else (qB (qB (qB (qB (qB (qOp2 modO x_cell (.int 998244353)) fun t17 => (qOp2 mulU t17 (.int 40692))) fun t22 => (qB (qOp2 mulU x_at (.int 69621)) fun t29 => (qOp2 addU t22 t29))) fun t32 => (qOp2 addU t32 (.int 1009))) fun t37 => (qOp2 modO t37 (.int 2147483399))) fun one_40 => (qB (qB (qB (qB (qOp2 mulU one_40 one_40) fun t47 => (qB (qOp2 mulU x_at (.int 48271)) fun t54 => (qOp2 addU t47 t54))) fun t57 => (qB (qOp2 modO x_cell (.int 131071)) fun t64 => (qOp2 addU t57 t64))) fun t67 => (qOp2 modO t67 (.int 2147483647))) fun two_70 => (qB (qB (qB (qB (qOp2 mulU two_70 two_70) fun t77 => (qB (qOp2 mulU one_40 (.int 17)) fun t84 => (qOp2 addU t77 t84))) fun t87 => (qOp2 addU t87 (.int 3))) fun t92 => (qOp2 modO t92 (.int 2147483629))) fun three_95 => (qB (qB (qB (qB (qOp2 mulU one_40 (.int 2147483647)) fun t102 => (qOp2 addU t102 two_70)) fun t107 => (qOp2 mulU t107 (.int 2147483629))) fun t112 => (qOp2 addU t112 three_95)) fun t115 => qP (.ret t115))))))
noncomputable def q__law_blend (x_cell x_at : T) : Q T := qFn (qb__law_blend x_cell x_at)
theorem sb__law_blend (x_cell x_at : T) : SC (fun _ => True) (b__law_blend) [.val x_cell, .val x_at, .emp, .emp, .emp] (qb__law_blend x_cell x_at) (fun (_ : Unit) _ => True) (fun (_ : Unit) _ => False) := by
  unfold b__law_blend qb__law_blend
  exact (c_ifr (tB (sOp2 (oV (i := 0) fun r1 h2 => (oG (sOp2 (oC v_con fun r3 h4 => (oC v_con fun r5 h6 => (rd2 h4 h6)))) fun t9 r7 h8 => (rd2 h2 h8))))) (c_exit (c_retV (v_var (i := 0)))) (c_skip (c_let (sOp2 (oG (sOp2 (oG (sOp2 (oG (sOp2 (oG (sOp2 (oV (i := 0) fun r11 h12 => (oC v_con fun r13 h14 => (rd2 h12 h14)))) fun t17 r15 h16 => (oC v_con fun r18 h19 => (rd2 h16 h19)))) fun t22 r20 h21 => (oG (sOp2 (oV (i := 1) fun r23 h24 => (oC v_con fun r25 h26 => (rd2 h24 h26)))) fun t29 r27 h28 => (rd2 h21 h28)))) fun t32 r30 h31 => (oC v_con fun r33 h34 => (rd2 h31 h34)))) fun t37 r35 h36 => (oC v_con fun r38 h39 => (rd2 h36 h39)))) fun one_40 => (c_let (sOp2 (oG (sOp2 (oG (sOp2 (oG (sOp2 (oV (i := 2) fun r41 h42 => (oV (i := 2) fun r43 h44 => (rd2 h42 h44)))) fun t47 r45 h46 => (oG (sOp2 (oV (i := 1) fun r48 h49 => (oC v_con fun r50 h51 => (rd2 h49 h51)))) fun t54 r52 h53 => (rd2 h46 h53)))) fun t57 r55 h56 => (oG (sOp2 (oV (i := 0) fun r58 h59 => (oC v_con fun r60 h61 => (rd2 h59 h61)))) fun t64 r62 h63 => (rd2 h56 h63)))) fun t67 r65 h66 => (oC v_con fun r68 h69 => (rd2 h66 h69)))) fun two_70 => (c_let (sOp2 (oG (sOp2 (oG (sOp2 (oG (sOp2 (oV (i := 3) fun r71 h72 => (oV (i := 3) fun r73 h74 => (rd2 h72 h74)))) fun t77 r75 h76 => (oG (sOp2 (oV (i := 2) fun r78 h79 => (oC v_con fun r80 h81 => (rd2 h79 h81)))) fun t84 r82 h83 => (rd2 h76 h83)))) fun t87 r85 h86 => (oC v_con fun r88 h89 => (rd2 h86 h89)))) fun t92 r90 h91 => (oC v_con fun r93 h94 => (rd2 h91 h94)))) fun three_95 => (c_ret (sOp2 (oG (sOp2 (oG (sOp2 (oG (sOp2 (oV (i := 2) fun r96 h97 => (oC v_con fun r98 h99 => (rd2 h97 h99)))) fun t102 r100 h101 => (oV (i := 3) fun r103 h104 => (rd2 h101 h104)))) fun t107 r105 h106 => (oC v_con fun r108 h109 => (rd2 h106 h109)))) fun t112 r110 h111 => (oV (i := 4) fun r113 h114 => (rd2 h111 h114))))))))))
theorem qs__law_blend {x_cell x_at : T} {S S' : List Ob} {r : R T} (h : q__law_blend x_cell x_at S = some (r, S')) : m__law_blend [x_cell, x_at] S = some (r, S') := fn_sim (n := 5) (ts := [x_cell, x_at]) (sb__law_blend x_cell x_at) h
noncomputable def qb__law_pot (x_script : T) : Q (F Unit Unit) :=
    (qB (qB (qSl slU x_script none (some 12)) fun t5 => (qCall listO [t5])) fun cells_6 => (qSeq (qB (qB (qSl slU x_script (some 12) (some 63)) fun t9 => (qEnum t9)) fun l38 => qFor (fun x12 a10 => (un2 x12 fun x13 x14 => (qB (qB (qB (qOp2 modO x13 (.int 12)) fun t23 => (qOp2 ixU (.fz a10) t23)) fun t26 => (qOp2 addU t26 x14)) fun t33 => qB (qOp2 modO x13 (.int 12)) fun t34 => qB (qO (setL a10 t34 t33)) fun cells_35 => (qP (.nxt cells_35))))) l38 cells_6) fun a11 => (qB (qB (qP [(.fz a11), (.int 0), (.int 0)]) fun l36 => qBox (.lst l36)) fun t37 => qP (.ret t37))))
noncomputable def q__law_pot (x_script : T) : Q T := qFn (qb__law_pot x_script)
theorem sb__law_pot (x_script : T) : SC (fun _ => True) (b__law_pot) [.val x_script, .emp, .emp, .emp] (qb__law_pot x_script) (fun (_ : Unit) _ => True) (fun (_ : Unit) _ => False) := by
  unfold b__law_pot qb__law_pot
  exact (c_own (sCallL (rC (oG (sSlU (oV (i := 0) fun r1 h2 => (pN (pV v_con (slEnd h2))))) fun t5 r3 h4 => (rN (rEndL (rdc h4 rdn)))))) fun cells_6 => (c_seq (c_for (K := yes) (L := fun (a : List T) s => ∃ (j2 : Option T) (j3 : Option T), s = [.val x_script, .own (.lst a), jS j2, jS j3]) (sEnum (aE (sSlU (oV (i := 0) fun r7 h8 => (pV v_con (pV v_con (slEnd h8))))) fun t9 => (aN (enEnd (t := t9))))) ⟨none, none, rfl⟩ (fun _ _ _ _ => trivial) (fun | x12, a10, _, ⟨j2, j3, rfl⟩ => (sa_2 fun x13 x14 => (sa_nm (sa_nm (sa_nil (c_end (c_setO (i := 1) (sOp2 (oG (sOp2 (oW (i := 1) fun r15 h16 => (oG (sOp2 (oV (i := 2) fun r17 h18 => (oC v_con fun r19 h20 => (rd2 h18 h20)))) fun t23 r21 h22 => (rd2 h16 h22)))) fun t26 r24 h25 => (oV (i := 3) fun r27 h28 => (rd2 h25 h28)))) (sOp2 (oV (i := 2) fun r29 h30 => (oC v_con fun r31 h32 => (rd2 h30 h32)))) fun cells_35 => (c_nxt ⟨(some x13), (some x14), rfl⟩))))))))) (fun | a11, _, ⟨j2, j3, rfl⟩ => (c_ret (sBox (sLst (aF (v_frz (i := 1)) (aV v_con (aV v_con (aN lEnd))))))))))
theorem qs__law_pot {x_script : T} {S S' : List Ob} {r : R T} (h : q__law_pot x_script S = some (r, S')) : m__law_pot [x_script] S = some (r, S') := fn_sim (n := 4) (ts := [x_script]) (sb__law_pot x_script) h
noncomputable def qb__law_pick (x_pot x_many : T) : Q (F Unit Unit) :=
    (qSeq (qB (qB (qB (qOp2 ixU x_pot (.int 2)) fun t7 => (qOp2 ltO t7 x_many)) qTr) fun b10 => if b10 then (qB (qOp2 ixU x_pot (.int 1)) fun at_16 => (qB (qOp2 mulU (.int 11) at_16) fun cell_21 => (qSeq (qB (qB (qB (qB (qOp2 ixU x_pot (.int 0)) fun t30 => (qCall lenO [t30])) fun t33 => (qOp2 ltO at_16 t33)) qTr) fun b34 => if b34 then (qB (qB (qOp2 ixU x_pot (.int 0)) fun t42 => (qOp2 ixU t42 at_16)) fun cell_45 => (qP (.nxt cell_45))) else (qB (qB (qB (qOp2 ixU x_pot (.int 0)) fun t52 => (qOp2 neT t52 (.fz []))) qTr) fun b55 => if b55 then (qB (qB (qB (qOp2 ixU x_pot (.int 0)) fun t62 => (qB (qB (qB (qOp2 mulU at_16 (.int 7)) fun t69 => (qOp2 addU t69 (.int 1))) fun t74 => (qB (qB (qOp2 ixU x_pot (.int 0)) fun t81 => (qCall lenO [t81])) fun t84 => (qOp2 modO t74 t84))) fun t87 => (qOp2 ixU t62 t87))) fun t90 => (qB (qB (qOp2 powO (.int 10) (.int 17)) fun t97 => (qB (qOp2 mulU (.int 3) at_16) fun t104 => (qOp2 addU t97 t104))) fun t107 => (qOp2 modO t90 t107))) fun cell_108 => (qP (.nxt cell_108))) else (qP (.nxt cell_21)))) fun a35 => (qB (qOp2 addU at_16 (.int 1)) fun t113 => qB (qIsL x_pot) fun _ => qB (qP (.int 1)) fun t114 => qB (qBxSet x_pot t114 t113) fun _ => (qB (m__law_blend [a35, at_16]) fun t116 => qB (qIsL x_pot) fun _ => qB (qP (.int 2)) fun t117 => qB (qBxSet x_pot t117 t116) fun _ => (qP (.nxt ()))))))) else (qP (.nxt ()))) fun _ => (qB (qB (qOp2 ixU x_pot (.int 2)) fun t125 => (qOp2 modO t125 x_many)) fun found_128 => (qB (qB (qOp2 ixU x_pot (.int 2)) fun t135 => (qOp2 divO t135 x_many)) fun t138 => qB (qIsL x_pot) fun _ => qB (qP (.int 2)) fun t139 => qB (qBxSet x_pot t139 t138) fun _ => (qP (.ret found_128)))))
noncomputable def q__law_pick (x_pot x_many : T) : Q T := qFn (qb__law_pick x_pot x_many)
theorem sb__law_pick (x_pot x_many : T) : SC (fun _ => True) (b__law_pick) [.val x_pot, .val x_many, .emp, .emp, .emp] (qb__law_pick x_pot x_many) (fun (_ : Unit) _ => True) (fun (_ : Unit) _ => False) := by
  unfold b__law_pick qb__law_pick
  exact (c_seq (A := fun (a : Unit) s => ∃ (j2 : Option T) (j3 : Option T), s = [.val x_pot, .val x_many, jS j2, jS j3, .emp]) (c_if (tB (sOp2 (oG (sOp2 (oV (i := 0) fun r1 h2 => (oC v_con fun r3 h4 => (rd2 h2 h4)))) fun t7 r5 h6 => (oV (i := 1) fun r8 h9 => (rd2 h6 h9))))) (c_let (sOp2 (oV (i := 0) fun r12 h13 => (oC v_con fun r14 h15 => (rd2 h13 h15)))) fun at_16 => (c_let (sOp2 (oC v_con fun r17 h18 => (oV (i := 2) fun r19 h20 => (rd2 h18 h20)))) fun cell_21 => (c_seq (A := fun (a : T) s => s = [.val x_pot, .val x_many, .val at_16, .val a, .emp]) (c_if (tB (sOp2 (oV (i := 2) fun r22 h23 => (oG (sCall (rC (oG (sOp2 (oV (i := 0) fun r24 h25 => (oC v_con fun r26 h27 => (rd2 h25 h27)))) fun t30 r28 h29 => (rN (rEnd (rdc h29 rdn)))))) fun t33 r31 h32 => (rd2 h23 h32))))) (c_end (c_let (sOp2 (oG (sOp2 (oV (i := 0) fun r36 h37 => (oC v_con fun r38 h39 => (rd2 h37 h39)))) fun t42 r40 h41 => (oV (i := 2) fun r43 h44 => (rd2 h41 h44)))) fun cell_45 => (c_nxt rfl))) (c_if (tB (sOp2 (oG (sOp2 (oV (i := 0) fun r46 h47 => (oC v_con fun r48 h49 => (rd2 h47 h49)))) fun t52 r50 h51 => (oC (v_lst v_aN) fun r53 h54 => (rd2 h51 h54))))) (c_end (c_let (sOp2 (oG (sOp2 (oG (sOp2 (oV (i := 0) fun r56 h57 => (oC v_con fun r58 h59 => (rd2 h57 h59)))) fun t62 r60 h61 => (oG (sOp2 (oG (sOp2 (oG (sOp2 (oV (i := 2) fun r63 h64 => (oC v_con fun r65 h66 => (rd2 h64 h66)))) fun t69 r67 h68 => (oC v_con fun r70 h71 => (rd2 h68 h71)))) fun t74 r72 h73 => (oG (sCall (rC (oG (sOp2 (oV (i := 0) fun r75 h76 => (oC v_con fun r77 h78 => (rd2 h76 h78)))) fun t81 r79 h80 => (rN (rEnd (rdc h80 rdn)))))) fun t84 r82 h83 => (rd2 h73 h83)))) fun t87 r85 h86 => (rd2 h61 h86)))) fun t90 r88 h89 => (oG (sOp2 (oG (sOp2 (oC v_con fun r91 h92 => (oC v_con fun r93 h94 => (rd2 h92 h94)))) fun t97 r95 h96 => (oG (sOp2 (oC v_con fun r98 h99 => (oV (i := 2) fun r100 h101 => (rd2 h99 h101)))) fun t104 r102 h103 => (rd2 h96 h103)))) fun t107 r105 h106 => (rd2 h89 h106)))) fun cell_108 => (c_nxt rfl))) (c_nxt rfl))) (fun | a35, _, rfl => (c_setB (i := 0) (sOp2 (oV (i := 2) fun r109 h110 => (oC v_con fun r111 h112 => (rd2 h110 h112)))) (eV v_con) (c_end (c_setB (i := 0) (sFn (aV (v_var (i := 3)) (aV (v_var (i := 2)) (aN fEnd)))) (eV v_con) (c_nxt ⟨(some at_16), (some a35), rfl⟩)))))))) (c_nxt ⟨none, none, rfl⟩)) (fun | _, _, ⟨j2, j3, rfl⟩ => (c_let (sOp2 (oG (sOp2 (oV (i := 0) fun r119 h120 => (oC v_con fun r121 h122 => (rd2 h120 h122)))) fun t125 r123 h124 => (oV (i := 1) fun r126 h127 => (rd2 h124 h127)))) fun found_128 => (c_setB (i := 0) (sOp2 (oG (sOp2 (oV (i := 0) fun r129 h130 => (oC v_con fun r131 h132 => (rd2 h130 h132)))) fun t135 r133 h134 => (oV (i := 1) fun r136 h137 => (rd2 h134 h137)))) (eV v_con) (c_retV (v_var (i := 4)))))))
theorem qs__law_pick {x_pot x_many : T} {S S' : List Ob} {r : R T} (h : q__law_pick x_pot x_many S = some (r, S')) : m__law_pick [x_pot, x_many] S = some (r, S') := fn_sim (n := 5) (ts := [x_pot, x_many]) (sb__law_pick x_pot x_many) h
noncomputable def qb__law_order (x_pot x_many : T) : Q (F Unit Unit) :=
    (qB (qP []) fun order_1 => (qSeq (qB (qRange x_many) fun l12 => qFor (fun x4 a2 => (qB (qB (qB (qOp2 addU x4 (.int 1)) fun t9 => (m__law_pick [x_pot, t9])) fun t10 => (qO (insertF a2 [t10, x4]))) fun p11 => (qP (.nxt p11.1)))) l12 order_1) fun a3 => (qP (.ret (.fz a3)))))
noncomputable def q__law_order (x_pot x_many : T) : Q T := qFn (qb__law_order x_pot x_many)
theorem sb__law_order (x_pot x_many : T) : SC (fun _ => True) (b__law_order) [.val x_pot, .val x_many, .emp, .emp] (qb__law_order x_pot x_many) (fun (_ : Unit) _ => True) (fun (_ : Unit) _ => False) := by
  unfold b__law_order qb__law_order
  exact (c_own (sLst (aN lEnd)) fun order_1 => (c_seq (c_for (K := yes) (L := fun (a : List T) s => ∃ (j3 : Option T), s = [.val x_pot, .val x_many, .own (.lst a), jS j3]) (sRange (aV (v_var (i := 1)) (aN (rgEnd (t := x_many))))) ⟨none, rfl⟩ (fun _ _ _ _ => trivial) (fun | x4, a2, _, ⟨j3, rfl⟩ => (sa_nm (sa_nil (c_end (c_ex (sLstO (aE (sFn (aV (v_var (i := 0)) (aE (sOp2 (oV (i := 3) fun r5 h6 => (oC v_con fun r7 h8 => (rd2 h6 h8)))) fun t9 => (aN fEnd)))) fun t10 => (aV (v_var (i := 3)) (aN lstEnd)))) fun p11 => (c_nxt ⟨(some x4), rfl⟩))))))) (fun | a3, _, ⟨j3, rfl⟩ => (c_retF (v_frz (i := 2))))))
theorem qs__law_order {x_pot x_many : T} {S S' : List Ob} {r : R T} (h : q__law_order x_pot x_many S = some (r, S')) : m__law_order [x_pot, x_many] S = some (r, S') := fn_sim (n := 4) (ts := [x_pot, x_many]) (sb__law_order x_pot x_many) h
noncomputable def qb__law_letters (x_pot x_many : T) : Q (F Unit Unit) :=
    (qB (qB (qTy "str" (.str [])) fun _ => (qB (qB (qB (qRange (.int 7)) (qComp fun x4 => (qB (qB (m__law_pick [x_pot, (.int 26)]) fun t9 => (qOp2 ixU (.str [97, 98, 99, 100, 101, 102, 103, 104, 105, 106, 107, 108, 109, 110, 111, 112, 113, 114, 115, 116, 117, 118, 119, 120, 121, 122]) t9)) fun y10 => qP (some y10)))) fun l11 => qP (.fz l11)) fun t12 => (qMeth joinF (.str []) [t12]))) fun rest_13 => (qB (m__law_pick [x_pot, (.int 3)]) fun spot_14 => (qB (m__law_pick [x_pot, (.int 26)]) fun turn_15 => (qB (m__law_pick [x_pot, (.int 8)]) fun size_16 => (qB (qP []) fun found_17 => (qSeq (qB (qRange x_many) fun l104 => qFor (fun x20 a18 => (qB (qB (qB (qB (qB (qOp2 modO spot_14 (.int 2)) fun t33 => (qOp2 mulU x20 t33)) fun t36 => (qOp2 addU size_16 t36)) fun t39 => (qOp2 modO t39 (.int 8))) fun t43 => qB (qI t43) fun i42 => (qSl slU rest_13 none (some i42))) fun part_44 => (qB (qB (qB (qB (qCall lenO [part_44]) fun t49 => (qB (qB (qCall lenO [part_44]) fun t54 => (qOp2 divO t54 (.int 2))) fun t57 => (qP [(.int 0), t49, t57]))) fun l58 => qP (.fz l58)) fun t61 => (qOp2 ixU t61 spot_14)) fun at_64 => (qB (qB (qB (qB (qB (qI at_64) fun i67 => (qSl slU part_44 none (some i67))) fun t70 => (qB (qB (qB (qB (qOp2 mulU (.int 5) x20) fun t81 => (qOp2 addU turn_15 t81)) fun t84 => (qOp2 modO t84 (.int 26))) fun t89 => (qOp2 ixU (.str [97, 98, 99, 100, 101, 102, 103, 104, 105, 106, 107, 108, 109, 110, 111, 112, 113, 114, 115, 116, 117, 118, 119, 120, 121, 122]) t89)) fun t92 => (qOp2 addU t70 t92))) fun t95 => (qB (qB (qI at_64) fun i98 => (qSl slU part_44 (some i98) none)) fun t101 => (qOp2 addU t95 t101))) fun t102 => (qO (appendF a18 [t102]))) fun p103 => (qP (.nxt p103.1)))))) l104 found_17) fun a19 => (qP (.ret (.fz a19)))))))))
noncomputable def q__law_letters (x_pot x_many : T) : Q T := qFn (qb__law_letters x_pot x_many)
theorem sb__law_letters (x_pot x_many : T) : SC (fun _ => True) (b__law_letters) [.val x_pot, .val x_many, .emp, .emp, .emp, .emp, .emp, .emp, .emp, .emp, .emp] (qb__law_letters x_pot x_many) (fun (_ : Unit) _ => True) (fun (_ : Unit) _ => False) := by
  unfold b__law_letters qb__law_letters
  exact (c_letV v_con (c_let (sMeth (oC v_con fun r2 h3 => (isTyB h3 (aE (sFz (g_comp (K := yes) (sRange (aV v_con (aN (rgEnd (t := (.int 7)))))) (fun _ => trivial) (by simp only [List.all_cons, List.all_nil, List.getElem?_cons_zero, List.getElem?_cons_succ, List.set_cons_zero, List.set_cons_succ, nO_v, nO_e, nO_j, Bool.and_self]) rfl fun x4 => (sa_nm (sa_nil (g_all (sOp2 (oV (i := 2) fun r5 h6 => (oG (sFn (aV (v_var (i := 0)) (aV v_con (aN fEnd)))) fun t9 r7 h8 => (rd2 h6 h8)))) rfl))))) fun t12 => (aN (mEnd h3)))))) fun rest_13 => (c_let (sFn (aV (v_var (i := 0)) (aV v_con (aN fEnd)))) fun spot_14 => (c_let (sFn (aV (v_var (i := 0)) (aV v_con (aN fEnd)))) fun turn_15 => (c_let (sFn (aV (v_var (i := 0)) (aV v_con (aN fEnd)))) fun size_16 => (c_own (sLst (aN lEnd)) fun found_17 => (c_seq (c_for (K := yes) (L := fun (a : List T) s => ∃ (j4 : Option T) (j9 : Option T) (j10 : Option T), s = [.val x_pot, .val x_many, .val (.str [97, 98, 99, 100, 101, 102, 103, 104, 105, 106, 107, 108, 109, 110, 111, 112, 113, 114, 115, 116, 117, 118, 119, 120, 121, 122]), .val rest_13, jS j4, .val spot_14, .val turn_15, .val size_16, .own (.lst a), jS j9, jS j10]) (sRange (aV (v_var (i := 1)) (aN (rgEnd (t := x_many))))) ⟨none, none, none, rfl⟩ (fun _ _ _ _ => trivial) (fun | x20, a18, _, ⟨j4, j9, j10, rfl⟩ => (sa_nm (sa_nil (c_let (sSlU (oV (i := 3) fun r21 h22 => (pN (pE (sOp2 (oG (sOp2 (oV (i := 7) fun r23 h24 => (oG (sOp2 (oV (i := 4) fun r25 h26 => (oG (sOp2 (oV (i := 5) fun r27 h28 => (oC v_con fun r29 h30 => (rd2 h28 h30)))) fun t33 r31 h32 => (rd2 h26 h32)))) fun t36 r34 h35 => (rd2 h24 h35)))) fun t39 r37 h38 => (oC v_con fun r40 h41 => (rd2 h38 h41)))) fun i42 => (slEnd h22))))) fun part_44 => (c_let (sOp2 (oG (sFz (sLst (aV v_con (aE (sCall (rC (oV (i := 9) fun r47 h48 => (rN (rEnd (rdc h48 rdn)))))) fun t49 => (aE (sOp2 (oG (sCall (rC (oV (i := 9) fun r50 h51 => (rN (rEnd (rdc h51 rdn)))))) fun t54 r52 h53 => (oC v_con fun r55 h56 => (rd2 h53 h56)))) fun t57 => (aN lEnd)))))) fun t61 r59 h60 => (oV (i := 5) fun r62 h63 => (rd2 h60 h63)))) fun at_64 => (c_end (c_ex (sLstO (aE (sOp2 (oG (sOp2 (oG (sSlU (oV (i := 9) fun r65 h66 => (pN (pT (v_var (i := 10)) fun i67 => (slEnd h66))))) fun t70 r68 h69 => (oG (sOp2 (oV (i := 2) fun r71 h72 => (oG (sOp2 (oG (sOp2 (oV (i := 6) fun r73 h74 => (oG (sOp2 (oC v_con fun r75 h76 => (oV (i := 4) fun r77 h78 => (rd2 h76 h78)))) fun t81 r79 h80 => (rd2 h74 h80)))) fun t84 r82 h83 => (oC v_con fun r85 h86 => (rd2 h83 h86)))) fun t89 r87 h88 => (rd2 h72 h88)))) fun t92 r90 h91 => (rd2 h69 h91)))) fun t95 r93 h94 => (oG (sSlU (oV (i := 9) fun r96 h97 => (pT (v_var (i := 10)) fun i98 => (pN (slEnd h97))))) fun t101 r99 h100 => (rd2 h94 h100)))) fun t102 => (aN lstEnd))) fun p103 => (c_nxt ⟨(some x20), (some part_44), (some at_64), rfl⟩))))))))) (fun | a19, _, ⟨j4, j9, j10, rfl⟩ => (c_retF (v_frz (i := 8)))))))))))
theorem qs__law_letters {x_pot x_many : T} {S S' : List Ob} {r : R T} (h : q__law_letters x_pot x_many S = some (r, S')) : m__law_letters [x_pot, x_many] S = some (r, S') := fn_sim (n := 11) (ts := [x_pot, x_many]) (sb__law_letters x_pot x_many) h
noncomputable def qb__law_names (x_pot x_many : T) : Q (F Unit Unit) :=
    (qB (m__law_pick [x_pot, (.int 4)]) fun way_1 => (qB (m__law_pick [x_pot, (.int 26)]) fun turn_2 => (qSeq (qB (qB (qOp2 eqT way_1 (.int 3)) qTr) fun b8 => if b8 then (qB (qB (qB (qRange x_many) (qComp fun x10 => (qB (qB (qB (qB (qB (qOp2 divO x10 (.int 8)) fun t21 => (qOp2 addU turn_2 t21)) fun t24 => (qOp2 modO t24 (.int 26))) fun t29 => (qOp2 ixU (.str [97, 98, 99, 100, 101, 102, 103, 104, 105, 106, 107, 108, 109, 110, 111, 112, 113, 114, 115, 116, 117, 118, 119, 120, 121, 122]) t29)) fun t32 => (qB (qB (qOp2 modO x10 (.int 8)) fun t41 => (qOp2 addU (.int 1) t41)) fun t44 => (qOp2 mulU t32 t44))) fun y45 => qP (some y45)))) fun l46 => qP (.fz l46)) fun found_47 => (qP (.nxt found_47))) else (qB (m__law_letters [x_pot, x_many]) fun found_48 => (qP (.nxt found_48)))) fun a9 => (qB (qB (qB (qB (m__law_order [x_pot, x_many]) qIt) (qComp fun x49 => (qB (qOp2 ixU a9 x49) fun y54 => qP (some y54)))) fun l55 => qP (.fz l55)) fun t56 => qP (.ret t56)))))
noncomputable def q__law_names (x_pot x_many : T) : Q T := qFn (qb__law_names x_pot x_many)
theorem sb__law_names (x_pot x_many : T) : SC (fun _ => True) (b__law_names) [.val x_pot, .val x_many, .emp, .emp, .emp, .emp, .emp] (qb__law_names x_pot x_many) (fun (_ : Unit) _ => True) (fun (_ : Unit) _ => False) := by
  unfold b__law_names qb__law_names
  exact (c_let (sFn (aV (v_var (i := 0)) (aV v_con (aN fEnd)))) fun way_1 => (c_let (sFn (aV (v_var (i := 0)) (aV v_con (aN fEnd)))) fun turn_2 => (c_letV v_con (c_seq (A := fun (a : T) s => s = [.val x_pot, .val x_many, .val way_1, .val turn_2, .val (.str [97, 98, 99, 100, 101, 102, 103, 104, 105, 106, 107, 108, 109, 110, 111, 112, 113, 114, 115, 116, 117, 118, 119, 120, 121, 122]), .val a, .emp]) (c_if (tB (sOp2 (oV (i := 2) fun r4 h5 => (oC v_con fun r6 h7 => (rd2 h5 h7))))) (c_end (c_let (sFz (g_comp (K := yes) (sRange (aV (v_var (i := 1)) (aN (rgEnd (t := x_many))))) (fun _ => trivial) (by simp only [List.all_cons, List.all_nil, List.getElem?_cons_zero, List.getElem?_cons_succ, List.set_cons_zero, List.set_cons_succ, nO_v, nO_e, nO_j, Bool.and_self]) rfl fun x10 => (sa_nm (sa_nil (g_all (sOp2 (oG (sOp2 (oV (i := 4) fun r11 h12 => (oG (sOp2 (oG (sOp2 (oV (i := 3) fun r13 h14 => (oG (sOp2 (oV (i := 6) fun r15 h16 => (oC v_con fun r17 h18 => (rd2 h16 h18)))) fun t21 r19 h20 => (rd2 h14 h20)))) fun t24 r22 h23 => (oC v_con fun r25 h26 => (rd2 h23 h26)))) fun t29 r27 h28 => (rd2 h12 h28)))) fun t32 r30 h31 => (oG (sOp2 (oC v_con fun r33 h34 => (oG (sOp2 (oV (i := 6) fun r35 h36 => (oC v_con fun r37 h38 => (rd2 h36 h38)))) fun t41 r39 h40 => (rd2 h34 h40)))) fun t44 r42 h43 => (rd2 h31 h43)))) rfl))))) fun found_47 => (c_nxt rfl))) (c_end (c_let (sFn (aV (v_var (i := 0)) (aV (v_var (i := 1)) (aN fEnd)))) fun found_48 => (c_nxt rfl)))) (fun | a9, _, rfl => (c_ret (sFz (g_comp (K := yes) (iUE (sFn (aV (v_var (i := 0)) (aV (v_var (i := 1)) (aN fEnd))))) (fun _ => trivial) (by simp only [List.all_cons, List.all_nil, List.getElem?_cons_zero, List.getElem?_cons_succ, List.set_cons_zero, List.set_cons_succ, nO_v, nO_e, nO_j, Bool.and_self]) rfl fun x49 => (sa_nm (sa_nil (g_all (sOp2 (oV (i := 5) fun r50 h51 => (oV (i := 6) fun r52 h53 => (rd2 h51 h53)))) rfl)))))))))))
theorem qs__law_names {x_pot x_many : T} {S S' : List Ob} {r : R T} (h : q__law_names x_pot x_many S = some (r, S')) : m__law_names [x_pot, x_many] S = some (r, S') := fn_sim (n := 7) (ts := [x_pot, x_many]) (sb__law_names x_pot x_many) h
noncomputable def qb__law_rows (x_pot : T) : Q (F Unit Unit) :=
    (qB (m__law_pick [x_pot, (.int 4)]) fun shape_1 => (qB (qB (qB (qB (m__law_pick [x_pot, (.int 4)]) fun t8 => (qOp2 ixU (.fz [(.int 3), (.int 5), (.int 8), (.int 16)]) t8)) fun t9 => (m__law_pick [x_pot, t9])) fun t12 => (qOp2 addU (.int 1) t12)) fun many_13 => (qB (m__law_names [x_pot, many_13]) fun names_14 => (qB (qP []) fun rows_15 => (qSeq (qB (qB (qB (qB (m__law_pick [x_pot, (.int 4)]) fun t20 => (qOp2 ixU (.fz [(.int 3), (.int 5), (.int 8), (.int 17)]) t20)) fun t21 => (m__law_pick [x_pot, t21])) fun t22 => (qRange t22)) fun l95 => qFor (fun x25 a23 => (qB (qB (m__law_pick [x_pot, (.int 4)]) fun t30 => (qOp2 addU (.int 1) t30)) fun share_31 => (qB (qB (qIt names_14) (qComp fun x32 => (qB (qB (qB (m__law_pick [x_pot, (.int 4)]) fun t35 => (qOp2 ltO t35 share_31)) qTr) fun b38 => if b38 then qP (some x32) else qP none))) fun row_39 => (qSeq (qB (qB (qB (qOp2 gtO shape_1 (.int 1)) qTr) fun b59 => if b59 then (qB (qB (qOp2 neT (.fz row_39) (.fz [])) qTr) fun b54 => if b54 then (qB (qB (m__law_pick [x_pot, (.int 4)]) fun t42 => (qB (qOp2 subO shape_1 (.int 1)) fun t49 => (qOp2 ltO t42 t49))) qTr) else qP false) else qP false) fun b60 => if b60 then (qB (qB (qCall lenO [(.fz row_39)]) fun t64 => (m__law_pick [x_pot, t64])) fun at_65 => (qB (qB (qB (qCall lenO [(.fz row_39)]) fun t68 => (m__law_pick [x_pot, t68])) fun t69 => (qB (qO (popF row_39 [at_65])) fun p70 => (qO (insertF p70.1 [t69, p70.2])))) fun p71 => (qP (.nxt p71.1)))) else (qP (.nxt row_39))) fun a61 => (qSeq (qB (qB (qB (qOp2 eqT shape_1 (.int 3)) qTr) fun b81 => if b81 then (qB (qB (m__law_pick [x_pot, (.int 4)]) fun t74 => (qOp2 eqT t74 (.int 0))) qTr) else qP false) fun b82 => if b82 then (qB (qB (qB (qB (qCall lenO [(.fz a61)]) fun t86 => (m__law_order [x_pot, t86])) qIt) (qComp fun x87 => (qB (qOp2 ixU (.fz a61) x87) fun y92 => qP (some y92)))) fun row_93 => (qP (.nxt row_93))) else (qP (.nxt a61))) fun a83 => (qB (qO (appendF a23 [(.fz a83)])) fun p94 => (qP (.nxt p94.1)))))))) l95 rows_15) fun a24 => (qP (.ret (.fz a24))))))))
noncomputable def q__law_rows (x_pot : T) : Q T := qFn (qb__law_rows x_pot)
theorem sb__law_rows (x_pot : T) : SC (fun _ => True) (b__law_rows) [.val x_pot, .emp, .emp, .emp, .emp, .emp, .emp, .emp, .emp, .emp] (qb__law_rows x_pot) (fun (_ : Unit) _ => True) (fun (_ : Unit) _ => False) := by
  unfold b__law_rows qb__law_rows
  exact (c_let (sFn (aV (v_var (i := 0)) (aV v_con (aN fEnd)))) fun shape_1 => (c_let (sOp2 (oC v_con fun r2 h3 => (oG (sFn (aV (v_var (i := 0)) (aE (sOp2 (oC (v_lst (v_aC v_con (v_aC v_con (v_aC v_con (v_aC v_con v_aN))))) fun r4 h5 => (oG (sFn (aV (v_var (i := 0)) (aV v_con (aN fEnd)))) fun t8 r6 h7 => (rd2 h5 h7)))) fun t9 => (aN fEnd)))) fun t12 r10 h11 => (rd2 h3 h11)))) fun many_13 => (c_let (sFn (aV (v_var (i := 0)) (aV (v_var (i := 2)) (aN fEnd)))) fun names_14 => (c_own (sLst (aN lEnd)) fun rows_15 => (c_seq (c_for (K := yes) (L := fun (a : List T) s => ∃ (j5 : Option T) (j6 : Option T) (o7 : Sl) (j9 : Option T), s = [.val x_pot, .val shape_1, .val many_13, .val names_14, .own (.lst a), jS j5, jS j6, o7, .emp, jS j9]) (sRange (aE (sFn (aV (v_var (i := 0)) (aE (sOp2 (oC (v_lst (v_aC v_con (v_aC v_con (v_aC v_con (v_aC v_con v_aN))))) fun r16 h17 => (oG (sFn (aV (v_var (i := 0)) (aV v_con (aN fEnd)))) fun t20 r18 h19 => (rd2 h17 h19)))) fun t21 => (aN fEnd)))) fun t22 => (aN (rgEnd (t := t22))))) ⟨none, none, (.emp), none, rfl⟩ (fun _ _ _ _ => trivial) (fun | x25, a23, _, ⟨j5, j6, o7, j9, rfl⟩ => (sa_nm (sa_nil (c_let (sOp2 (oC v_con fun r26 h27 => (oG (sFn (aV (v_var (i := 0)) (aV v_con (aN fEnd)))) fun t30 r28 h29 => (rd2 h27 h29)))) fun share_31 => (c_own (g_comp (K := yes) (iUV (v_var (i := 3))) (fun _ => trivial) (by simp only [List.all_cons, List.all_nil, List.getElem?_cons_zero, List.getElem?_cons_succ, List.set_cons_zero, List.set_cons_succ, nO_v, nO_e, nO_j, Bool.and_self]) rfl fun x32 => (sa_nm (sa_nil (g_ifV (tB (sOp2 (oG (sFn (aV (v_var (i := 0)) (aV v_con (aN fEnd)))) fun t35 r33 h34 => (oV (i := 6) fun r36 h37 => (rd2 h34 h37))))) (v_var (i := 8)) rfl)))) fun row_39 => (c_seq (A := fun (a : List T) s => ∃ (j9 : Option T), s = [.val x_pot, .val shape_1, .val many_13, .val names_14, .own (.lst a23), .val x25, .val share_31, .own (.lst a), .emp, jS j9]) (c_if (tAnd (tB (sOp2 (oV (i := 1) fun r55 h56 => (oC v_con fun r57 h58 => (rd2 h56 h58))))) (tAnd (tB (sOp2 (oW (i := 7) fun r50 h51 => (oC (v_lst v_aN) fun r52 h53 => (rd2 h51 h53))))) (tB (sOp2 (oG (sFn (aV (v_var (i := 0)) (aV v_con (aN fEnd)))) fun t42 r40 h41 => (oG (sOp2 (oV (i := 1) fun r43 h44 => (oC v_con fun r45 h46 => (rd2 h44 h46)))) fun t49 r47 h48 => (rd2 h41 h48))))))) (c_let (sFn (aV (v_var (i := 0)) (aE (sCall (rC (oW (i := 7) fun r62 h63 => (rN (rEnd (rdc h63 rdn)))))) fun t64 => (aN fEnd)))) fun at_65 => (c_end (c_ex (sLstO (aE (sFn (aV (v_var (i := 0)) (aE (sCall (rC (oW (i := 7) fun r66 h67 => (rN (rEnd (rdc h67 rdn)))))) fun t68 => (aN fEnd)))) fun t69 => (aX (sLstO (aV (v_var (i := 9)) (aN lstEnd))) fun p70 => (aN lstEnd)))) fun p71 => (c_nxt ⟨(some at_65), rfl⟩)))) (c_nxt ⟨j9, rfl⟩)) (fun | a61, _, ⟨j9, rfl⟩ => (c_seq (A := fun (a : List T) s => s = [.val x_pot, .val shape_1, .val many_13, .val names_14, .own (.lst a23), .val x25, .val share_31, .own (.lst a), .emp, jS j9]) (c_if (tAnd (tB (sOp2 (oV (i := 1) fun r77 h78 => (oC v_con fun r79 h80 => (rd2 h78 h80))))) (tB (sOp2 (oG (sFn (aV (v_var (i := 0)) (aV v_con (aN fEnd)))) fun t74 r72 h73 => (oC v_con fun r75 h76 => (rd2 h73 h76)))))) (c_end (c_own (g_comp (K := yes) (iUE (sFn (aV (v_var (i := 0)) (aE (sCall (rC (oW (i := 7) fun r84 h85 => (rN (rEnd (rdc h85 rdn)))))) fun t86 => (aN fEnd))))) (fun _ => trivial) (by simp only [List.all_cons, List.all_nil, List.getElem?_cons_zero, List.getElem?_cons_succ, List.set_cons_zero, List.set_cons_succ, nO_v, nO_e, nO_j, Bool.and_self]) rfl fun x87 => (sa_nm (sa_nil (g_all (sOp2 (oW (i := 7) fun r88 h89 => (oV (i := 9) fun r90 h91 => (rd2 h89 h91)))) rfl)))) fun row_93 => (c_nxt rfl))) (c_nxt rfl)) (fun | a83, _, rfl => (c_end (c_ex (sLstO (aF (v_frz (i := 7)) (aN lstEnd))) fun p94 => (c_nxt ⟨(some x25), (some share_31), (.val (.fz a83)), j9, rfl⟩))))))))))))) (fun | a24, _, ⟨j5, j6, o7, j9, rfl⟩ => (c_retF (v_frz (i := 4)))))))))
theorem qs__law_rows {x_pot : T} {S S' : List Ob} {r : R T} (h : q__law_rows x_pot S = some (r, S')) : m__law_rows [x_pot] S = some (r, S') := fn_sim (n := 10) (ts := [x_pot]) (sb__law_rows x_pot) h
noncomputable def qb__law_all_orders (x_names : T) : Q (F Unit Unit) :=
    (qSeq (qB (qIt x_names) fun l41 => qFor (fun x4 a2 => (qB (qP []) fun more_5 => (qSeq (qB (qIt a2) fun l40 => qFor (fun x8 a6 => (qB (qB (qB (qB (qB (qB (qCall lenO [x8]) fun t13 => (qOp2 addU t13 (.int 1))) fun t16 => (qRange t16)) (qComp fun x17 => (qB (qB (qB (qB (qI x17) fun i20 => (qSl slU x8 none (some i20))) fun t23 => (qOp2 addU t23 (.fz [x4]))) fun t28 => (qB (qB (qI x17) fun i31 => (qSl slU x8 (some i31) none)) fun t34 => (qOp2 addU t28 t34))) fun y35 => qP (some y35)))) fun l36 => qP (.fz l36)) fun t37 => (qO (extendF a6 [t37]))) fun p38 => (qP (.nxt p38.1)))) l40 more_5) fun a7 => (qP (.nxt (.fz a7)))))) l41 (.fz [(.fz [])])) fun a3 => (qP (.ret a3)))
noncomputable def q__law_all_orders (x_names : T) : Q T := qFn (qb__law_all_orders x_names)
theorem sb__law_all_orders (x_names : T) : SC (fun _ => True) (b__law_all_orders) [.val x_names, .emp, .emp, .emp, .emp, .emp] (qb__law_all_orders x_names) (fun (_ : Unit) _ => True) (fun (_ : Unit) _ => False) := by
  unfold b__law_all_orders qb__law_all_orders
  exact (c_letV (v_lst (v_aC (v_lst v_aN) v_aN)) (c_seq (c_for (K := yes) (L := fun (a : T) s => ∃ (j2 : Option T) (o3 : Sl) (j4 : Option T), s = [.val x_names, .val a, jS j2, o3, jS j4, .emp]) (iUV (v_var (i := 0))) ⟨none, (.emp), none, rfl⟩ (fun _ _ _ _ => trivial) (fun | x4, a2, _, ⟨j2, o3, j4, rfl⟩ => (sa_nm (sa_nil (c_own (sLst (aN lEnd)) fun more_5 => (c_seq (c_for (K := yes) (L := fun (a : List T) s => ∃ (j4 : Option T), s = [.val x_names, .val a2, .val x4, .own (.lst a), jS j4, .emp]) (iUV (v_var (i := 1))) ⟨j4, rfl⟩ (fun _ _ _ _ => trivial) (fun | x8, a6, _, ⟨j4, rfl⟩ => (sa_nm (sa_nil (c_end (c_ex (sLstO (aE (sFz (g_comp (K := yes) (sRange (aE (sOp2 (oG (sCall (rC (oV (i := 4) fun r9 h10 => (rN (rEnd (rdc h10 rdn)))))) fun t13 r11 h12 => (oC v_con fun r14 h15 => (rd2 h12 h15)))) fun t16 => (aN (rgEnd (t := t16))))) (fun _ => trivial) (by simp only [List.all_cons, List.all_nil, List.getElem?_cons_zero, List.getElem?_cons_succ, List.set_cons_zero, List.set_cons_succ, nO_v, nO_e, nO_j, Bool.and_self]) rfl fun x17 => (sa_nm (sa_nil (g_all (sOp2 (oG (sOp2 (oG (sSlU (oV (i := 4) fun r18 h19 => (pN (pT (v_var (i := 5)) fun i20 => (slEnd h19))))) fun t23 r21 h22 => (oC (v_lst (v_aC (v_var (i := 2)) v_aN)) fun r24 h25 => (rd2 h22 h25)))) fun t28 r26 h27 => (oG (sSlU (oV (i := 4) fun r29 h30 => (pT (v_var (i := 5)) fun i31 => (pN (slEnd h30))))) fun t34 r32 h33 => (rd2 h27 h33)))) rfl))))) fun t37 => (aN lstEnd))) fun p38 => (c_nxt ⟨(some x8), rfl⟩))))))) (fun | a7, _, ⟨j4, rfl⟩ => (c_end (c_letF (v_frz (i := 3)) (c_nxt ⟨(some x4), (.val (.fz a7)), j4, rfl⟩)))))))))) (fun | a3, _, ⟨j2, o3, j4, rfl⟩ => (c_retV (v_var (i := 1))))))
theorem qs__law_all_orders {x_names : T} {S S' : List Ob} {r : R T} (h : q__law_all_orders x_names S = some (r, S')) : m__law_all_orders [x_names] S = some (r, S') := fn_sim (n := 6) (ts := [x_names]) (sb__law_all_orders x_names) h
noncomputable def qb__law_keeps (x_order x_rows : T) : Q (F Unit Unit) :=
    (qSeq (qB (qIt x_rows) fun l17 => qFor (fun x3 _ => (qB (qB (qB (qB (qB (qIt x_order) (qComp fun x4 => (qB (qB (qOp2 inU x4 x3) qTr) fun b9 => if b9 then qP (some x4) else qP none))) fun l10 => qP (.fz l10)) fun t13 => (qOp2 neT t13 x3)) qTr) fun b16 => if b16 then (qP (.ret (.bl false))) else (qP (.nxt ())))) l17 ()) fun _ => (qP (.ret (.bl true))))
noncomputable def q__law_keeps (x_order x_rows : T) : Q T := qFn (qb__law_keeps x_order x_rows)
theorem sb__law_keeps (x_order x_rows : T) : SC (fun _ => True) (b__law_keeps) [.val x_order, .val x_rows, .emp, .emp] (qb__law_keeps x_order x_rows) (fun (_ : Unit) _ => True) (fun (_ : Unit) _ => False) := by
  unfold b__law_keeps qb__law_keeps
  exact (c_seq (c_for (K := yes) (L := fun (a : Unit) s => ∃ (j2 : Option T), s = [.val x_order, .val x_rows, jS j2, .emp]) (iUV (v_var (i := 1))) ⟨none, rfl⟩ (fun _ _ _ _ => trivial) (fun | x3, _, _, ⟨j2, rfl⟩ => (sa_nm (sa_nil (c_if (tB (sOp2 (oG (sFz (g_comp (K := yes) (iUV (v_var (i := 0))) (fun _ => trivial) (by simp only [List.all_cons, List.all_nil, List.getElem?_cons_zero, List.getElem?_cons_succ, List.set_cons_zero, List.set_cons_succ, nO_v, nO_e, nO_j, Bool.and_self]) rfl fun x4 => (sa_nm (sa_nil (g_ifV (tB (sOp2 (oV (i := 3) fun r5 h6 => (oV (i := 2) fun r7 h8 => (rd2 h6 h8))))) (v_var (i := 3)) rfl))))) fun t13 r11 h12 => (oV (i := 2) fun r14 h15 => (rd2 h12 h15))))) (c_any (c_retV v_con)) (c_nxt ⟨(some x3), rfl⟩)))))) (fun | _, _, ⟨j2, rfl⟩ => (c_retV v_con)))
theorem qs__law_keeps {x_order x_rows : T} {S S' : List Ob} {r : R T} (h : q__law_keeps x_order x_rows S = some (r, S')) : m__law_keeps [x_order, x_rows] S = some (r, S') := fn_sim (n := 4) (ts := [x_order, x_rows]) (sb__law_keeps x_order x_rows) h
noncomputable def qb__law_no_ring (x_rows : T) : Q (F Unit Unit) :=
    (qB (qP []) fun known_1 => (qSeq (qB (qEnum x_rows) fun l56 => qFor (fun x4 a2 => (un2 x4 fun x5 x6 => (qB (qB (qB (qB (qB (qB (qCall lenO [x6]) fun t11 => (qOp2 subO t11 (.int 1))) fun t14 => (qRange t14)) (qComp fun x15 => (qB (qB (qOp2 ixU x6 x15) fun t24 => (qB (qB (qOp2 addU x15 (.int 1)) fun t33 => (qOp2 ixU x6 t33)) fun t34 => (qP (.tup [t24, t34, x5])))) fun y35 => qP (some y35)))) fun l36 => qP (.fz l36)) fun t37 => (qO (extendF a2 [t37]))) fun p38 => (qP (.nxt p38.1))))) l56 known_1) fun a3 => (qSeq (qB (qIt (.fz a3)) fun l55 => qFor (fun x41 _ => (qB (qB (m_is_ring [x_rows, (.fz [x41])]) qTr) fun b42 => if b42 then (qP (.ret (.bl false))) else (qSeq (qB (qIt (.fz a3)) fun l54 => qFor (fun x45 _ => (qB (qB (m_is_ring [x_rows, (.fz [x41, x45])]) qTr) fun b46 => if b46 then (qP (.ret (.bl false))) else (qSeq (qB (qB (qSl slU (.fz a3) none (some 6)) qIt) fun l53 => qFor (fun x51 _ => (qB (qB (m_is_ring [x_rows, (.fz [x41, x45, x51])]) qTr) fun b52 => if b52 then (qP (.ret (.bl false))) else (qP (.nxt ())))) l53 ()) fun _ => (qP (.nxt ()))))) l54 ()) fun _ => (qP (.nxt ()))))) l55 ()) fun _ => (qP (.ret (.bl true))))))
noncomputable def q__law_no_ring (x_rows : T) : Q T := qFn (qb__law_no_ring x_rows)
theorem sb__law_no_ring (x_rows : T) : SC (fun _ => True) (b__law_no_ring) [.val x_rows, .emp, .emp, .emp, .emp, .emp, .emp, .emp] (qb__law_no_ring x_rows) (fun (_ : Unit) _ => True) (fun (_ : Unit) _ => False) := by
  unfold b__law_no_ring qb__law_no_ring
  exact (c_own (sLst (aN lEnd)) fun known_1 => (c_seq (c_for (K := yes) (L := fun (a : List T) s => ∃ (j2 : Option T) (j3 : Option T), s = [.val x_rows, .own (.lst a), jS j2, jS j3, .emp, .emp, .emp, .emp]) (sEnum (aV (v_var (i := 0)) (aN (enEnd (t := x_rows))))) ⟨none, none, rfl⟩ (fun _ _ _ _ => trivial) (fun | x4, a2, _, ⟨j2, j3, rfl⟩ => (sa_2 fun x5 x6 => (sa_nm (sa_nm (sa_nil (c_end (c_ex (sLstO (aE (sFz (g_comp (K := yes) (sRange (aE (sOp2 (oG (sCall (rC (oV (i := 3) fun r7 h8 => (rN (rEnd (rdc h8 rdn)))))) fun t11 r9 h10 => (oC v_con fun r12 h13 => (rd2 h10 h13)))) fun t14 => (aN (rgEnd (t := t14))))) (fun _ => trivial) (by simp only [List.all_cons, List.all_nil, List.getElem?_cons_zero, List.getElem?_cons_succ, List.set_cons_zero, List.set_cons_succ, nO_v, nO_e, nO_j, Bool.and_self]) rfl fun x15 => (sa_nm (sa_nil (g_all (sTup (aE (sOp2 (oV (i := 3) fun r20 h21 => (oV (i := 4) fun r22 h23 => (rd2 h21 h23)))) fun t24 => (aE (sOp2 (oV (i := 3) fun r25 h26 => (oG (sOp2 (oV (i := 4) fun r27 h28 => (oC v_con fun r29 h30 => (rd2 h28 h30)))) fun t33 r31 h32 => (rd2 h26 h32)))) fun t34 => (aV (v_var (i := 2)) (aN tEndV))))) rfl))))) fun t37 => (aN lstEnd))) fun p38 => (c_nxt ⟨(some x5), (some x6), rfl⟩))))))))) (fun | a3, _, ⟨j2, j3, rfl⟩ => (c_seq (c_for (K := yes) (L := fun (a : Unit) s => ∃ (j5 : Option T) (j6 : Option T) (j7 : Option T), s = [.val x_rows, .val (.fz a3), jS j2, jS j3, .emp, jS j5, jS j6, jS j7]) (iUF (v_fr (i := 1))) ⟨none, none, none, rfl⟩ (fun _ _ _ _ => trivial) (fun | x41, _, _, ⟨j5, j6, j7, rfl⟩ => (sa_nm (sa_nil (c_ifr (tB (sFn (aV (v_var (i := 0)) (aV (v_lst (v_aC (v_var (i := 5)) v_aN)) (aN fEnd))))) (c_exit (c_retV v_con)) (c_skip (c_end (c_seq (c_for (K := yes) (L := fun (a : Unit) s => ∃ (j6 : Option T) (j7 : Option T), s = [.val x_rows, .val (.fz a3), jS j2, jS j3, .emp, .val x41, jS j6, jS j7]) (iUV (v_frV (i := 1))) ⟨j6, j7, rfl⟩ (fun _ _ _ _ => trivial) (fun | x45, _, _, ⟨j6, j7, rfl⟩ => (sa_nm (sa_nil (c_ifr (tB (sFn (aV (v_var (i := 0)) (aV (v_lst (v_aC (v_var (i := 5)) (v_aC (v_var (i := 6)) v_aN))) (aN fEnd))))) (c_exit (c_retV v_con)) (c_skip (c_end (c_seq (c_for (K := yes) (L := fun (a : Unit) s => ∃ (j7 : Option T), s = [.val x_rows, .val (.fz a3), jS j2, jS j3, .emp, .val x41, .val x45, jS j7]) (iUE (sSlU (oV (i := 1) fun r47 h48 => (pN (pV v_con (slEnd h48)))))) ⟨j7, rfl⟩ (fun _ _ _ _ => trivial) (fun | x51, _, _, ⟨j7, rfl⟩ => (sa_nm (sa_nil (c_if (tB (sFn (aV (v_var (i := 0)) (aV (v_lst (v_aC (v_var (i := 5)) (v_aC (v_var (i := 6)) (v_aC (v_var (i := 7)) v_aN)))) (aN fEnd))))) (c_any (c_retV v_con)) (c_nxt ⟨(some x51), rfl⟩)))))) (fun | _, _, ⟨j7, rfl⟩ => (c_nxt ⟨(some x45), j7, rfl⟩)))))))))) (fun | _, _, ⟨j6, j7, rfl⟩ => (c_nxt ⟨(some x41), j6, j7, rfl⟩)))))))))) (fun | _, _, ⟨j5, j6, j7, rfl⟩ => (c_retV v_con))))))
theorem qs__law_no_ring {x_rows : T} {S S' : List Ob} {r : R T} (h : q__law_no_ring x_rows S = some (r, S')) : m__law_no_ring [x_rows] S = some (r, S') := fn_sim (n := 8) (ts := [x_rows]) (sb__law_no_ring x_rows) h
noncomputable def qb__law_right (x_rows : T) : Q (F Unit Unit) :=
    (qSeq (qB (qIt x_rows) fun l103 => qFor (fun x4 a2 => (qB (qB (qB (qB (qIt x4) (qComp fun x7 => (qB (qB (qOp2 ninU x7 a2) qTr) fun b12 => if b12 then qP (some x7) else qP none))) fun l13 => qP (.fz l13)) fun t16 => (qOp2 addU a2 t16)) fun names_17 => (qP (.nxt names_17)))) l103 (.fz [])) fun a3 => (qB (m_merge [x_rows]) fun found_18 => (qSeq (qB (qB (qB (qOp2 ixU found_18 (.int 0)) fun t25 => (qOp2 eqT t25 (.str [114, 105, 110, 103]))) qTr) fun b28 => if b28 then (qB (qB (qB (qOp2 ixU found_18 (.int 1)) fun t34 => (m_is_ring [x_rows, t34])) fun t37 => (qOp2 isBO t37 (.bl true))) fun right_40 => (qP (.nxt right_40))) else (qB (qB (qB (qB (qB (qB (qOp2 ixU found_18 (.int 1)) fun t56 => (qCall sortO [t56])) fun l57 => qP (.fz l57)) fun t60 => (qB (qB (qCall sortO [a3]) fun l63 => qP (.fz l63)) fun t66 => (qOp2 eqT t60 t66))) qTr) fun b67 => if b67 then (qB (qB (qB (qOp2 ixU found_18 (.int 1)) fun t48 => (m__law_keeps [t48, x_rows])) qTr) fun b49 => if b49 then (qB (qSl slU x_rows none (some 4)) fun t43 => (m__law_no_ring [t43])) else qP (.bl false)) else qP (.bl false)) fun right_68 => (qP (.nxt right_68)))) fun a29 => (qSeq (qB (qB (qB (qCall lenO [a3]) fun t73 => (qOp2 ltO t73 (.int 6))) qTr) fun b76 => if b76 then (qB (qB (qB (qB (m__law_all_orders [a3]) qIt) (qComp fun x78 => (qB (qB (m__law_keeps [x78, x_rows]) qTr) fun b79 => if b79 then qP (some x78) else qP none))) fun l80 => qP (.fz l80)) fun orders_81 => (qB (qB (qB (qP a29) qTr) fun b101 => if b101 then (qB (qOp2 neT orders_81 (.fz [])) fun t88 => (qB (qB (qOp2 ixU found_18 (.int 0)) fun t95 => (qOp2 eqT t95 (.str [108, 105, 110, 101]))) fun t100 => (qOp2 eqT t88 t100))) else qP (.bl false)) fun right_102 => (qP (.nxt right_102)))) else (qP (.nxt a29))) fun a77 => (qP (.ret a77))))))
noncomputable def q__law_right (x_rows : T) : Q T := qFn (qb__law_right x_rows)
theorem sb__law_right (x_rows : T) : SC (fun _ => True) (b__law_right) [.val x_rows, .emp, .emp, .emp, .emp, .emp, .emp, .emp] (qb__law_right x_rows) (fun (_ : Unit) _ => True) (fun (_ : Unit) _ => False) := by
  unfold b__law_right qb__law_right
  exact (c_letV (v_lst v_aN) (c_seq (c_for (K := yes) (L := fun (a : T) s => ∃ (j2 : Option T), s = [.val x_rows, .val a, jS j2, .emp, .emp, .emp, .emp, .emp]) (iUV (v_var (i := 0))) ⟨none, rfl⟩ (fun _ _ _ _ => trivial) (fun | x4, a2, _, ⟨j2, rfl⟩ => (sa_nm (sa_nil (c_end (c_let (sOp2 (oV (i := 1) fun r5 h6 => (oG (sFz (g_comp (K := yes) (iUV (v_var (i := 2))) (fun _ => trivial) (by simp only [List.all_cons, List.all_nil, List.getElem?_cons_zero, List.getElem?_cons_succ, List.set_cons_zero, List.set_cons_succ, nO_v, nO_e, nO_j, Bool.and_self]) rfl fun x7 => (sa_nm (sa_nil (g_ifV (tB (sOp2 (oV (i := 3) fun r8 h9 => (oV (i := 1) fun r10 h11 => (rd2 h9 h11))))) (v_var (i := 3)) rfl))))) fun t16 r14 h15 => (rd2 h6 h15)))) fun names_17 => (c_nxt ⟨(some x4), rfl⟩))))))) (fun | a3, _, ⟨j2, rfl⟩ => (c_let (sFn (aV (v_var (i := 0)) (aN fEnd))) fun found_18 => (c_seq (A := fun (a : T) s => s = [.val x_rows, .val a3, jS j2, .emp, .val found_18, .val a, .emp, .emp]) (c_if (tB (sOp2 (oG (sOp2 (oV (i := 4) fun r19 h20 => (oC v_con fun r21 h22 => (rd2 h20 h22)))) fun t25 r23 h24 => (oC v_con fun r26 h27 => (rd2 h24 h27))))) (c_end (c_let (sOp2 (oG (sFn (aV (v_var (i := 0)) (aE (sOp2 (oV (i := 4) fun r30 h31 => (oC v_con fun r32 h33 => (rd2 h31 h33)))) fun t34 => (aN fEnd)))) fun t37 r35 h36 => (oC v_con fun r38 h39 => (rd2 h36 h39)))) fun right_40 => (c_nxt rfl))) (c_end (c_let (sAnd (sOp2 (oG (sFz (sCallL (rC (oG (sOp2 (oV (i := 4) fun r50 h51 => (oC v_con fun r52 h53 => (rd2 h51 h53)))) fun t56 r54 h55 => (rN (rEndL (rdc h55 rdn))))))) fun t60 r58 h59 => (oG (sFz (sCallL (rC (oV (i := 1) fun r61 h62 => (rN (rEndL (rdc h62 rdn))))))) fun t66 r64 h65 => (rd2 h59 h65)))) (sAnd (sFn (aE (sOp2 (oV (i := 4) fun r44 h45 => (oC v_con fun r46 h47 => (rd2 h45 h47)))) fun t48 => (aV (v_var (i := 0)) (aN fEnd)))) (sFn (aE (sSlU (oV (i := 0) fun r41 h42 => (pN (pV v_con (slEnd h42))))) fun t43 => (aN fEnd))))) fun right_68 => (c_nxt rfl)))) (fun | a29, _, rfl => (c_seq (A := fun (a : T) s => ∃ (j6 : Option T), s = [.val x_rows, .val a3, jS j2, .emp, .val found_18, .val a, jS j6, .emp]) (c_if (tB (sOp2 (oG (sCall (rC (oV (i := 1) fun r69 h70 => (rN (rEnd (rdc h70 rdn)))))) fun t73 r71 h72 => (oC v_con fun r74 h75 => (rd2 h72 h75))))) (c_let (sFz (g_comp (K := yes) (iUE (sFn (aV (v_var (i := 1)) (aN fEnd)))) (fun _ => trivial) (by simp only [List.all_cons, List.all_nil, List.getElem?_cons_zero, List.getElem?_cons_succ, List.set_cons_zero, List.set_cons_succ, nO_v, nO_e, nO_j, Bool.and_self]) rfl fun x78 => (sa_nm (sa_nil (g_ifV (tB (sFn (aV (v_var (i := 7)) (aV (v_var (i := 0)) (aN fEnd))))) (v_var (i := 7)) rfl))))) fun orders_81 => (c_end (c_let (sAnd (eV (v_var (i := 5))) (sOp2 (oG (sOp2 (oV (i := 6) fun r82 h83 => (oC (v_lst v_aN) fun r84 h85 => (rd2 h83 h85)))) fun t88 r86 h87 => (oG (sOp2 (oG (sOp2 (oV (i := 4) fun r89 h90 => (oC v_con fun r91 h92 => (rd2 h90 h92)))) fun t95 r93 h94 => (oC v_con fun r96 h97 => (rd2 h94 h97)))) fun t100 r98 h99 => (rd2 h87 h99))))) fun right_102 => (c_nxt ⟨(some orders_81), rfl⟩)))) (c_nxt ⟨none, rfl⟩)) (fun | a77, _, ⟨j6, rfl⟩ => (c_retV (v_var (i := 5)))))))))))
theorem qs__law_right {x_rows : T} {S S' : List Ob} {r : R T} (h : q__law_right x_rows S = some (r, S')) : m__law_right [x_rows] S = some (r, S') := fn_sim (n := 8) (ts := [x_rows]) (sb__law_right x_rows) h
noncomputable def qb__law_turned_right (x_pot x_rows : T) : Q (F Unit Unit) :=
    (qB (qB (qB (qIt x_rows) (qComp fun x1 => (qB (qB (qB (qCall lenO [x1]) fun t6 => (qOp2 gtO t6 (.int 1))) qTr) fun b9 => if b9 then qP (some x1) else qP none))) fun l10 => qP (.fz l10)) fun wide_11 => (qB (qB (qOp2 eqT wide_11 (.fz [])) qTr) fun b16 => if b16 then (qP (.ret (.bl true))) else (qB (qB (qB (qCall lenO [wide_11]) fun t21 => (m__law_pick [x_pot, t21])) fun t24 => (qOp2 ixU wide_11 t24)) fun row_25 => (qB (qB (qB (qCall lenO [row_25]) fun t30 => (qOp2 subO t30 (.int 1))) fun t33 => (m__law_pick [x_pot, t33])) fun at_34 => (qB (qB (qOp2 addU at_34 (.int 1)) fun t41 => (qB (qB (qB (qB (qCall lenO [row_25]) fun t46 => (qOp2 subO t46 (.int 1))) fun t51 => (qOp2 subO t51 at_34)) fun t54 => (m__law_pick [x_pot, t54])) fun t57 => (qOp2 addU t41 t57))) fun other_58 => (qB (qB (qSl slU x_rows none (some 15)) fun t63 => (qB (qB (qB (qB (qB (qOp2 ixU row_25 other_58) fun t87 => (qB (qOp2 ixU row_25 at_34) fun t92 => (qP [t87, t92]))) fun l93 => qP (.fz l93)) fun t94 => (qP [t94])) fun l95 => qP (.fz l95)) fun t98 => (qOp2 addU t63 t98))) fun more_99 => (qB (qB (qB (qSl slU x_rows none (some 15)) fun t106 => (qOp2 ninU row_25 t106)) qTr) fun b107 => if b107 then (qP (.ret (.bl true))) else (qB (m_merge [more_99]) fun found_108 => (qB (qB (qB (qB (qOp2 ixU found_108 (.int 0)) fun t125 => (qOp2 eqT t125 (.str [114, 105, 110, 103]))) qTr) fun b128 => if b128 then (qB (qB (qOp2 ixU found_108 (.int 1)) fun t113 => (m_is_ring [more_99, t113])) fun t116 => (qOp2 isBO t116 (.bl true))) else qP (.bl false)) fun t129 => qP (.ret t129))))))))))
noncomputable def q__law_turned_right (x_pot x_rows : T) : Q T := qFn (qb__law_turned_right x_pot x_rows)
theorem sb__law_turned_right (x_pot x_rows : T) : SC (fun _ => True) (b__law_turned_right) [.val x_pot, .val x_rows, .emp, .emp, .emp, .emp, .emp, .emp] (qb__law_turned_right x_pot x_rows) (fun (_ : Unit) _ => True) (fun (_ : Unit) _ => False) := by
  unfold b__law_turned_right qb__law_turned_right
  exact (c_let (sFz (g_comp (K := yes) (iUV (v_var (i := 1))) (fun _ => trivial) (by simp only [List.all_cons, List.all_nil, List.getElem?_cons_zero, List.getElem?_cons_succ, List.set_cons_zero, List.set_cons_succ, nO_v, nO_e, nO_j, Bool.and_self]) rfl fun x1 => (sa_nm (sa_nil (g_ifV (tB (sOp2 (oG (sCall (rC (oV (i := 3) fun r2 h3 => (rN (rEnd (rdc h3 rdn)))))) fun t6 r4 h5 => (oC v_con fun r7 h8 => (rd2 h5 h8))))) (v_var (i := 3)) rfl))))) fun wide_11 => (c_ifr (tB (sOp2 (oV (i := 2) fun r12 h13 => (oC (v_lst v_aN) fun r14 h15 => (rd2 h13 h15))))) (c_exit (c_retV v_con)) (c_skip (c_let (sOp2 (oV (i := 2) fun r17 h18 => (oG (sFn (aV (v_var (i := 0)) (aE (sCall (rC (oV (i := 2) fun r19 h20 => (rN (rEnd (rdc h20 rdn)))))) fun t21 => (aN fEnd)))) fun t24 r22 h23 => (rd2 h18 h23)))) fun row_25 => (c_let (sFn (aV (v_var (i := 0)) (aE (sOp2 (oG (sCall (rC (oV (i := 3) fun r26 h27 => (rN (rEnd (rdc h27 rdn)))))) fun t30 r28 h29 => (oC v_con fun r31 h32 => (rd2 h29 h32)))) fun t33 => (aN fEnd)))) fun at_34 => (c_let (sOp2 (oG (sOp2 (oV (i := 4) fun r35 h36 => (oC v_con fun r37 h38 => (rd2 h36 h38)))) fun t41 r39 h40 => (oG (sFn (aV (v_var (i := 0)) (aE (sOp2 (oG (sOp2 (oG (sCall (rC (oV (i := 3) fun r42 h43 => (rN (rEnd (rdc h43 rdn)))))) fun t46 r44 h45 => (oC v_con fun r47 h48 => (rd2 h45 h48)))) fun t51 r49 h50 => (oV (i := 4) fun r52 h53 => (rd2 h50 h53)))) fun t54 => (aN fEnd)))) fun t57 r55 h56 => (rd2 h40 h56)))) fun other_58 => (c_let (sOp2 (oG (sSlU (oV (i := 1) fun r59 h60 => (pN (pV v_con (slEnd h60))))) fun t63 r61 h62 => (oG (sFz (sLst (aE (sFz (sLst (aE (sOp2 (oV (i := 3) fun r83 h84 => (oV (i := 5) fun r85 h86 => (rd2 h84 h86)))) fun t87 => (aE (sOp2 (oV (i := 3) fun r88 h89 => (oV (i := 4) fun r90 h91 => (rd2 h89 h91)))) fun t92 => (aN lEnd))))) fun t94 => (aN lEnd)))) fun t98 r96 h97 => (rd2 h62 h97)))) fun more_99 => (c_ifr (tB (sOp2 (oV (i := 3) fun r100 h101 => (oG (sSlU (oV (i := 1) fun r102 h103 => (pN (pV v_con (slEnd h103))))) fun t106 r104 h105 => (rd2 h101 h105))))) (c_exit (c_retV v_con)) (c_skip (c_let (sFn (aV (v_var (i := 6)) (aN fEnd))) fun found_108 => (c_ret (sAnd (sOp2 (oG (sOp2 (oV (i := 7) fun r119 h120 => (oC v_con fun r121 h122 => (rd2 h120 h122)))) fun t125 r123 h124 => (oC v_con fun r126 h127 => (rd2 h124 h127)))) (sOp2 (oG (sFn (aV (v_var (i := 6)) (aE (sOp2 (oV (i := 7) fun r109 h110 => (oC v_con fun r111 h112 => (rd2 h110 h112)))) fun t113 => (aN fEnd)))) fun t116 r114 h115 => (oC v_con fun r117 h118 => (rd2 h115 h118))))))))))))))))
theorem qs__law_turned_right {x_pot x_rows : T} {S S' : List Ob} {r : R T} (h : q__law_turned_right x_pot x_rows S = some (r, S')) : m__law_turned_right [x_pot, x_rows] S = some (r, S') := fn_sim (n := 8) (ts := [x_pot, x_rows]) (sb__law_turned_right x_pot x_rows) h
noncomputable def qb_law (x_script : T) : Q (F Unit Unit) :=
    (qB (m__law_pot [x_script]) fun pot_1 => (qSeq (qB (qRange (.int 3)) fun l65 => qFor (fun x4 _ => (qB (qB (qB (m__law_pick [pot_1, (.int 5)]) fun t9 => (qOp2 addU (.int 1) t9)) fun t10 => (m__law_names [pot_1, t10])) fun names_11 => (qB (qP []) fun rows_12 => (qSeq (qB (qB (m__law_pick [pot_1, (.int 7)]) fun t13 => (qRange t13)) fun l64 => qFor (fun x16 a14 => (qB (qB (qB (qB (qB (qCall lenO [names_11]) fun t19 => (m__law_order [pot_1, t19])) qIt) (qComp fun x20 => (qB (qOp2 ixU names_11 x20) fun y25 => qP (some y25)))) fun l26 => qP (.fz l26)) fun row_27 => (qB (qB (m__law_pick [pot_1, (.int 4)]) fun t32 => (qOp2 addU (.int 1) t32)) fun share_33 => (qB (qB (qB (qB (m__law_pick [pot_1, (.int 2)]) fun t36 => (qOp2 eqT t36 (.int 0))) qTr) fun b42 => if b42 then (qB (qCall sortO [row_27]) fun l41 => qP (.fz l41)) else (qP row_27)) fun row_43 => (qB (qB (qB (qB (qIt row_43) (qComp fun x44 => (qB (qB (qB (m__law_pick [pot_1, (.int 4)]) fun t47 => (qOp2 ltO t47 share_33)) qTr) fun b50 => if b50 then qP (some x44) else qP none))) fun l51 => qP (.fz l51)) fun t52 => (qO (appendF a14 [t52]))) fun p53 => (qP (.nxt p53.1))))))) l64 rows_12) fun a15 => (qSeq (qB (qB (qB (qB (m__law_rows [pot_1]) fun t54 => (qP [(.fz a15), t54])) fun l55 => qP (.fz l55)) qIt) fun l63 => qFor (fun x58 _ => (qB (qB (qB (qB (m__law_right [x58]) qTr) fun b60 => qP (!b60)) fun b61 => if b61 then qP true else (qB (qB (m__law_turned_right [pot_1, x58]) qTr) fun b59 => qP (!b59))) fun b62 => if b62 then (qP (.ret (.bl false))) else (qP (.nxt ())))) l63 ()) fun _ => (qP (.nxt ()))))))) l65 ()) fun _ => (qP (.ret (.bl true)))))
noncomputable def q_law (x_script : T) : Q T := qFn (qb_law x_script)
theorem sb_law (x_script : T) : SC (fun _ => True) (b_law) [.val x_script, .emp, .emp, .emp, .emp, .emp, .emp, .emp, .emp, .emp, .emp] (qb_law x_script) (fun (_ : Unit) _ => True) (fun (_ : Unit) _ => False) := by
  unfold b_law qb_law
  exact (c_let (sFn (aV (v_var (i := 0)) (aN fEnd))) fun pot_1 => (c_seq (c_for (K := yes) (L := fun (a : Unit) s => ∃ (j2 : Option T) (j3 : Option T) (o4 : Sl) (j5 : Option T) (j6 : Option T) (j8 : Option T) (j10 : Option T), s = [.val x_script, .val pot_1, jS j2, jS j3, o4, jS j5, jS j6, .emp, jS j8, .emp, jS j10]) (sRange (aV v_con (aN (rgEnd (t := (.int 3)))))) ⟨none, none, (.emp), none, none, none, none, rfl⟩ (fun _ _ _ _ => trivial) (fun | x4, _, _, ⟨j2, j3, o4, j5, j6, j8, j10, rfl⟩ => (sa_nm (sa_nil (c_let (sFn (aV (v_var (i := 1)) (aE (sOp2 (oC v_con fun r5 h6 => (oG (sFn (aV (v_var (i := 1)) (aV v_con (aN fEnd)))) fun t9 r7 h8 => (rd2 h6 h8)))) fun t10 => (aN fEnd)))) fun names_11 => (c_own (sLst (aN lEnd)) fun rows_12 => (c_seq (c_for (K := yes) (L := fun (a : List T) s => ∃ (j5 : Option T) (j6 : Option T) (j8 : Option T), s = [.val x_script, .val pot_1, .val x4, .val names_11, .own (.lst a), jS j5, jS j6, .emp, jS j8, .emp, jS j10]) (sRange (aE (sFn (aV (v_var (i := 1)) (aV v_con (aN fEnd)))) fun t13 => (aN (rgEnd (t := t13))))) ⟨j5, j6, j8, rfl⟩ (fun _ _ _ _ => trivial) (fun | x16, a14, _, ⟨j5, j6, j8, rfl⟩ => (sa_nm (sa_nil (c_let (sFz (g_comp (K := yes) (iUE (sFn (aV (v_var (i := 1)) (aE (sCall (rC (oV (i := 3) fun r17 h18 => (rN (rEnd (rdc h18 rdn)))))) fun t19 => (aN fEnd))))) (fun _ => trivial) (by simp only [List.all_cons, List.all_nil, List.getElem?_cons_zero, List.getElem?_cons_succ, List.set_cons_zero, List.set_cons_succ, nO_v, nO_e, nO_j, Bool.and_self]) rfl fun x20 => (sa_nm (sa_nil (g_all (sOp2 (oV (i := 3) fun r21 h22 => (oV (i := 7) fun r23 h24 => (rd2 h22 h24)))) rfl))))) fun row_27 => (c_let (sOp2 (oC v_con fun r28 h29 => (oG (sFn (aV (v_var (i := 1)) (aV v_con (aN fEnd)))) fun t32 r30 h31 => (rd2 h29 h31)))) fun share_33 => (c_let (sIf (tB (sOp2 (oG (sFn (aV (v_var (i := 1)) (aV v_con (aN fEnd)))) fun t36 r34 h35 => (oC v_con fun r37 h38 => (rd2 h35 h38))))) (sFz (sCallL (rC (oV (i := 6) fun r39 h40 => (rN (rEndL (rdc h40 rdn))))))) (eV (v_var (i := 6)))) fun row_43 => (c_end (c_ex (sLstO (aE (sFz (g_comp (K := yes) (iUV (v_var (i := 6))) (fun _ => trivial) (by simp only [List.all_cons, List.all_nil, List.getElem?_cons_zero, List.getElem?_cons_succ, List.set_cons_zero, List.set_cons_succ, nO_v, nO_e, nO_j, Bool.and_self]) rfl fun x44 => (sa_nm (sa_nil (g_ifV (tB (sOp2 (oG (sFn (aV (v_var (i := 1)) (aV v_con (aN fEnd)))) fun t47 r45 h46 => (oV (i := 8) fun r48 h49 => (rd2 h46 h49))))) (v_var (i := 9)) rfl))))) fun t52 => (aN lstEnd))) fun p53 => (c_nxt ⟨(some x16), (some row_43), (some share_33), rfl⟩)))))))))) (fun | a15, _, ⟨j5, j6, j8, rfl⟩ => (c_end (c_seq (c_for (K := yes) (L := fun (a : Unit) s => ∃ (j10 : Option T), s = [.val x_script, .val pot_1, .val x4, .val names_11, .val (.fz a15), jS j5, jS j6, .emp, jS j8, .emp, jS j10]) (iUE (sFz (sLst (aF (v_frz (i := 4)) (aE (sFn (aV (v_var (i := 1)) (aN fEnd))) fun t54 => (aN lEnd)))))) ⟨j10, rfl⟩ (fun _ _ _ _ => trivial) (fun | x58, _, _, ⟨j10, rfl⟩ => (sa_nm (sa_nil (c_if (tOr (tNot (tB (sFn (aV (v_var (i := 10)) (aN fEnd))))) (tNot (tB (sFn (aV (v_var (i := 1)) (aV (v_var (i := 10)) (aN fEnd))))))) (c_any (c_retV v_con)) (c_nxt ⟨(some x58), rfl⟩)))))) (fun | _, _, ⟨j10, rfl⟩ => (c_nxt ⟨(some x4), (some names_11), (.val (.fz a15)), j5, j6, j8, j10, rfl⟩)))))))))))) (fun | _, _, ⟨j2, j3, o4, j5, j6, j8, j10, rfl⟩ => (c_retV v_con))))
theorem qs_law {x_script : T} {S S' : List Ob} {r : R T} (h : q_law x_script S = some (r, S')) : m_law [x_script] S = some (r, S') := fn_sim (n := 11) (ts := [x_script]) (sb_law x_script) h
end Lw
namespace Lw
open PySem PySem.Spec PyProof.Rows L2 Sw Classical
def I31 (t : T) : Prop := ∃ r : Int, t = .int r ∧ 0 ≤ r ∧ r < 2147483648
theorem i31_mod {i j : Int} (h : 0 < j) (k : j < 2147483648) : I31 (.int (i % j)) := ⟨_, rfl, Int.emod_nonneg _ (by omega), by have := Int.emod_lt_of_pos i h; omega⟩
theorem blend_ok {S : List Ob} {cell at_ : Int} (ha : 0 ≤ at_) : Fw m__law_blend [.int cell, .int at_] S (fun t S' => S' = S ∧ ∃ r : Int, t = .int r ∧ 0 ≤ r) := by
  unfold m__law_blend
  rw [Fw_fnM]
  unfold b__law_blend
  rw [W_cSeq]
  simp only [W_cIf, W_asB, W_eOp2, W_oVar, W_oE, W_pure, List.getElem?_cons_zero, List.getElem?_cons_succ, List.getElem?_nil, List.set_cons_zero, List.set_cons_succ, List.map_cons, List.map_nil, List.cons_append, List.nil_append, List.length_cons, List.length_nil, Option.getD_some, Bool.and_true, Bool.and_self, Option.bind_some, Option.map_some, List.replicate_succ, List.replicate_zero, decide_eq_true_eq, Bool.not_true, Bool.not_false, Bool.not_eq_true', if_true, if_false, reduceIte, reduceCtorEq, Nat.reduceAdd, Nat.reduceSub, Nat.reduceLeDiff, true_and, and_true, ix_n, ix_0, ix_1, ix_2, ix_t0, ix_t1, ix_t2, set_1, set_2, add_i, sub_i, mod_i, div_i, lt_i, le_i, gt_i, ge_i, eq_i, ne_i, p1018, p1017, rVar, peekS, peekT, Op_some, Bw_bl, W_cRet, W_eVar, List.length_cons]
  split
  · rename_i h
    exact ⟨cell, rfl, by omega⟩
  refine W_let I31 ?_ ?_
  · simp (disch := decide) only [W_cIf, W_asB, W_eOp2, W_oVar, W_oE, W_pure, List.getElem?_cons_zero, List.getElem?_cons_succ, List.getElem?_nil, List.set_cons_zero, List.set_cons_succ, List.map_cons, List.map_nil, List.cons_append, List.nil_append, List.length_cons, List.length_nil, Option.getD_some, Bool.and_true, Bool.and_self, Option.bind_some, Option.map_some, List.replicate_succ, List.replicate_zero, decide_eq_true_eq, Bool.not_true, Bool.not_false, Bool.not_eq_true', if_true, if_false, reduceIte, reduceCtorEq, Nat.reduceAdd, Nat.reduceSub, Nat.reduceLeDiff, true_and, and_true, ix_n, ix_0, ix_1, ix_2, ix_t0, ix_t1, ix_t2, set_1, set_2, add_i, sub_i, mod_i, div_i, lt_i, le_i, gt_i, ge_i, eq_i, ne_i, p1018, p1017, rVar, peekS, peekT, Op_some, mul_r, mod_i]
    exact i31_mod (by decide) (by decide)
  rintro _ ⟨one, rfl, h1, h2⟩
  refine W_let I31 ?_ ?_
  · simp (disch := decide) only [W_cIf, W_asB, W_eOp2, W_oVar, W_oE, W_pure, List.getElem?_cons_zero, List.getElem?_cons_succ, List.getElem?_nil, List.set_cons_zero, List.set_cons_succ, List.map_cons, List.map_nil, List.cons_append, List.nil_append, List.length_cons, List.length_nil, Option.getD_some, Bool.and_true, Bool.and_self, Option.bind_some, Option.map_some, List.replicate_succ, List.replicate_zero, decide_eq_true_eq, Bool.not_true, Bool.not_false, Bool.not_eq_true', if_true, if_false, reduceIte, reduceCtorEq, Nat.reduceAdd, Nat.reduceSub, Nat.reduceLeDiff, true_and, and_true, ix_n, ix_0, ix_1, ix_2, ix_t0, ix_t1, ix_t2, set_1, set_2, add_i, sub_i, mod_i, div_i, lt_i, le_i, gt_i, ge_i, eq_i, ne_i, p1018, p1017, rVar, peekS, peekT, Op_some, mul_r, mod_i, @mul_r one one (by omega) (by omega)]
    exact i31_mod (by decide) (by decide)
  rintro _ ⟨two, rfl, h3, h4⟩
  refine W_let I31 ?_ ?_
  · simp (disch := decide) only [W_cIf, W_asB, W_eOp2, W_oVar, W_oE, W_pure, List.getElem?_cons_zero, List.getElem?_cons_succ, List.getElem?_nil, List.set_cons_zero, List.set_cons_succ, List.map_cons, List.map_nil, List.cons_append, List.nil_append, List.length_cons, List.length_nil, Option.getD_some, Bool.and_true, Bool.and_self, Option.bind_some, Option.map_some, List.replicate_succ, List.replicate_zero, decide_eq_true_eq, Bool.not_true, Bool.not_false, Bool.not_eq_true', if_true, if_false, reduceIte, reduceCtorEq, Nat.reduceAdd, Nat.reduceSub, Nat.reduceLeDiff, true_and, and_true, ix_n, ix_0, ix_1, ix_2, ix_t0, ix_t1, ix_t2, set_1, set_2, add_i, sub_i, mod_i, div_i, lt_i, le_i, gt_i, ge_i, eq_i, ne_i, p1018, p1017, rVar, peekS, peekT, Op_some, mul_r, mod_i, @mul_r two two (by omega) (by omega)]
    exact i31_mod (by decide) (by decide)
  rintro _ ⟨three, rfl, h5, h6⟩
  simp (disch := decide) only [W_cRet, W_cIf, W_asB, W_eOp2, W_oVar, W_oE, W_pure, List.getElem?_cons_zero, List.getElem?_cons_succ, List.getElem?_nil, List.set_cons_zero, List.set_cons_succ, List.map_cons, List.map_nil, List.cons_append, List.nil_append, List.length_cons, List.length_nil, Option.getD_some, Bool.and_true, Bool.and_self, Option.bind_some, Option.map_some, List.replicate_succ, List.replicate_zero, decide_eq_true_eq, Bool.not_true, Bool.not_false, Bool.not_eq_true', if_true, if_false, reduceIte, reduceCtorEq, Nat.reduceAdd, Nat.reduceSub, Nat.reduceLeDiff, true_and, and_true, ix_n, ix_0, ix_1, ix_2, ix_t0, ix_t1, ix_t2, set_1, set_2, add_i, sub_i, mod_i, div_i, lt_i, le_i, gt_i, ge_i, eq_i, ne_i, p1018, p1017, rVar, peekS, peekT, Op_some, mul_r]
  refine ⟨_, rfl, ?_⟩
  omega
def PickR (p : Nat) (n : Int) (S : List Ob) (t : T) (S' : List Ob) : Prop := Pt p S S' ∧ ∃ x : Int, t = .int x ∧ 0 ≤ x ∧ x < n
/-- a pot as it stands -/
def PotAt (p : Nat) (S S' : List Ob) (a r : Int) : Prop := Pt p S S' ∧ 0 ≤ a ∧ 0 ≤ r ∧ ∃ cs : List Int, S'[p]? = some (.lst [.fz (cs.map .int), .int a, .int r])
theorem PotAt.set {p : Nat} {S S' : List Ob} {a r a' r' : Int} {cs : List Int} (h : PotAt p S S' a r) (ha : 0 ≤ a') (hr : 0 ≤ r') : PotAt p S (S'.set p (.lst [.fz (cs.map .int), .int a', .int r'])) a' r' := by
  obtain ⟨h1, h2, h3, _⟩ := h
  refine ⟨h1.trans (.set h1.1 ⟨cs, a', r', rfl, ha, hr⟩), ha, hr, cs, ?_⟩
  rw [List.getElem?_set_self h1.1.lt]
theorem pick_ok {S : List Ob} {p : Nat} {n : Int} (h : IsPot S p) (hn : 0 < n) (hm : n ≤ 100000) : Fw m__law_pick [.ref p, .int n] S (PickR p n S) := by
  have hS := Pt.refl h
  obtain ⟨ob, hp, cs, at_, rest, rfl, ha, hr⟩ := h
  have h0 : PotAt p S S at_ rest := ⟨hS, ha, hr, cs, hp⟩
  unfold m__law_pick
  rw [Fw_fnM]
  unfold b__law_pick
  refine W_seq (fun st1 => ∃ s2 s3 S1 a r, st1 = ⟨[.val (.ref p), .val (.int n), s2, s3, .emp], S1⟩ ∧ PotAt p S S1 a r) ?_ ?_
  · simp only [W_cIf, W_asB, W_eOp2, W_oVar, W_oE, W_pure, List.getElem?_cons_zero, List.getElem?_cons_succ, List.getElem?_nil, List.set_cons_zero, List.set_cons_succ, List.map_cons, List.map_nil, List.cons_append, List.nil_append, List.length_cons, List.length_nil, Option.getD_some, Bool.and_true, Bool.and_self, Option.bind_some, Option.map_some, List.replicate_succ, List.replicate_zero, decide_eq_true_eq, Bool.not_true, Bool.not_false, Bool.not_eq_true', if_true, if_false, reduceIte, reduceCtorEq, Nat.reduceAdd, Nat.reduceSub, Nat.reduceLeDiff, true_and, and_true, ix_n, ix_0, ix_1, ix_2, ix_t0, ix_t1, ix_t2, set_1, set_2, add_i, sub_i, mod_i, div_i, lt_i, le_i, gt_i, ge_i, eq_i, ne_i, p1018, p1017, rVar, peekS, peekT, Op_some, Bw_bl, hp]
    split
    · refine W_let (fun t => t = .int at_) ?_ ?_
      · simp only [W_pure, W_ofO, W_eVar, W_oVar, W_eFrz, W_oE, W_eOp2, W_eChain, W_asB, W_bNot, W_bAnd, W_bOr, W_eNot, W_eAnd, W_eOr, W_eIf, W_eNeg, W_aNil, W_aCons, W_oNil, W_oCons, W_eTup, W_fLst, W_eFz, W_eBox, W_fDic, W_eCall, W_fCall, W_pNo, W_pSome, W_eSliceU, W_fSlice, W_fRev, W_eLst, W_eLst0, W_mVar, W_mRef, W_eMeth, W_eFn, W_cSeq, W_cRet, W_cExpr, W_cIf, W_cSet, W_cOwn, W_cUnp, W_cSetIx, W_cPut, W_iU, W_iVar, W_iRange, W_iEnumU, W_iZipU, W_cFor, W_bYes, Op_some, Op_none, Op_ite, Op_map, Op_bind, Op_rdAll, rdAll_nil, Bw_bl, rVar, peekS, peekT, pVar, pRef, Lw_lst, setS, lstAt_fz, lenO_fz, lenO_str, list_fz, wipe_1, wipe_2, rest_1, rest_2, List.all_cons, List.all_nil, notOwn, W_fComp, asg_2, asg_n, turn_n, turn_c, turn_b, turn_r, List.getElem?_cons_zero, List.getElem?_cons_succ, List.getElem?_nil, List.set_cons_zero, List.set_cons_succ, List.map_cons, List.map_nil, List.cons_append, List.nil_append, List.length_cons, List.length_nil, Option.getD_some, Bool.and_true, Bool.and_self, Option.bind_some, Option.map_some, List.replicate_succ, List.replicate_zero, decide_eq_true_eq, Bool.not_true, Bool.not_false, Bool.not_eq_true', if_true, if_false, reduceIte, reduceCtorEq, Nat.reduceAdd, Nat.reduceSub, Nat.reduceLeDiff, true_and, and_true, ix_n, ix_0, ix_1, ix_2, ix_t0, ix_t1, ix_t2, set_1, set_2, add_i, sub_i, mod_i, div_i, lt_i, le_i, gt_i, ge_i, eq_i, ne_i, p1018, p1017, hp]
      rintro _ rfl
      refine W_let (fun t => ∃ c : Int, t = .int c) ?_ ?_
      · simp (disch := decide) only [W_pure, W_ofO, W_eVar, W_oVar, W_eFrz, W_oE, W_eOp2, W_eChain, W_asB, W_bNot, W_bAnd, W_bOr, W_eNot, W_eAnd, W_eOr, W_eIf, W_eNeg, W_aNil, W_aCons, W_oNil, W_oCons, W_eTup, W_fLst, W_eFz, W_eBox, W_fDic, W_eCall, W_fCall, W_pNo, W_pSome, W_eSliceU, W_fSlice, W_fRev, W_eLst, W_eLst0, W_mVar, W_mRef, W_eMeth, W_eFn, W_cSeq, W_cRet, W_cExpr, W_cIf, W_cSet, W_cOwn, W_cUnp, W_cSetIx, W_cPut, W_iU, W_iVar, W_iRange, W_iEnumU, W_iZipU, W_cFor, W_bYes, Op_some, Op_none, Op_ite, Op_map, Op_bind, Op_rdAll, rdAll_nil, Bw_bl, rVar, peekS, peekT, pVar, pRef, Lw_lst, setS, lstAt_fz, lenO_fz, lenO_str, list_fz, wipe_1, wipe_2, rest_1, rest_2, List.all_cons, List.all_nil, notOwn, W_fComp, asg_2, asg_n, turn_n, turn_c, turn_b, turn_r, List.getElem?_cons_zero, List.getElem?_cons_succ, List.getElem?_nil, List.set_cons_zero, List.set_cons_succ, List.map_cons, List.map_nil, List.cons_append, List.nil_append, List.length_cons, List.length_nil, Option.getD_some, Bool.and_true, Bool.and_self, Option.bind_some, Option.map_some, List.replicate_succ, List.replicate_zero, decide_eq_true_eq, Bool.not_true, Bool.not_false, Bool.not_eq_true', if_true, if_false, reduceIte, reduceCtorEq, Nat.reduceAdd, Nat.reduceSub, Nat.reduceLeDiff, true_and, and_true, ix_n, ix_0, ix_1, ix_2, ix_t0, ix_t1, ix_t2, set_1, set_2, add_i, sub_i, mod_i, div_i, lt_i, le_i, gt_i, ge_i, eq_i, ne_i, p1018, p1017, hp, mul_l]
        exact ⟨_, rfl⟩
      rintro _ ⟨c, rfl⟩
      refine W_seq (fun st1 => ∃ c : Int, st1 = ⟨[.val (.ref p), .val (.int n), .val (.int at_), .val (.int c), .emp], S⟩) ?_ ?_
      · refine W_if (decide (at_ < (cs.length : Int))) ?_ ?_ ?_
        · simp only [W_pure, W_ofO, W_eVar, W_oVar, W_eFrz, W_oE, W_eOp2, W_eChain, W_asB, W_bNot, W_bAnd, W_bOr, W_eNot, W_eAnd, W_eOr, W_eIf, W_eNeg, W_aNil, W_aCons, W_oNil, W_oCons, W_eTup, W_fLst, W_eFz, W_eBox, W_fDic, W_eCall, W_fCall, W_pNo, W_pSome, W_eSliceU, W_fSlice, W_fRev, W_eLst, W_eLst0, W_mVar, W_mRef, W_eMeth, W_eFn, W_cSeq, W_cRet, W_cExpr, W_cIf, W_cSet, W_cOwn, W_cUnp, W_cSetIx, W_cPut, W_iU, W_iVar, W_iRange, W_iEnumU, W_iZipU, W_cFor, W_bYes, Op_some, Op_none, Op_ite, Op_map, Op_bind, Op_rdAll, rdAll_nil, Bw_bl, rVar, peekS, peekT, pVar, pRef, Lw_lst, setS, lstAt_fz, lenO_fz, lenO_str, list_fz, wipe_1, wipe_2, rest_1, rest_2, List.all_cons, List.all_nil, notOwn, W_fComp, asg_2, asg_n, turn_n, turn_c, turn_b, turn_r, List.getElem?_cons_zero, List.getElem?_cons_succ, List.getElem?_nil, List.set_cons_zero, List.set_cons_succ, List.map_cons, List.map_nil, List.cons_append, List.nil_append, List.length_cons, List.length_nil, Option.getD_some, Bool.and_true, Bool.and_self, Option.bind_some, Option.map_some, List.replicate_succ, List.replicate_zero, decide_eq_true_eq, Bool.not_true, Bool.not_false, Bool.not_eq_true', if_true, if_false, reduceIte, reduceCtorEq, Nat.reduceAdd, Nat.reduceSub, Nat.reduceLeDiff, true_and, and_true, ix_n, ix_0, ix_1, ix_2, ix_t0, ix_t1, ix_t2, set_1, set_2, add_i, sub_i, mod_i, div_i, lt_i, le_i, gt_i, ge_i, eq_i, ne_i, p1018, p1017, hp, List.length_map]
        · intro hl
          obtain ⟨k, rfl⟩ := Int.eq_ofNat_of_zero_le ha
          have hk : k < cs.length := by simpa using hl
          simp only [W_pure, W_ofO, W_eVar, W_oVar, W_eFrz, W_oE, W_eOp2, W_eChain, W_asB, W_bNot, W_bAnd, W_bOr, W_eNot, W_eAnd, W_eOr, W_eIf, W_eNeg, W_aNil, W_aCons, W_oNil, W_oCons, W_eTup, W_fLst, W_eFz, W_eBox, W_fDic, W_eCall, W_fCall, W_pNo, W_pSome, W_eSliceU, W_fSlice, W_fRev, W_eLst, W_eLst0, W_mVar, W_mRef, W_eMeth, W_eFn, W_cSeq, W_cRet, W_cExpr, W_cIf, W_cSet, W_cOwn, W_cUnp, W_cSetIx, W_cPut, W_iU, W_iVar, W_iRange, W_iEnumU, W_iZipU, W_cFor, W_bYes, Op_some, Op_none, Op_ite, Op_map, Op_bind, Op_rdAll, rdAll_nil, Bw_bl, rVar, peekS, peekT, pVar, pRef, Lw_lst, setS, lstAt_fz, lenO_fz, lenO_str, list_fz, wipe_1, wipe_2, rest_1, rest_2, List.all_cons, List.all_nil, notOwn, W_fComp, asg_2, asg_n, turn_n, turn_c, turn_b, turn_r, List.getElem?_cons_zero, List.getElem?_cons_succ, List.getElem?_nil, List.set_cons_zero, List.set_cons_succ, List.map_cons, List.map_nil, List.cons_append, List.nil_append, List.length_cons, List.length_nil, Option.getD_some, Bool.and_true, Bool.and_self, Option.bind_some, Option.map_some, List.replicate_succ, List.replicate_zero, decide_eq_true_eq, Bool.not_true, Bool.not_false, Bool.not_eq_true', if_true, if_false, reduceIte, reduceCtorEq, Nat.reduceAdd, Nat.reduceSub, Nat.reduceLeDiff, true_and, and_true, ix_n, ix_0, ix_1, ix_2, ix_t0, ix_t1, ix_t2, set_1, set_2, add_i, sub_i, mod_i, div_i, lt_i, le_i, gt_i, ge_i, eq_i, ne_i, p1018, p1017, hp, List.getElem?_map, List.getElem?_eq_getElem hk]
          exact ⟨_, rfl⟩
        · intro _
          refine W_if (!cs.isEmpty) ?_ ?_ ?_
          · simp only [W_pure, W_ofO, W_eVar, W_oVar, W_eFrz, W_oE, W_eOp2, W_eChain, W_asB, W_bNot, W_bAnd, W_bOr, W_eNot, W_eAnd, W_eOr, W_eIf, W_eNeg, W_aNil, W_aCons, W_oNil, W_oCons, W_eTup, W_fLst, W_eFz, W_eBox, W_fDic, W_eCall, W_fCall, W_pNo, W_pSome, W_eSliceU, W_fSlice, W_fRev, W_eLst, W_eLst0, W_mVar, W_mRef, W_eMeth, W_eFn, W_cSeq, W_cRet, W_cExpr, W_cIf, W_cSet, W_cOwn, W_cUnp, W_cSetIx, W_cPut, W_iU, W_iVar, W_iRange, W_iEnumU, W_iZipU, W_cFor, W_bYes, Op_some, Op_none, Op_ite, Op_map, Op_bind, Op_rdAll, rdAll_nil, Bw_bl, rVar, peekS, peekT, pVar, pRef, Lw_lst, setS, lstAt_fz, lenO_fz, lenO_str, list_fz, wipe_1, wipe_2, rest_1, rest_2, List.all_cons, List.all_nil, notOwn, W_fComp, asg_2, asg_n, turn_n, turn_c, turn_b, turn_r, List.getElem?_cons_zero, List.getElem?_cons_succ, List.getElem?_nil, List.set_cons_zero, List.set_cons_succ, List.map_cons, List.map_nil, List.cons_append, List.nil_append, List.length_cons, List.length_nil, Option.getD_some, Bool.and_true, Bool.and_self, Option.bind_some, Option.map_some, List.replicate_succ, List.replicate_zero, decide_eq_true_eq, Bool.not_true, Bool.not_false, Bool.not_eq_true', if_true, if_false, reduceIte, reduceCtorEq, Nat.reduceAdd, Nat.reduceSub, Nat.reduceLeDiff, true_and, and_true, ix_n, ix_0, ix_1, ix_2, ix_t0, ix_t1, ix_t2, set_1, set_2, add_i, sub_i, mod_i, div_i, lt_i, le_i, gt_i, ge_i, eq_i, ne_i, p1018, p1017, hp, ne_nil dat_ints, List.isEmpty_map]
          · intro he
            have hc : 0 < cs.length := by
              cases cs with
              | nil => simp at he
              | cons a b => simp
            simp (disch := decide) only [W_pure, W_ofO, W_eVar, W_oVar, W_eFrz, W_oE, W_eOp2, W_eChain, W_asB, W_bNot, W_bAnd, W_bOr, W_eNot, W_eAnd, W_eOr, W_eIf, W_eNeg, W_aNil, W_aCons, W_oNil, W_oCons, W_eTup, W_fLst, W_eFz, W_eBox, W_fDic, W_eCall, W_fCall, W_pNo, W_pSome, W_eSliceU, W_fSlice, W_fRev, W_eLst, W_eLst0, W_mVar, W_mRef, W_eMeth, W_eFn, W_cSeq, W_cRet, W_cExpr, W_cIf, W_cSet, W_cOwn, W_cUnp, W_cSetIx, W_cPut, W_iU, W_iVar, W_iRange, W_iEnumU, W_iZipU, W_cFor, W_bYes, Op_some, Op_none, Op_ite, Op_map, Op_bind, Op_rdAll, rdAll_nil, Bw_bl, rVar, peekS, peekT, pVar, pRef, Lw_lst, setS, lstAt_fz, lenO_fz, lenO_str, list_fz, wipe_1, wipe_2, rest_1, rest_2, List.all_cons, List.all_nil, notOwn, W_fComp, asg_2, asg_n, turn_n, turn_c, turn_b, turn_r, List.getElem?_cons_zero, List.getElem?_cons_succ, List.getElem?_nil, List.set_cons_zero, List.set_cons_succ, List.map_cons, List.map_nil, List.cons_append, List.nil_append, List.length_cons, List.length_nil, Option.getD_some, Bool.and_true, Bool.and_self, Option.bind_some, Option.map_some, List.replicate_succ, List.replicate_zero, decide_eq_true_eq, Bool.not_true, Bool.not_false, Bool.not_eq_true', if_true, if_false, reduceIte, reduceCtorEq, Nat.reduceAdd, Nat.reduceSub, Nat.reduceLeDiff, true_and, and_true, ix_n, ix_0, ix_1, ix_2, ix_t0, ix_t1, ix_t2, set_1, set_2, add_i, sub_i, mod_i, div_i, lt_i, le_i, gt_i, ge_i, eq_i, ne_i, p1018, p1017, hp, mul_r, mul_l, List.length_map]
            rw [mod_i (by omega)]
            simp only [Op_some]
            have h1 := Int.emod_nonneg (at_ * 7 + 1) (show (cs.length : Int) ≠ 0 by omega)
            have h2 := Int.emod_lt_of_pos (at_ * 7 + 1) (show (0 : Int) < cs.length by omega)
            rw [ix_i h1, List.getElem?_map, List.getElem?_eq_getElem (by omega)]
            simp only [Op_some, List.getElem?_cons_zero, List.getElem?_cons_succ, List.getElem?_nil, List.set_cons_zero, List.set_cons_succ, List.map_cons, List.map_nil, List.cons_append, List.nil_append, List.length_cons, List.length_nil, Option.getD_some, Bool.and_true, Bool.and_self, Option.bind_some, Option.map_some, List.replicate_succ, List.replicate_zero, decide_eq_true_eq, Bool.not_true, Bool.not_false, Bool.not_eq_true', if_true, if_false, reduceIte, reduceCtorEq, Nat.reduceAdd, Nat.reduceSub, Nat.reduceLeDiff, true_and, and_true]
            rw [mod_i (by omega)]
            simp only [Op_some, List.getElem?_cons_zero, List.getElem?_cons_succ, List.getElem?_nil, List.set_cons_zero, List.set_cons_succ, List.map_cons, List.map_nil, List.cons_append, List.nil_append, List.length_cons, List.length_nil, Option.getD_some, Bool.and_true, Bool.and_self, Option.bind_some, Option.map_some, List.replicate_succ, List.replicate_zero, decide_eq_true_eq, Bool.not_true, Bool.not_false, Bool.not_eq_true', if_true, if_false, reduceIte, reduceCtorEq, Nat.reduceAdd, Nat.reduceSub, Nat.reduceLeDiff, true_and, and_true]
            exact ⟨_, rfl⟩
          · intro _
            simp only [W_pure, W_ofO, W_eVar, W_oVar, W_eFrz, W_oE, W_eOp2, W_eChain, W_asB, W_bNot, W_bAnd, W_bOr, W_eNot, W_eAnd, W_eOr, W_eIf, W_eNeg, W_aNil, W_aCons, W_oNil, W_oCons, W_eTup, W_fLst, W_eFz, W_eBox, W_fDic, W_eCall, W_fCall, W_pNo, W_pSome, W_eSliceU, W_fSlice, W_fRev, W_eLst, W_eLst0, W_mVar, W_mRef, W_eMeth, W_eFn, W_cSeq, W_cRet, W_cExpr, W_cIf, W_cSet, W_cOwn, W_cUnp, W_cSetIx, W_cPut, W_iU, W_iVar, W_iRange, W_iEnumU, W_iZipU, W_cFor, W_bYes, Op_some, Op_none, Op_ite, Op_map, Op_bind, Op_rdAll, rdAll_nil, Bw_bl, rVar, peekS, peekT, pVar, pRef, Lw_lst, setS, lstAt_fz, lenO_fz, lenO_str, list_fz, wipe_1, wipe_2, rest_1, rest_2, List.all_cons, List.all_nil, notOwn, W_fComp, asg_2, asg_n, turn_n, turn_c, turn_b, turn_r, List.getElem?_cons_zero, List.getElem?_cons_succ, List.getElem?_nil, List.set_cons_zero, List.set_cons_succ, List.map_cons, List.map_nil, List.cons_append, List.nil_append, List.length_cons, List.length_nil, Option.getD_some, Bool.and_true, Bool.and_self, Option.bind_some, Option.map_some, List.replicate_succ, List.replicate_zero, decide_eq_true_eq, Bool.not_true, Bool.not_false, Bool.not_eq_true', if_true, if_false, reduceIte, reduceCtorEq, Nat.reduceAdd, Nat.reduceSub, Nat.reduceLeDiff, true_and, and_true]
            exact ⟨_, rfl⟩
      rintro _ ⟨c, rfl⟩
      simp only [W_pure, W_ofO, W_eVar, W_oVar, W_eFrz, W_oE, W_eOp2, W_eChain, W_asB, W_bNot, W_bAnd, W_bOr, W_eNot, W_eAnd, W_eOr, W_eIf, W_eNeg, W_aNil, W_aCons, W_oNil, W_oCons, W_eTup, W_fLst, W_eFz, W_eBox, W_fDic, W_eCall, W_fCall, W_pNo, W_pSome, W_eSliceU, W_fSlice, W_fRev, W_eLst, W_eLst0, W_mVar, W_mRef, W_eMeth, W_eFn, W_cSeq, W_cRet, W_cExpr, W_cIf, W_cSet, W_cOwn, W_cUnp, W_cSetIx, W_cPut, W_iU, W_iVar, W_iRange, W_iEnumU, W_iZipU, W_cFor, W_bYes, Op_some, Op_none, Op_ite, Op_map, Op_bind, Op_rdAll, rdAll_nil, Bw_bl, rVar, peekS, peekT, pVar, pRef, Lw_lst, setS, lstAt_fz, lenO_fz, lenO_str, list_fz, wipe_1, wipe_2, rest_1, rest_2, List.all_cons, List.all_nil, notOwn, W_fComp, asg_2, asg_n, turn_n, turn_c, turn_b, turn_r, List.getElem?_cons_zero, List.getElem?_cons_succ, List.getElem?_nil, List.set_cons_zero, List.set_cons_succ, List.map_cons, List.map_nil, List.cons_append, List.nil_append, List.length_cons, List.length_nil, Option.getD_some, Bool.and_true, Bool.and_self, Option.bind_some, Option.map_some, List.replicate_succ, List.replicate_zero, decide_eq_true_eq, Bool.not_true, Bool.not_false, Bool.not_eq_true', if_true, if_false, reduceIte, reduceCtorEq, Nat.reduceAdd, Nat.reduceSub, Nat.reduceLeDiff, true_and, and_true, ix_n, ix_0, ix_1, ix_2, ix_t0, ix_t1, ix_t2, set_1, set_2, add_i, sub_i, mod_i, div_i, lt_i, le_i, gt_i, ge_i, eq_i, ne_i, p1018, p1017, hp]
      have hp2 := (Pt.set (S := S) ⟨_, hp, cs, at_, rest, rfl, ha, hr⟩ ⟨cs, at_ + 1, rest, rfl, by omega, hr⟩)
      refine (blend_ok ha).mono fun t S' q => ?_
      obtain ⟨rfl, b, rfl, hb⟩ := q
      simp only [List.getElem?_set_self h0.1.1.lt, ix_n, ix_0, ix_1, ix_2, ix_t0, ix_t1, ix_t2, set_1, set_2, add_i, sub_i, mod_i, div_i, lt_i, le_i, gt_i, ge_i, eq_i, ne_i, p1018, p1017, Op_some]
      refine ⟨_, _, _, at_ + 1, b, rfl, ?_⟩
      exact (h0.set (cs := cs) (show 0 ≤ at_ + 1 by omega) hr).set (by omega) hb
    · exact ⟨_, _, _, _, _, rfl, h0⟩
  · rintro _ ⟨s2, s3, S1, a, r, rfl, h1⟩
    have h1' := h1
    obtain ⟨_, ha1, hr1, cs1, hp1⟩ := h1'
    simp only [W_pure, W_ofO, W_eVar, W_oVar, W_eFrz, W_oE, W_eOp2, W_eChain, W_asB, W_bNot, W_bAnd, W_bOr, W_eNot, W_eAnd, W_eOr, W_eIf, W_eNeg, W_aNil, W_aCons, W_oNil, W_oCons, W_eTup, W_fLst, W_eFz, W_eBox, W_fDic, W_eCall, W_fCall, W_pNo, W_pSome, W_eSliceU, W_fSlice, W_fRev, W_eLst, W_eLst0, W_mVar, W_mRef, W_eMeth, W_eFn, W_cSeq, W_cRet, W_cExpr, W_cIf, W_cSet, W_cOwn, W_cUnp, W_cSetIx, W_cPut, W_iU, W_iVar, W_iRange, W_iEnumU, W_iZipU, W_cFor, W_bYes, Op_some, Op_none, Op_ite, Op_map, Op_bind, Op_rdAll, rdAll_nil, Bw_bl, rVar, peekS, peekT, pVar, pRef, Lw_lst, setS, lstAt_fz, lenO_fz, lenO_str, list_fz, wipe_1, wipe_2, rest_1, rest_2, List.all_cons, List.all_nil, notOwn, W_fComp, asg_2, asg_n, turn_n, turn_c, turn_b, turn_r, List.getElem?_cons_zero, List.getElem?_cons_succ, List.getElem?_nil, List.set_cons_zero, List.set_cons_succ, List.map_cons, List.map_nil, List.cons_append, List.nil_append, List.length_cons, List.length_nil, Option.getD_some, Bool.and_true, Bool.and_self, Option.bind_some, Option.map_some, List.replicate_succ, List.replicate_zero, decide_eq_true_eq, Bool.not_true, Bool.not_false, Bool.not_eq_true', if_true, if_false, reduceIte, reduceCtorEq, Nat.reduceAdd, Nat.reduceSub, Nat.reduceLeDiff, true_and, and_true, ix_n, ix_0, ix_1, ix_2, ix_t0, ix_t1, ix_t2, set_1, set_2, add_i, sub_i, mod_i, div_i, lt_i, le_i, gt_i, ge_i, eq_i, ne_i, p1018, p1017, hp1]
    rw [mod_i hn, div_i hn hm]
    simp only [Op_some]
    exact ⟨(h1.set ha1 (Int.ediv_nonneg hr1 (by omega))).1, _, rfl, Int.emod_nonneg _ (by omega), Int.emod_lt_of_pos _ hn⟩
theorem pick_w {S : List Ob} {p : Nat} {n : Int} {Φ : T → List Ob → Prop} (h : IsPot S p) (hn : 0 < n) (hm : n ≤ 100000) (k : ∀ x S1, Pt p S S1 → 0 ≤ x → x < n → Φ (.int x) S1) : Fw m__law_pick [.ref p, .int n] S Φ := by
  refine (pick_ok h hn hm).mono fun t S1 q => ?_
  obtain ⟨h1, x, rfl, h2, h3⟩ := q
  exact k x S1 h1 h2 h3
theorem pot_ok {ns : List Int} : Fw m__law_pot [.scr ns] [] (fun t S' => t = .ref 0 ∧ ∃ ob, S' = [ob] ∧ PotO ob) := by
  unfold m__law_pot
  rw [Fw_fnM]
  unfold b__law_pot
  refine W_seq (fun st1 => st1 = ⟨[.val (.scr ns), .own (.lst ((ns.take 12).map .int)), .emp, .emp], []⟩) ?_ ?_
  · simp only [W_pure, W_ofO, W_eVar, W_oVar, W_eFrz, W_oE, W_eOp2, W_eChain, W_asB, W_bNot, W_bAnd, W_bOr, W_eNot, W_eAnd, W_eOr, W_eIf, W_eNeg, W_aNil, W_aCons, W_oNil, W_oCons, W_eTup, W_fLst, W_eFz, W_eBox, W_fDic, W_eCall, W_fCall, W_pNo, W_pSome, W_eSliceU, W_fSlice, W_fRev, W_eLst, W_eLst0, W_mVar, W_mRef, W_eMeth, W_eFn, W_cSeq, W_cRet, W_cExpr, W_cIf, W_cSet, W_cOwn, W_cUnp, W_cSetIx, W_cPut, W_iU, W_iVar, W_iRange, W_iEnumU, W_iZipU, W_cFor, W_bYes, Op_some, Op_none, Op_ite, Op_map, Op_bind, Op_rdAll, rdAll_nil, Bw_bl, rVar, peekS, peekT, pVar, pRef, Lw_lst, setS, lstAt_fz, lenO_fz, lenO_str, list_fz, wipe_1, wipe_2, rest_1, rest_2, List.all_cons, List.all_nil, notOwn, W_fComp, asg_2, asg_n, turn_n, turn_c, turn_b, turn_r, List.getElem?_cons_zero, List.getElem?_cons_succ, List.getElem?_nil, List.set_cons_zero, List.set_cons_succ, List.map_cons, List.map_nil, List.cons_append, List.nil_append, List.length_cons, List.length_nil, Option.getD_some, Bool.and_true, Bool.and_self, Option.bind_some, Option.map_some, List.replicate_succ, List.replicate_zero, decide_eq_true_eq, Bool.not_true, Bool.not_false, Bool.not_eq_true', if_true, if_false, reduceIte, reduceCtorEq, Nat.reduceAdd, Nat.reduceSub, Nat.reduceLeDiff, true_and, and_true, cut_to (show (0 : Int) ≤ 12 by decide)]
    rfl
  rintro _ rfl
  refine W_seq (fun st1 => ∃ s2 s3, ∃ cs : List Int, st1 = ⟨[.val (.scr ns), .own (.lst (cs.map .int)), s2, s3], []⟩) ?_ ?_
  · simp only [W_pure, W_ofO, W_eVar, W_oVar, W_eFrz, W_oE, W_eOp2, W_eChain, W_asB, W_bNot, W_bAnd, W_bOr, W_eNot, W_eAnd, W_eOr, W_eIf, W_eNeg, W_aNil, W_aCons, W_oNil, W_oCons, W_eTup, W_fLst, W_eFz, W_eBox, W_fDic, W_eCall, W_fCall, W_pNo, W_pSome, W_eSliceU, W_fSlice, W_fRev, W_eLst, W_eLst0, W_mVar, W_mRef, W_eMeth, W_eFn, W_cSeq, W_cRet, W_cExpr, W_cIf, W_cSet, W_cOwn, W_cUnp, W_cSetIx, W_cPut, W_iU, W_iVar, W_iRange, W_iEnumU, W_iZipU, W_cFor, W_bYes, Op_some, Op_none, Op_ite, Op_map, Op_bind, Op_rdAll, rdAll_nil, Bw_bl, rVar, peekS, peekT, pVar, pRef, Lw_lst, setS, lstAt_fz, lenO_fz, lenO_str, list_fz, wipe_1, wipe_2, rest_1, rest_2, List.all_cons, List.all_nil, notOwn, W_fComp, asg_2, asg_n, turn_n, turn_c, turn_b, turn_r, List.getElem?_cons_zero, List.getElem?_cons_succ, List.getElem?_nil, List.set_cons_zero, List.set_cons_succ, List.map_cons, List.map_nil, List.cons_append, List.nil_append, List.length_cons, List.length_nil, Option.getD_some, Bool.and_true, Bool.and_self, Option.bind_some, Option.map_some, List.replicate_succ, List.replicate_zero, decide_eq_true_eq, Bool.not_true, Bool.not_false, Bool.not_eq_true', if_true, if_false, reduceIte, reduceCtorEq, Nat.reduceAdd, Nat.reduceSub, Nat.reduceLeDiff, true_and, and_true]
    refine W_forL (fun _ st1 => ∃ s2 s3, ∃ cs : List Int, st1 = ⟨[.val (.scr ns), .own (.lst (cs.map .int)), s2, s3], []⟩ ∧ cs.length = min 12 ns.length) _ 0 _ ⟨_, _, _, rfl, by simp⟩ ?_ ?_
    · rintro i t _ ht ⟨s2, s3, cs, rfl, hc⟩
      refine ⟨trivial, ?_⟩
      obtain ⟨u, hu, rfl⟩ := enum_get ht
      rw [List.getElem?_map] at hu
      obtain ⟨c, hc', rfl⟩ := Option.map_eq_some_iff.mp hu
      have h12 : 12 ≤ ns.length := by
        have := (List.getElem?_eq_some_iff.mp hc').1
        simp only [cutL, List.length_take, List.length_drop, sIx_n (show (0 : Int) ≤ 12 by decide)] at this
        simp at this
        omega
      have hc0 := hc
      have hc : cs.length = 12 := by omega
      simp (disch := decide) only [W_pure, W_ofO, W_eVar, W_oVar, W_eFrz, W_oE, W_eOp2, W_eChain, W_asB, W_bNot, W_bAnd, W_bOr, W_eNot, W_eAnd, W_eOr, W_eIf, W_eNeg, W_aNil, W_aCons, W_oNil, W_oCons, W_eTup, W_fLst, W_eFz, W_eBox, W_fDic, W_eCall, W_fCall, W_pNo, W_pSome, W_eSliceU, W_fSlice, W_fRev, W_eLst, W_eLst0, W_mVar, W_mRef, W_eMeth, W_eFn, W_cSeq, W_cRet, W_cExpr, W_cIf, W_cSet, W_cOwn, W_cUnp, W_cSetIx, W_cPut, W_iU, W_iVar, W_iRange, W_iEnumU, W_iZipU, W_cFor, W_bYes, Op_some, Op_none, Op_ite, Op_map, Op_bind, Op_rdAll, rdAll_nil, Bw_bl, rVar, peekS, peekT, pVar, pRef, Lw_lst, setS, lstAt_fz, lenO_fz, lenO_str, list_fz, wipe_1, wipe_2, rest_1, rest_2, List.all_cons, List.all_nil, notOwn, W_fComp, asg_2, asg_n, turn_n, turn_c, turn_b, turn_r, List.getElem?_cons_zero, List.getElem?_cons_succ, List.getElem?_nil, List.set_cons_zero, List.set_cons_succ, List.map_cons, List.map_nil, List.cons_append, List.nil_append, List.length_cons, List.length_nil, Option.getD_some, Bool.and_true, Bool.and_self, Option.bind_some, Option.map_some, List.replicate_succ, List.replicate_zero, decide_eq_true_eq, Bool.not_true, Bool.not_false, Bool.not_eq_true', if_true, if_false, reduceIte, reduceCtorEq, Nat.reduceAdd, Nat.reduceSub, Nat.reduceLeDiff, true_and, and_true, ix_n, ix_0, ix_1, ix_2, ix_t0, ix_t1, ix_t2, set_1, set_2, add_i, sub_i, mod_i, div_i, lt_i, le_i, gt_i, ge_i, eq_i, ne_i, p1018, p1017]
      have h1 := Int.emod_nonneg (i : Int) (show (12 : Int) ≠ 0 by decide)
      have h2 := Int.emod_lt_of_pos (i : Int) (show (0 : Int) < 12 by decide)
      rw [ix_i h1, List.getElem?_map, List.getElem?_eq_getElem (by omega)]
      simp only [Op_some, List.getElem?_cons_zero, List.getElem?_cons_succ, List.getElem?_nil, List.set_cons_zero, List.set_cons_succ, List.map_cons, List.map_nil, List.cons_append, List.nil_append, List.length_cons, List.length_nil, Option.getD_some, Bool.and_true, Bool.and_self, Option.bind_some, Option.map_some, List.replicate_succ, List.replicate_zero, decide_eq_true_eq, Bool.not_true, Bool.not_false, Bool.not_eq_true', if_true, if_false, reduceIte, reduceCtorEq, Nat.reduceAdd, Nat.reduceSub, Nat.reduceLeDiff, true_and, and_true, ix_n, ix_0, ix_1, ix_2, ix_t0, ix_t1, ix_t2, set_1, set_2, add_i, sub_i, mod_i, div_i, lt_i, le_i, gt_i, ge_i, eq_i, ne_i, p1018, p1017]
      rw [set_i h1 (by rw [List.length_map, hc]; exact h2)]
      simp only [Op_some, List.getElem?_cons_zero, List.getElem?_cons_succ, List.getElem?_nil, List.set_cons_zero, List.set_cons_succ, List.map_cons, List.map_nil, List.cons_append, List.nil_append, List.length_cons, List.length_nil, Option.getD_some, Bool.and_true, Bool.and_self, Option.bind_some, Option.map_some, List.replicate_succ, List.replicate_zero, decide_eq_true_eq, Bool.not_true, Bool.not_false, Bool.not_eq_true', if_true, if_false, reduceIte, reduceCtorEq, Nat.reduceAdd, Nat.reduceSub, Nat.reduceLeDiff, true_and, and_true, W_pure, W_ofO, W_eVar, W_oVar, W_eFrz, W_oE, W_eOp2, W_eChain, W_asB, W_bNot, W_bAnd, W_bOr, W_eNot, W_eAnd, W_eOr, W_eIf, W_eNeg, W_aNil, W_aCons, W_oNil, W_oCons, W_eTup, W_fLst, W_eFz, W_eBox, W_fDic, W_eCall, W_fCall, W_pNo, W_pSome, W_eSliceU, W_fSlice, W_fRev, W_eLst, W_eLst0, W_mVar, W_mRef, W_eMeth, W_eFn, W_cSeq, W_cRet, W_cExpr, W_cIf, W_cSet, W_cOwn, W_cUnp, W_cSetIx, W_cPut, W_iU, W_iVar, W_iRange, W_iEnumU, W_iZipU, W_cFor, W_bYes, Op_some, Op_none, Op_ite, Op_map, Op_bind, Op_rdAll, rdAll_nil, Bw_bl, rVar, peekS, peekT, pVar, pRef, Lw_lst, setS, lstAt_fz, lenO_fz, lenO_str, list_fz, wipe_1, wipe_2, rest_1, rest_2, List.all_cons, List.all_nil, notOwn, W_fComp, asg_2, asg_n, turn_n, turn_c, turn_b, turn_r]
      refine ⟨_, _, cs.set ((i : Int) % 12).toNat (cs[((i : Int) % 12).toNat]'(by omega) + c), by rw [List.map_set], by simpa using hc0⟩
    · rintro _ ⟨s2, s3, cs, rfl, hc⟩
      exact ⟨trivial, rfl, _, _, _, rfl⟩
  rintro _ ⟨s2, s3, cs, rfl⟩
  simp only [W_pure, W_ofO, W_eVar, W_oVar, W_eFrz, W_oE, W_eOp2, W_eChain, W_asB, W_bNot, W_bAnd, W_bOr, W_eNot, W_eAnd, W_eOr, W_eIf, W_eNeg, W_aNil, W_aCons, W_oNil, W_oCons, W_eTup, W_fLst, W_eFz, W_eBox, W_fDic, W_eCall, W_fCall, W_pNo, W_pSome, W_eSliceU, W_fSlice, W_fRev, W_eLst, W_eLst0, W_mVar, W_mRef, W_eMeth, W_eFn, W_cSeq, W_cRet, W_cExpr, W_cIf, W_cSet, W_cOwn, W_cUnp, W_cSetIx, W_cPut, W_iU, W_iVar, W_iRange, W_iEnumU, W_iZipU, W_cFor, W_bYes, Op_some, Op_none, Op_ite, Op_map, Op_bind, Op_rdAll, rdAll_nil, Bw_bl, rVar, peekS, peekT, pVar, pRef, Lw_lst, setS, lstAt_fz, lenO_fz, lenO_str, list_fz, wipe_1, wipe_2, rest_1, rest_2, List.all_cons, List.all_nil, notOwn, W_fComp, asg_2, asg_n, turn_n, turn_c, turn_b, turn_r, List.getElem?_cons_zero, List.getElem?_cons_succ, List.getElem?_nil, List.set_cons_zero, List.set_cons_succ, List.map_cons, List.map_nil, List.cons_append, List.nil_append, List.length_cons, List.length_nil, Option.getD_some, Bool.and_true, Bool.and_self, Option.bind_some, Option.map_some, List.replicate_succ, List.replicate_zero, decide_eq_true_eq, Bool.not_true, Bool.not_false, Bool.not_eq_true', if_true, if_false, reduceIte, reduceCtorEq, Nat.reduceAdd, Nat.reduceSub, Nat.reduceLeDiff, true_and, and_true]
  exact ⟨_, rfl, cs, 0, 0, rfl, by decide, by decide⟩
def intsL (ks : List Nat) : List T := ks.map fun k : Nat => .int (k : Int)
theorem order_ok {S : List Ob} {p n : Nat} (h : IsPot S p) (hn : n ≤ 100) : Fw m__law_order [.ref p, .int n] S (fun t S' => Pt p S S' ∧ ∃ ks : List Nat, t = .fz (intsL ks) ∧ ks.Nodup ∧ (∀ k ∈ ks, k < n) ∧ ks.length = n) := by
  unfold m__law_order
  rw [Fw_fnM]
  unfold b__law_order
  refine W_seq (fun st1 => st1 = ⟨[.val (.ref p), .val (.int n), .own (.lst []), .emp], S⟩) ?_ ?_
  · simp only [W_pure, W_ofO, W_eVar, W_oVar, W_eFrz, W_oE, W_eOp2, W_eChain, W_asB, W_bNot, W_bAnd, W_bOr, W_eNot, W_eAnd, W_eOr, W_eIf, W_eNeg, W_aNil, W_aCons, W_oNil, W_oCons, W_eTup, W_fLst, W_eFz, W_eBox, W_fDic, W_eCall, W_fCall, W_pNo, W_pSome, W_eSliceU, W_fSlice, W_fRev, W_eLst, W_eLst0, W_mVar, W_mRef, W_eMeth, W_eFn, W_cSeq, W_cRet, W_cExpr, W_cIf, W_cSet, W_cOwn, W_cUnp, W_cSetIx, W_cPut, W_iU, W_iVar, W_iRange, W_iEnumU, W_iZipU, W_cFor, W_bYes, Op_some, Op_none, Op_ite, Op_map, Op_bind, Op_rdAll, rdAll_nil, Bw_bl, rVar, peekS, peekT, pVar, pRef, Lw_lst, setS, lstAt_fz, lenO_fz, lenO_str, list_fz, wipe_1, wipe_2, rest_1, rest_2, List.all_cons, List.all_nil, notOwn, W_fComp, asg_2, asg_n, turn_n, turn_c, turn_b, turn_r, List.getElem?_cons_zero, List.getElem?_cons_succ, List.getElem?_nil, List.set_cons_zero, List.set_cons_succ, List.map_cons, List.map_nil, List.cons_append, List.nil_append, List.length_cons, List.length_nil, Option.getD_some, Bool.and_true, Bool.and_self, Option.bind_some, Option.map_some, List.replicate_succ, List.replicate_zero, decide_eq_true_eq, Bool.not_true, Bool.not_false, Bool.not_eq_true', if_true, if_false, reduceIte, reduceCtorEq, Nat.reduceAdd, Nat.reduceSub, Nat.reduceLeDiff, true_and, and_true]
  rintro _ rfl
  refine W_seq (fun st1 => ∃ s3, ∃ ks : List Nat, ∃ S1, Pt p S S1 ∧ ks.Nodup ∧ (∀ k ∈ ks, k < n) ∧ ks.length = n ∧ st1 = ⟨[.val (.ref p), .val (.int n), .own (.lst (intsL ks)), s3], S1⟩) ?_ ?_
  · simp only [W_pure, W_ofO, W_eVar, W_oVar, W_eFrz, W_oE, W_eOp2, W_eChain, W_asB, W_bNot, W_bAnd, W_bOr, W_eNot, W_eAnd, W_eOr, W_eIf, W_eNeg, W_aNil, W_aCons, W_oNil, W_oCons, W_eTup, W_fLst, W_eFz, W_eBox, W_fDic, W_eCall, W_fCall, W_pNo, W_pSome, W_eSliceU, W_fSlice, W_fRev, W_eLst, W_eLst0, W_mVar, W_mRef, W_eMeth, W_eFn, W_cSeq, W_cRet, W_cExpr, W_cIf, W_cSet, W_cOwn, W_cUnp, W_cSetIx, W_cPut, W_iU, W_iVar, W_iRange, W_iEnumU, W_iZipU, W_cFor, W_bYes, Op_some, Op_none, Op_ite, Op_map, Op_bind, Op_rdAll, rdAll_nil, Bw_bl, rVar, peekS, peekT, pVar, pRef, Lw_lst, setS, lstAt_fz, lenO_fz, lenO_str, list_fz, wipe_1, wipe_2, rest_1, rest_2, List.all_cons, List.all_nil, notOwn, W_fComp, asg_2, asg_n, turn_n, turn_c, turn_b, turn_r, List.getElem?_cons_zero, List.getElem?_cons_succ, List.getElem?_nil, List.set_cons_zero, List.set_cons_succ, List.map_cons, List.map_nil, List.cons_append, List.nil_append, List.length_cons, List.length_nil, Option.getD_some, Bool.and_true, Bool.and_self, Option.bind_some, Option.map_some, List.replicate_succ, List.replicate_zero, decide_eq_true_eq, Bool.not_true, Bool.not_false, Bool.not_eq_true', if_true, if_false, reduceIte, reduceCtorEq, Nat.reduceAdd, Nat.reduceSub, Nat.reduceLeDiff, true_and, and_true]
    refine ⟨by omega, ?_⟩
    refine W_forL (fun j st1 => ∃ s3, ∃ ks : List Nat, ∃ S1, Pt p S S1 ∧ ks.Nodup ∧ (∀ k ∈ ks, k < j) ∧ ks.length = j ∧ st1 = ⟨[.val (.ref p), .val (.int n), .own (.lst (intsL ks)), s3], S1⟩) _ 0 _ ⟨_, [], _, .refl h, by simp, by simp, rfl, rfl⟩ ?_ ?_
    · rintro i t _ ht ⟨s3, ks, S1, h1, h2, h3, h4, rfl⟩
      obtain ⟨hi, rfl⟩ := range_get ht
      rw [Nat.zero_add] at h3 h4 ⊢
      refine ⟨trivial, ?_⟩
      simp only [W_pure, W_ofO, W_eVar, W_oVar, W_eFrz, W_oE, W_eOp2, W_eChain, W_asB, W_bNot, W_bAnd, W_bOr, W_eNot, W_eAnd, W_eOr, W_eIf, W_eNeg, W_aNil, W_aCons, W_oNil, W_oCons, W_eTup, W_fLst, W_eFz, W_eBox, W_fDic, W_eCall, W_fCall, W_pNo, W_pSome, W_eSliceU, W_fSlice, W_fRev, W_eLst, W_eLst0, W_mVar, W_mRef, W_eMeth, W_eFn, W_cSeq, W_cRet, W_cExpr, W_cIf, W_cSet, W_cOwn, W_cUnp, W_cSetIx, W_cPut, W_iU, W_iVar, W_iRange, W_iEnumU, W_iZipU, W_cFor, W_bYes, Op_some, Op_none, Op_ite, Op_map, Op_bind, Op_rdAll, rdAll_nil, Bw_bl, rVar, peekS, peekT, pVar, pRef, Lw_lst, setS, lstAt_fz, lenO_fz, lenO_str, list_fz, wipe_1, wipe_2, rest_1, rest_2, List.all_cons, List.all_nil, notOwn, W_fComp, asg_2, asg_n, turn_n, turn_c, turn_b, turn_r, List.getElem?_cons_zero, List.getElem?_cons_succ, List.getElem?_nil, List.set_cons_zero, List.set_cons_succ, List.map_cons, List.map_nil, List.cons_append, List.nil_append, List.length_cons, List.length_nil, Option.getD_some, Bool.and_true, Bool.and_self, Option.bind_some, Option.map_some, List.replicate_succ, List.replicate_zero, decide_eq_true_eq, Bool.not_true, Bool.not_false, Bool.not_eq_true', if_true, if_false, reduceIte, reduceCtorEq, Nat.reduceAdd, Nat.reduceSub, Nat.reduceLeDiff, true_and, and_true, ix_n, ix_0, ix_1, ix_2, ix_t0, ix_t1, ix_t2, set_1, set_2, add_i, sub_i, mod_i, div_i, lt_i, le_i, gt_i, ge_i, eq_i, ne_i, p1018, p1017]
      refine pick_w h1.1 (by omega) (by omega) fun x S2 h5 hx hx2 => ?_
      rw [insert_i hx (by omega) (by unfold intsL; rw [List.length_map]; omega)]
      rw [Op_some]
      have hni : i ∉ ks := fun z => by have := h3 _ z; omega
      refine ⟨.val (.int i), ks.take x.toNat ++ [i] ++ ks.drop x.toNat, S2, h1.trans h5, ?_, ?_, ?_, ?_⟩
      · have hp : (ks.take x.toNat ++ [i] ++ ks.drop x.toNat).Perm (i :: ks) := by
          have e : ks.take x.toNat ++ [i] ++ ks.drop x.toNat = ks.take x.toNat ++ i :: ks.drop x.toNat := by simp
          rw [e]
          refine List.perm_middle.trans ?_
          rw [List.take_append_drop]
        rw [hp.nodup_iff]
        exact List.nodup_cons.mpr ⟨hni, h2⟩
      · intro k hk
        simp only [List.mem_append, List.mem_singleton] at hk
        rcases hk with (hk | hk) | hk
        · have := h3 _ (List.mem_of_mem_take hk); omega
        · omega
        · have := h3 _ (List.mem_of_mem_drop hk); omega
      · simp only [List.length_append, List.length_take, List.length_drop, List.length_cons, List.length_nil]
        omega
      · simp only [intsL, List.map_append, List.map_take, List.map_drop, List.getElem?_cons_zero, List.getElem?_cons_succ, List.getElem?_nil, List.set_cons_zero, List.set_cons_succ, List.map_cons, List.map_nil, List.cons_append, List.nil_append, List.length_cons, List.length_nil, Option.getD_some, Bool.and_true, Bool.and_self, Option.bind_some, Option.map_some, List.replicate_succ, List.replicate_zero, decide_eq_true_eq, Bool.not_true, Bool.not_false, Bool.not_eq_true', if_true, if_false, reduceIte, reduceCtorEq, Nat.reduceAdd, Nat.reduceSub, Nat.reduceLeDiff, true_and, and_true]
    · rintro _ ⟨s3, ks, S1, h1, h2, h3, h4, rfl⟩
      have e : 0 + ((List.range (n : Int).toNat).map fun k : Nat => T.int (k : Int)).length = n := by simp
      rw [e] at h3 h4
      exact ⟨trivial, rfl, s3, ks, S1, h1, h2, h3, h4, rfl⟩
  rintro _ ⟨s3, ks, S1, h1, h2, h3, h4, rfl⟩
  simp only [W_pure, W_ofO, W_eVar, W_oVar, W_eFrz, W_oE, W_eOp2, W_eChain, W_asB, W_bNot, W_bAnd, W_bOr, W_eNot, W_eAnd, W_eOr, W_eIf, W_eNeg, W_aNil, W_aCons, W_oNil, W_oCons, W_eTup, W_fLst, W_eFz, W_eBox, W_fDic, W_eCall, W_fCall, W_pNo, W_pSome, W_eSliceU, W_fSlice, W_fRev, W_eLst, W_eLst0, W_mVar, W_mRef, W_eMeth, W_eFn, W_cSeq, W_cRet, W_cExpr, W_cIf, W_cSet, W_cOwn, W_cUnp, W_cSetIx, W_cPut, W_iU, W_iVar, W_iRange, W_iEnumU, W_iZipU, W_cFor, W_bYes, Op_some, Op_none, Op_ite, Op_map, Op_bind, Op_rdAll, rdAll_nil, Bw_bl, rVar, peekS, peekT, pVar, pRef, Lw_lst, setS, lstAt_fz, lenO_fz, lenO_str, list_fz, wipe_1, wipe_2, rest_1, rest_2, List.all_cons, List.all_nil, notOwn, W_fComp, asg_2, asg_n, turn_n, turn_c, turn_b, turn_r, List.getElem?_cons_zero, List.getElem?_cons_succ, List.getElem?_nil, List.set_cons_zero, List.set_cons_succ, List.map_cons, List.map_nil, List.cons_append, List.nil_append, List.length_cons, List.length_nil, Option.getD_some, Bool.and_true, Bool.and_self, Option.bind_some, Option.map_some, List.replicate_succ, List.replicate_zero, decide_eq_true_eq, Bool.not_true, Bool.not_false, Bool.not_eq_true', if_true, if_false, reduceIte, reduceCtorEq, Nat.reduceAdd, Nat.reduceSub, Nat.reduceLeDiff, true_and, and_true]
  exact ⟨h1, ks, rfl, h2, h3, h4⟩
end Lw
namespace Lw
open PySem PySem.Spec PyProof.Rows L2 Sw Classical
def smallL : List Nat := [97, 98, 99, 100, 101, 102, 103, 104, 105, 106, 107, 108, 109, 110, 111, 112, 113, 114, 115, 116, 117, 118, 119, 120, 121, 122]
theorem small_get : ∀ k < 26, smallL[k]? = some (97 + k) := by decide
theorem ix_small {x : Int} (h : 0 ≤ x) (h2 : x < 26) : ixU (.str smallL) (.int x) = some (.str [97 + x.toNat]) := by
  obtain ⟨k, rfl⟩ := Int.eq_ofNat_of_zero_le h
  show (if smallL.length ≤ 1000000 then (atI smallL (k : Int)).map fun c => T.str [c] else none) = _
  rw [atI_k, small_get k (by omega), if_pos (by decide)]
  rfl
def nmP (rest : List Nat) (spot size : Int) (k : Nat) : List Nat := rest.take ((size + k * (spot % 2)) % 8).toNat
def nmA (spot : Int) (l : Nat) : Nat := if spot = 0 then 0 else if spot = 1 then l else l / 2
def nmL (rest : List Nat) (spot turn size : Int) (k : Nat) : List Nat := (nmP rest spot size k).take (nmA spot (nmP rest spot size k).length) ++ [97 + ((turn + 5 * k) % 26).toNat] ++ (nmP rest spot size k).drop (nmA spot (nmP rest spot size k).length)
theorem nm_inj {rest : List Nat} {spot turn size : Int} (h0 : 0 ≤ spot) (h3 : spot < 3) {i j : Nat} (hi : i < 26) (hj : j < 26) (e : nmL rest spot turn size i = nmL rest spot turn size j) : i = j := by
  suffices h : 97 + ((turn + 5 * (i : Int)) % 26).toNat = 97 + ((turn + 5 * (j : Int)) % 26).toNat by omega
  have hs : spot = 0 ∨ spot = 1 ∨ spot = 2 := by omega
  unfold nmL at e
  rcases hs with rfl | rfl | rfl
  · simp only [nmA, if_true, List.take_zero, List.nil_append, List.singleton_append, List.cons.injEq] at e
    exact e.1
  · simp only [nmA, show (1 : Int) ≠ 0 by decide, if_true, if_false, List.take_length, List.drop_length, List.append_nil] at e
    have := List.append_inj_right' e rfl
    simpa using this
  · have ep : nmP rest 2 size i = nmP rest 2 size j := by
      unfold nmP
      simp
    rw [ep] at e
    have := List.append_cancel_left (List.append_cancel_right e)
    simpa using this
def NmL (ns : List (List Nat)) : Prop := ns.Nodup ∧ ∀ s ∈ ns, s.all (· < 0x110000) = true
theorem nodup_map {α β : Type} {f : α → β} : ∀ {l : List α}, l.Nodup → (∀ a ∈ l, ∀ b ∈ l, f a = f b → a = b) → (l.map f).Nodup
  | [], _, _ => List.nodup_nil
  | x :: l, h, k => by
    rw [List.nodup_cons] at h
    rw [List.map_cons, List.nodup_cons]
    refine ⟨fun z => ?_, nodup_map h.2 fun a ha b hb => k a (List.mem_cons_of_mem _ ha) b (List.mem_cons_of_mem _ hb)⟩
    obtain ⟨y, hy, e⟩ := List.mem_map.mp z
    have := k y (List.mem_cons_of_mem _ hy) x List.mem_cons_self e
    subst this
    exact h.1 hy
theorem nm_ok {rest : List Nat} {spot turn size : Int} {n : Nat} (h0 : 0 ≤ spot) (h3 : spot < 3) (hn : n ≤ 26) (hr : ∀ c ∈ rest, c < 0x110000) : NmL ((List.range n).map (nmL rest spot turn size)) := by
  refine ⟨nodup_map List.nodup_range fun a ha b hb e => nm_inj h0 h3 (by have := List.mem_range.mp ha; omega) (by have := List.mem_range.mp hb; omega) e, fun s hs => ?_⟩
  obtain ⟨k, _, rfl⟩ := List.mem_map.mp hs
  rw [List.all_eq_true]
  intro c hc
  unfold nmL nmP at hc
  simp only [List.mem_append, List.mem_singleton] at hc
  rw [decide_eq_true_eq]
  rcases hc with (hc | hc) | hc
  · exact hr c (List.mem_of_mem_take (List.mem_of_mem_take hc))
  · omega
  · exact hr c (List.mem_of_mem_take (List.mem_of_mem_drop hc))
theorem len_flat {zs : List (List Nat)} (h : ∀ z ∈ zs, z.length = 1) : (zs.map (·.length)).sum = zs.length := by
  induction zs with
  | nil => rfl
  | cons z zs ih =>
    rw [List.map_cons, List.sum_cons, ih fun w hw => h w (List.mem_cons_of_mem _ hw), h z List.mem_cons_self, List.length_cons]
    omega
def CodOk (l : List Nat) : Prop := ∀ c ∈ l, c < 0x110000
theorem letters_step {S1 : List Ob} {p n i : Nat} {rest : List Nat} {spot turn size : Int} (hs0 : 0 ≤ spot) (hs3 : spot < 3) (hr : rest.length ≤ 100) {s9 s10 : Sl} {done : List T} {Φ : Fl → Stt → Prop} (hd : done.length ≤ 1000) (k : ∀ s9 s10, Φ .nxt ⟨[.val (.ref p), .val (.int n), .val (.str smallL), .val (.str rest), .val (.int i), .val (.int spot), .val (.int turn), .val (.int size), .own (.lst (done ++ [.str (nmL rest spot turn size i)])), s9, s10], S1⟩) : W
    (cSeq (cSet 9 (eSliceU (oVar 3) pNo (pSome (eOp2 modO (oE (eOp2 addU (oVar 7) (oE (eOp2 mulU (oVar 4) (oE (eOp2 modO (oVar 5) (oE (pure (.int 2))))))))) (oE (pure (.int 8)))))))
    (cSeq (cSet 10 (eOp2 ixU (oE (eFz (fLst (aCons (pure (.int 0)) (aCons (eCall lenO (oCons (oVar 9) oNil)) (aCons (eOp2 divO (oE (eCall lenO (oCons (oVar 9) oNil))) (oE (pure (.int 2)))) aNil)))))) (oVar 5)))
    (cExpr (eLst appendF (mVar 8) (aCons (eOp2 addU (oE (eOp2 addU (oE (eSliceU (oVar 9) pNo (pSome (eVar 10)))) (oE (eOp2 ixU (oVar 2) (oE (eOp2 modO (oE (eOp2 addU (oVar 6) (oE (eOp2 mulU (oE (pure (.int 5))) (oVar 4))))) (oE (pure (.int 26))))))))) (oE (eSliceU (oVar 9) (pSome (eVar 10)) pNo))) aNil)))))
    ⟨[.val (.ref p), .val (.int n), .val (.str smallL), .val (.str rest), .val (.int i), .val (.int spot), .val (.int turn), .val (.int size), .own (.lst done), s9, s10], S1⟩ Φ := by
  refine W_let (fun t => t = .str (nmP rest spot size i)) ?_ ?_
  · simp (disch := decide) only [W_pure, W_ofO, W_eVar, W_oVar, W_eFrz, W_oE, W_eOp2, W_eChain, W_asB, W_bNot, W_bAnd, W_bOr, W_eNot, W_eAnd, W_eOr, W_eIf, W_eNeg, W_aNil, W_aCons, W_oNil, W_oCons, W_eTup, W_fLst, W_eFz, W_eBox, W_fDic, W_eCall, W_fCall, W_pNo, W_pSome, W_eSliceU, W_fSlice, W_fRev, W_eLst, W_eLst0, W_mVar, W_mRef, W_eMeth, W_eFn, W_cSeq, W_cRet, W_cExpr, W_cIf, W_cSet, W_cOwn, W_cUnp, W_cSetIx, W_cPut, W_iU, W_iVar, W_iRange, W_iEnumU, W_iZipU, W_cFor, W_bYes, Op_some, Op_none, Op_ite, Op_map, Op_bind, Op_rdAll, rdAll_nil, Bw_bl, rVar, peekS, peekT, pVar, pRef, Lw_lst, setS, lstAt_fz, lenO_fz, lenO_str, list_fz, wipe_1, wipe_2, rest_1, rest_2, List.all_cons, List.all_nil, notOwn, W_fComp, asg_2, asg_n, turn_n, turn_c, turn_b, turn_r, List.getElem?_cons_zero, List.getElem?_cons_succ, List.getElem?_nil, List.set_cons_zero, List.set_cons_succ, List.map_cons, List.map_nil, List.cons_append, List.nil_append, List.length_cons, List.length_nil, Option.getD_some, Bool.and_true, Bool.and_self, Option.bind_some, Option.map_some, List.replicate_succ, List.replicate_zero, decide_eq_true_eq, Bool.not_true, Bool.not_false, Bool.not_eq_true', if_true, if_false, reduceIte, reduceCtorEq, Nat.reduceAdd, Nat.reduceSub, Nat.reduceLeDiff, true_and, and_true, ix_n, ix_0, ix_1, ix_2, ix_t0, ix_t1, ix_t2, set_1, set_2, add_i, sub_i, mod_i, div_i, lt_i, le_i, gt_i, ge_i, eq_i, ne_i, p1018, p1017]
    rw [mul_r (by omega) (by omega)]
    simp (disch := decide) only [W_pure, W_ofO, W_eVar, W_oVar, W_eFrz, W_oE, W_eOp2, W_eChain, W_asB, W_bNot, W_bAnd, W_bOr, W_eNot, W_eAnd, W_eOr, W_eIf, W_eNeg, W_aNil, W_aCons, W_oNil, W_oCons, W_eTup, W_fLst, W_eFz, W_eBox, W_fDic, W_eCall, W_fCall, W_pNo, W_pSome, W_eSliceU, W_fSlice, W_fRev, W_eLst, W_eLst0, W_mVar, W_mRef, W_eMeth, W_eFn, W_cSeq, W_cRet, W_cExpr, W_cIf, W_cSet, W_cOwn, W_cUnp, W_cSetIx, W_cPut, W_iU, W_iVar, W_iRange, W_iEnumU, W_iZipU, W_cFor, W_bYes, Op_some, Op_none, Op_ite, Op_map, Op_bind, Op_rdAll, rdAll_nil, Bw_bl, rVar, peekS, peekT, pVar, pRef, Lw_lst, setS, lstAt_fz, lenO_fz, lenO_str, list_fz, wipe_1, wipe_2, rest_1, rest_2, List.all_cons, List.all_nil, notOwn, W_fComp, asg_2, asg_n, turn_n, turn_c, turn_b, turn_r, List.getElem?_cons_zero, List.getElem?_cons_succ, List.getElem?_nil, List.set_cons_zero, List.set_cons_succ, List.map_cons, List.map_nil, List.cons_append, List.nil_append, List.length_cons, List.length_nil, Option.getD_some, Bool.and_true, Bool.and_self, Option.bind_some, Option.map_some, List.replicate_succ, List.replicate_zero, decide_eq_true_eq, Bool.not_true, Bool.not_false, Bool.not_eq_true', if_true, if_false, reduceIte, reduceCtorEq, Nat.reduceAdd, Nat.reduceSub, Nat.reduceLeDiff, true_and, and_true, ix_n, ix_0, ix_1, ix_2, ix_t0, ix_t1, ix_t2, set_1, set_2, add_i, sub_i, mod_i, div_i, lt_i, le_i, gt_i, ge_i, eq_i, ne_i, p1018, p1017]
    refine ⟨by omega, ?_⟩
    rw [cut_to (by omega)]
    rfl
  rintro _ rfl
  have hl : (nmP rest spot size i).length ≤ 100 := by
    unfold nmP
    rw [List.length_take]
    omega
  refine W_let (fun t => t = .int (nmA spot (nmP rest spot size i).length : Nat)) ?_ ?_
  · simp (disch := decide) only [W_pure, W_ofO, W_eVar, W_oVar, W_eFrz, W_oE, W_eOp2, W_eChain, W_asB, W_bNot, W_bAnd, W_bOr, W_eNot, W_eAnd, W_eOr, W_eIf, W_eNeg, W_aNil, W_aCons, W_oNil, W_oCons, W_eTup, W_fLst, W_eFz, W_eBox, W_fDic, W_eCall, W_fCall, W_pNo, W_pSome, W_eSliceU, W_fSlice, W_fRev, W_eLst, W_eLst0, W_mVar, W_mRef, W_eMeth, W_eFn, W_cSeq, W_cRet, W_cExpr, W_cIf, W_cSet, W_cOwn, W_cUnp, W_cSetIx, W_cPut, W_iU, W_iVar, W_iRange, W_iEnumU, W_iZipU, W_cFor, W_bYes, Op_some, Op_none, Op_ite, Op_map, Op_bind, Op_rdAll, rdAll_nil, Bw_bl, rVar, peekS, peekT, pVar, pRef, Lw_lst, setS, lstAt_fz, lenO_fz, lenO_str, list_fz, wipe_1, wipe_2, rest_1, rest_2, List.all_cons, List.all_nil, notOwn, W_fComp, asg_2, asg_n, turn_n, turn_c, turn_b, turn_r, List.getElem?_cons_zero, List.getElem?_cons_succ, List.getElem?_nil, List.set_cons_zero, List.set_cons_succ, List.map_cons, List.map_nil, List.cons_append, List.nil_append, List.length_cons, List.length_nil, Option.getD_some, Bool.and_true, Bool.and_self, Option.bind_some, Option.map_some, List.replicate_succ, List.replicate_zero, decide_eq_true_eq, Bool.not_true, Bool.not_false, Bool.not_eq_true', if_true, if_false, reduceIte, reduceCtorEq, Nat.reduceAdd, Nat.reduceSub, Nat.reduceLeDiff, true_and, and_true, ix_n, ix_0, ix_1, ix_2, ix_t0, ix_t1, ix_t2, set_1, set_2, add_i, sub_i, mod_i, div_i, lt_i, le_i, gt_i, ge_i, eq_i, ne_i, p1018, p1017]
    rw [ix_i hs0]
    have hs : spot = 0 ∨ spot = 1 ∨ spot = 2 := by omega
    refine ⟨by omega, by omega, ?_⟩
    rcases hs with rfl | rfl | rfl
    · rfl
    · rfl
    · rfl
  rintro _ rfl
  have ha : nmA spot (nmP rest spot size i).length ≤ (nmP rest spot size i).length := by
    unfold nmA
    split
    · omega
    · split <;> omega
  have hm : mulU (.int 5) (.int i) = some (.int (5 * i)) := mul_l (by decide) (by decide)
  have h26 : modO (.int (turn + 5 * i)) (.int 26) = some (.int ((turn + 5 * i) % 26)) := mod_i (by decide)
  have hsm := @ix_small ((turn + 5 * i) % 26) (Int.emod_nonneg _ (by decide)) (Int.emod_lt_of_pos _ (by decide))
  have hc : ∀ l : List Nat, cutL l none (some ((nmA spot (nmP rest spot size i).length : Nat) : Int)) = l.take (nmA spot (nmP rest spot size i).length) := fun l => by rw [cut_to (by omega)]; rfl
  have hc2 : ∀ l : List Nat, cutL l (some ((nmA spot (nmP rest spot size i).length : Nat) : Int)) none = l.drop (nmA spot (nmP rest spot size i).length) := fun l => by rw [cut_from (by omega)]; rfl
  have ht : ((nmP rest spot size i).take (nmA spot (nmP rest spot size i).length)).length ≤ 100 := by rw [List.length_take]; omega
  have hdr : ((nmP rest spot size i).drop (nmA spot (nmP rest spot size i).length)).length ≤ 100 := by rw [List.length_drop]; omega
  rw [W_cExpr, W_eLst]
  simp only [W_mVar, pVar, List.getElem?_cons_zero, List.getElem?_cons_succ, List.getElem?_nil, List.set_cons_zero, List.set_cons_succ, List.map_cons, List.map_nil, List.cons_append, List.nil_append, List.length_cons, List.length_nil, Option.getD_some, Bool.and_true, Bool.and_self, Option.bind_some, Option.map_some, List.replicate_succ, List.replicate_zero, decide_eq_true_eq, Bool.not_true, Bool.not_false, Bool.not_eq_true', if_true, if_false, reduceIte, reduceCtorEq, Nat.reduceAdd, Nat.reduceSub, Nat.reduceLeDiff, true_and, and_true, Lw_lst, Op_some]
  rw [W_aCons, W_eOp2, W_oE, W_eOp2, W_oE]
  simp only [W_eSliceU, W_pNo, W_pSome, W_eVar, W_oVar, rVar, peekS, peekT, List.getElem?_cons_zero, List.getElem?_cons_succ, List.getElem?_nil, List.set_cons_zero, List.set_cons_succ, List.map_cons, List.map_nil, List.cons_append, List.nil_append, List.length_cons, List.length_nil, Option.getD_some, Bool.and_true, Bool.and_self, Option.bind_some, Option.map_some, List.replicate_succ, List.replicate_zero, decide_eq_true_eq, Bool.not_true, Bool.not_false, Bool.not_eq_true', if_true, if_false, reduceIte, reduceCtorEq, Nat.reduceAdd, Nat.reduceSub, Nat.reduceLeDiff, true_and, and_true, Op_some, hc, hc2]
  refine ⟨by omega, ?_⟩
  simp only [W_eSliceU, W_oE, W_eOp2, W_pure, W_pNo, W_pSome, W_eVar, W_oVar, rVar, peekS, peekT, List.getElem?_cons_zero, List.getElem?_cons_succ, List.getElem?_nil, List.set_cons_zero, List.set_cons_succ, List.map_cons, List.map_nil, List.cons_append, List.nil_append, List.length_cons, List.length_nil, Option.getD_some, Bool.and_true, Bool.and_self, Option.bind_some, Option.map_some, List.replicate_succ, List.replicate_zero, decide_eq_true_eq, Bool.not_true, Bool.not_false, Bool.not_eq_true', if_true, if_false, reduceIte, reduceCtorEq, Nat.reduceAdd, Nat.reduceSub, Nat.reduceLeDiff, true_and, and_true, Op_some, hc, hc2, hm, add_i, h26, hsm, W_aNil]
  rw [add_s (by simp; omega), Op_some]
  simp only [peekT, Op_some]
  refine ⟨by omega, ?_⟩
  rw [add_s (by simp; omega), Op_some]
  simp only [Lw_lst]
  rw [append_i (by omega), Op_some]
  exact k _ _
theorem letters_ok {S : List Ob} {p n : Nat} (h : IsPot S p) (hn : n ≤ 26) : Fw m__law_letters [.ref p, .int n] S (fun t S' => Pt p S S' ∧ ∃ ns : List (List Nat), t = .fz (ns.map .str) ∧ NmL ns ∧ ns.length = n) := by
  unfold m__law_letters
  rw [Fw_fnM]
  unfold b__law_letters
  refine W_seq (fun st1 => st1 = ⟨[.val (.ref p), .val (.int n), .val (.str smallL), .emp, .emp, .emp, .emp, .emp, .emp, .emp, .emp], S⟩) ?_ ?_
  · simp only [W_pure, W_ofO, W_eVar, W_oVar, W_eFrz, W_oE, W_eOp2, W_eChain, W_asB, W_bNot, W_bAnd, W_bOr, W_eNot, W_eAnd, W_eOr, W_eIf, W_eNeg, W_aNil, W_aCons, W_oNil, W_oCons, W_eTup, W_fLst, W_eFz, W_eBox, W_fDic, W_eCall, W_fCall, W_pNo, W_pSome, W_eSliceU, W_fSlice, W_fRev, W_eLst, W_eLst0, W_mVar, W_mRef, W_eMeth, W_eFn, W_cSeq, W_cRet, W_cExpr, W_cIf, W_cSet, W_cOwn, W_cUnp, W_cSetIx, W_cPut, W_iU, W_iVar, W_iRange, W_iEnumU, W_iZipU, W_cFor, W_bYes, Op_some, Op_none, Op_ite, Op_map, Op_bind, Op_rdAll, rdAll_nil, Bw_bl, rVar, peekS, peekT, pVar, pRef, Lw_lst, setS, lstAt_fz, lenO_fz, lenO_str, list_fz, wipe_1, wipe_2, rest_1, rest_2, List.all_cons, List.all_nil, notOwn, W_fComp, asg_2, asg_n, turn_n, turn_c, turn_b, turn_r, List.getElem?_cons_zero, List.getElem?_cons_succ, List.getElem?_nil, List.set_cons_zero, List.set_cons_succ, List.map_cons, List.map_nil, List.cons_append, List.nil_append, List.length_cons, List.length_nil, Option.getD_some, Bool.and_true, Bool.and_self, Option.bind_some, Option.map_some, List.replicate_succ, List.replicate_zero, decide_eq_true_eq, Bool.not_true, Bool.not_false, Bool.not_eq_true', if_true, if_false, reduceIte, reduceCtorEq, Nat.reduceAdd, Nat.reduceSub, Nat.reduceLeDiff, true_and, and_true]
    rfl
  rintro _ rfl
  refine W_seq (fun st1 => ∃ rest S1, Pt p S S1 ∧ rest.length ≤ 100 ∧ CodOk rest ∧ st1 = ⟨[.val (.ref p), .val (.int n), .val (.str smallL), .val (.str rest), .emp, .emp, .emp, .emp, .emp, .emp, .emp], S1⟩) ?_ ?_
  · simp only [W_pure, W_ofO, W_eVar, W_oVar, W_eFrz, W_oE, W_eOp2, W_eChain, W_asB, W_bNot, W_bAnd, W_bOr, W_eNot, W_eAnd, W_eOr, W_eIf, W_eNeg, W_aNil, W_aCons, W_oNil, W_oCons, W_eTup, W_fLst, W_eFz, W_eBox, W_fDic, W_eCall, W_fCall, W_pNo, W_pSome, W_eSliceU, W_fSlice, W_fRev, W_eLst, W_eLst0, W_mVar, W_mRef, W_eMeth, W_eFn, W_cSeq, W_cRet, W_cExpr, W_cIf, W_cSet, W_cOwn, W_cUnp, W_cSetIx, W_cPut, W_iU, W_iVar, W_iRange, W_iEnumU, W_iZipU, W_cFor, W_bYes, Op_some, Op_none, Op_ite, Op_map, Op_bind, Op_rdAll, rdAll_nil, Bw_bl, rVar, peekS, peekT, pVar, pRef, Lw_lst, setS, lstAt_fz, lenO_fz, lenO_str, list_fz, wipe_1, wipe_2, rest_1, rest_2, List.all_cons, List.all_nil, notOwn, W_fComp, asg_2, asg_n, turn_n, turn_c, turn_b, turn_r, List.getElem?_cons_zero, List.getElem?_cons_succ, List.getElem?_nil, List.set_cons_zero, List.set_cons_succ, List.map_cons, List.map_nil, List.cons_append, List.nil_append, List.length_cons, List.length_nil, Option.getD_some, Bool.and_true, Bool.and_self, Option.bind_some, Option.map_some, List.replicate_succ, List.replicate_zero, decide_eq_true_eq, Bool.not_true, Bool.not_false, Bool.not_eq_true', if_true, if_false, reduceIte, reduceCtorEq, Nat.reduceAdd, Nat.reduceSub, Nat.reduceLeDiff, true_and, and_true, tyOk]
    refine ⟨by decide, ⟨by decide, by decide⟩, by simp, ?_⟩
    refine Op_lcI (fun i done st1 => ∃ zs S1, Pt p S S1 ∧ zs.length = i ∧ (∀ z ∈ zs, z.length = 1 ∧ ∀ c ∈ z, c < 0x110000) ∧ done = zs.map .str ∧ st1 = ⟨[.val (.ref p), .val (.int n), .val (.str smallL), .emp, .emp, .emp, .emp, .emp, .emp, .emp, .emp], S1⟩) ⟨[], _, .refl h, rfl, by simp, rfl, rfl⟩ ?_ ?_ ?_
    · rintro i t _ _ ht ⟨zs, S1, h1, h2, h3, rfl, rfl⟩
      refine ⟨trivial, ?_⟩
      simp only [W_pure, W_ofO, W_eVar, W_oVar, W_eFrz, W_oE, W_eOp2, W_eChain, W_asB, W_bNot, W_bAnd, W_bOr, W_eNot, W_eAnd, W_eOr, W_eIf, W_eNeg, W_aNil, W_aCons, W_oNil, W_oCons, W_eTup, W_fLst, W_eFz, W_eBox, W_fDic, W_eCall, W_fCall, W_pNo, W_pSome, W_eSliceU, W_fSlice, W_fRev, W_eLst, W_eLst0, W_mVar, W_mRef, W_eMeth, W_eFn, W_cSeq, W_cRet, W_cExpr, W_cIf, W_cSet, W_cOwn, W_cUnp, W_cSetIx, W_cPut, W_iU, W_iVar, W_iRange, W_iEnumU, W_iZipU, W_cFor, W_bYes, Op_some, Op_none, Op_ite, Op_map, Op_bind, Op_rdAll, rdAll_nil, Bw_bl, rVar, peekS, peekT, pVar, pRef, Lw_lst, setS, lstAt_fz, lenO_fz, lenO_str, list_fz, wipe_1, wipe_2, rest_1, rest_2, List.all_cons, List.all_nil, notOwn, W_fComp, asg_2, asg_n, turn_n, turn_c, turn_b, turn_r, List.getElem?_cons_zero, List.getElem?_cons_succ, List.getElem?_nil, List.set_cons_zero, List.set_cons_succ, List.map_cons, List.map_nil, List.cons_append, List.nil_append, List.length_cons, List.length_nil, Option.getD_some, Bool.and_true, Bool.and_self, Option.bind_some, Option.map_some, List.replicate_succ, List.replicate_zero, decide_eq_true_eq, Bool.not_true, Bool.not_false, Bool.not_eq_true', if_true, if_false, reduceIte, reduceCtorEq, Nat.reduceAdd, Nat.reduceSub, Nat.reduceLeDiff, true_and, and_true, ix_n, ix_0, ix_1, ix_2, ix_t0, ix_t1, ix_t2, set_1, set_2, add_i, sub_i, mod_i, div_i, lt_i, le_i, gt_i, ge_i, eq_i, ne_i, p1018, p1017]
      refine pick_w h1.1 (by decide) (by decide) fun x S2 h5 hx hx2 => ?_
      simp only [W_pure, W_ofO, W_eVar, W_oVar, W_eFrz, W_oE, W_eOp2, W_eChain, W_asB, W_bNot, W_bAnd, W_bOr, W_eNot, W_eAnd, W_eOr, W_eIf, W_eNeg, W_aNil, W_aCons, W_oNil, W_oCons, W_eTup, W_fLst, W_eFz, W_eBox, W_fDic, W_eCall, W_fCall, W_pNo, W_pSome, W_eSliceU, W_fSlice, W_fRev, W_eLst, W_eLst0, W_mVar, W_mRef, W_eMeth, W_eFn, W_cSeq, W_cRet, W_cExpr, W_cIf, W_cSet, W_cOwn, W_cUnp, W_cSetIx, W_cPut, W_iU, W_iVar, W_iRange, W_iEnumU, W_iZipU, W_cFor, W_bYes, Op_some, Op_none, Op_ite, Op_map, Op_bind, Op_rdAll, rdAll_nil, Bw_bl, rVar, peekS, peekT, pVar, pRef, Lw_lst, setS, lstAt_fz, lenO_fz, lenO_str, list_fz, wipe_1, wipe_2, rest_1, rest_2, List.all_cons, List.all_nil, notOwn, W_fComp, asg_2, asg_n, turn_n, turn_c, turn_b, turn_r, List.getElem?_cons_zero, List.getElem?_cons_succ, List.getElem?_nil, List.set_cons_zero, List.set_cons_succ, List.map_cons, List.map_nil, List.cons_append, List.nil_append, List.length_cons, List.length_nil, Option.getD_some, Bool.and_true, Bool.and_self, Option.bind_some, Option.map_some, List.replicate_succ, List.replicate_zero, decide_eq_true_eq, Bool.not_true, Bool.not_false, Bool.not_eq_true', if_true, if_false, reduceIte, reduceCtorEq, Nat.reduceAdd, Nat.reduceSub, Nat.reduceLeDiff, true_and, and_true, ix_n, ix_0, ix_1, ix_2, ix_t0, ix_t1, ix_t2, set_1, set_2, add_i, sub_i, mod_i, div_i, lt_i, le_i, gt_i, ge_i, eq_i, ne_i, p1018, p1017, ix_small hx hx2]
      refine ⟨zs ++ [[97 + x.toNat]], S2, h1.trans h5, by simp [h2], ?_, by simp, rfl⟩
      intro z hz
      rw [List.mem_append, List.mem_singleton] at hz
      rcases hz with hz | rfl
      · exact h3 z hz
      · exact ⟨rfl, by simp; omega⟩
    · exact fun _ _ _ => trivial
    · rintro _ _ ⟨zs, S1, h1, h2, h3, rfl, rfl⟩
      have e : zs.length = 7 := by rw [h2]; rfl
      simp only [W_pure, W_ofO, W_eVar, W_oVar, W_eFrz, W_oE, W_eOp2, W_eChain, W_asB, W_bNot, W_bAnd, W_bOr, W_eNot, W_eAnd, W_eOr, W_eIf, W_eNeg, W_aNil, W_aCons, W_oNil, W_oCons, W_eTup, W_fLst, W_eFz, W_eBox, W_fDic, W_eCall, W_fCall, W_pNo, W_pSome, W_eSliceU, W_fSlice, W_fRev, W_eLst, W_eLst0, W_mVar, W_mRef, W_eMeth, W_eFn, W_cSeq, W_cRet, W_cExpr, W_cIf, W_cSet, W_cOwn, W_cUnp, W_cSetIx, W_cPut, W_iU, W_iVar, W_iRange, W_iEnumU, W_iZipU, W_cFor, W_bYes, Op_some, Op_none, Op_ite, Op_map, Op_bind, Op_rdAll, rdAll_nil, Bw_bl, rVar, peekS, peekT, pVar, pRef, Lw_lst, setS, lstAt_fz, lenO_fz, lenO_str, list_fz, wipe_1, wipe_2, rest_1, rest_2, List.all_cons, List.all_nil, notOwn, W_fComp, asg_2, asg_n, turn_n, turn_c, turn_b, turn_r, List.getElem?_cons_zero, List.getElem?_cons_succ, List.getElem?_nil, List.set_cons_zero, List.set_cons_succ, List.map_cons, List.map_nil, List.cons_append, List.nil_append, List.length_cons, List.length_nil, Option.getD_some, Bool.and_true, Bool.and_self, Option.bind_some, Option.map_some, List.replicate_succ, List.replicate_zero, decide_eq_true_eq, Bool.not_true, Bool.not_false, Bool.not_eq_true', if_true, if_false, reduceIte, reduceCtorEq, Nat.reduceAdd, Nat.reduceSub, Nat.reduceLeDiff, true_and, and_true, ix_n, ix_0, ix_1, ix_2, ix_t0, ix_t1, ix_t2, set_1, set_2, add_i, sub_i, mod_i, div_i, lt_i, le_i, gt_i, ge_i, eq_i, ne_i, p1018, p1017, joinF, strsO_map, len_flat fun z hz => (h3 z hz).1]
      rw [e]
      refine ⟨by decide, TL.joinL [] zs, S1, h1, ?_, ?_, rfl⟩
      · rw [joinL_nil, List.length_flatten, len_flat fun z hz => (h3 z hz).1, e]
        decide
      · intro c hc
        rw [joinL_nil] at hc
        obtain ⟨z, hz, hc⟩ := List.mem_flatten.mp hc
        exact (h3 z hz).2 c hc
  rintro _ ⟨rest, S1, h1, hr, hrc, rfl⟩
  refine W_seq (fun st1 => ∃ spot S1, Pt p S S1 ∧ 0 ≤ spot ∧ spot < 3 ∧ st1 = ⟨[.val (.ref p), .val (.int n), .val (.str smallL), .val (.str rest), .emp, .val (.int spot), .emp, .emp, .emp, .emp, .emp], S1⟩) ?_ ?_
  · simp only [W_pure, W_ofO, W_eVar, W_oVar, W_eFrz, W_oE, W_eOp2, W_eChain, W_asB, W_bNot, W_bAnd, W_bOr, W_eNot, W_eAnd, W_eOr, W_eIf, W_eNeg, W_aNil, W_aCons, W_oNil, W_oCons, W_eTup, W_fLst, W_eFz, W_eBox, W_fDic, W_eCall, W_fCall, W_pNo, W_pSome, W_eSliceU, W_fSlice, W_fRev, W_eLst, W_eLst0, W_mVar, W_mRef, W_eMeth, W_eFn, W_cSeq, W_cRet, W_cExpr, W_cIf, W_cSet, W_cOwn, W_cUnp, W_cSetIx, W_cPut, W_iU, W_iVar, W_iRange, W_iEnumU, W_iZipU, W_cFor, W_bYes, Op_some, Op_none, Op_ite, Op_map, Op_bind, Op_rdAll, rdAll_nil, Bw_bl, rVar, peekS, peekT, pVar, pRef, Lw_lst, setS, lstAt_fz, lenO_fz, lenO_str, list_fz, wipe_1, wipe_2, rest_1, rest_2, List.all_cons, List.all_nil, notOwn, W_fComp, asg_2, asg_n, turn_n, turn_c, turn_b, turn_r, List.getElem?_cons_zero, List.getElem?_cons_succ, List.getElem?_nil, List.set_cons_zero, List.set_cons_succ, List.map_cons, List.map_nil, List.cons_append, List.nil_append, List.length_cons, List.length_nil, Option.getD_some, Bool.and_true, Bool.and_self, Option.bind_some, Option.map_some, List.replicate_succ, List.replicate_zero, decide_eq_true_eq, Bool.not_true, Bool.not_false, Bool.not_eq_true', if_true, if_false, reduceIte, reduceCtorEq, Nat.reduceAdd, Nat.reduceSub, Nat.reduceLeDiff, true_and, and_true]
    refine pick_w h1.1 (by decide) (by decide) fun x S2 h5 hx hx2 => ?_
    exact ⟨x, S2, h1.trans h5, hx, hx2, rfl⟩
  clear h1
  rintro _ ⟨spot, S1, h1, hs0, hs3, rfl⟩
  refine W_seq (fun st1 => ∃ turn S1, Pt p S S1 ∧ 0 ≤ turn ∧ turn < 26 ∧ st1 = ⟨[.val (.ref p), .val (.int n), .val (.str smallL), .val (.str rest), .emp, .val (.int spot), .val (.int turn), .emp, .emp, .emp, .emp], S1⟩) ?_ ?_
  · simp only [W_pure, W_ofO, W_eVar, W_oVar, W_eFrz, W_oE, W_eOp2, W_eChain, W_asB, W_bNot, W_bAnd, W_bOr, W_eNot, W_eAnd, W_eOr, W_eIf, W_eNeg, W_aNil, W_aCons, W_oNil, W_oCons, W_eTup, W_fLst, W_eFz, W_eBox, W_fDic, W_eCall, W_fCall, W_pNo, W_pSome, W_eSliceU, W_fSlice, W_fRev, W_eLst, W_eLst0, W_mVar, W_mRef, W_eMeth, W_eFn, W_cSeq, W_cRet, W_cExpr, W_cIf, W_cSet, W_cOwn, W_cUnp, W_cSetIx, W_cPut, W_iU, W_iVar, W_iRange, W_iEnumU, W_iZipU, W_cFor, W_bYes, Op_some, Op_none, Op_ite, Op_map, Op_bind, Op_rdAll, rdAll_nil, Bw_bl, rVar, peekS, peekT, pVar, pRef, Lw_lst, setS, lstAt_fz, lenO_fz, lenO_str, list_fz, wipe_1, wipe_2, rest_1, rest_2, List.all_cons, List.all_nil, notOwn, W_fComp, asg_2, asg_n, turn_n, turn_c, turn_b, turn_r, List.getElem?_cons_zero, List.getElem?_cons_succ, List.getElem?_nil, List.set_cons_zero, List.set_cons_succ, List.map_cons, List.map_nil, List.cons_append, List.nil_append, List.length_cons, List.length_nil, Option.getD_some, Bool.and_true, Bool.and_self, Option.bind_some, Option.map_some, List.replicate_succ, List.replicate_zero, decide_eq_true_eq, Bool.not_true, Bool.not_false, Bool.not_eq_true', if_true, if_false, reduceIte, reduceCtorEq, Nat.reduceAdd, Nat.reduceSub, Nat.reduceLeDiff, true_and, and_true]
    refine pick_w h1.1 (by decide) (by decide) fun x S2 h5 hx hx2 => ?_
    exact ⟨x, S2, h1.trans h5, hx, hx2, rfl⟩
  clear h1
  rintro _ ⟨turn, S1, h1, ht0, ht1, rfl⟩
  refine W_seq (fun st1 => ∃ size S1, Pt p S S1 ∧ 0 ≤ size ∧ size < 8 ∧ st1 = ⟨[.val (.ref p), .val (.int n), .val (.str smallL), .val (.str rest), .emp, .val (.int spot), .val (.int turn), .val (.int size), .emp, .emp, .emp], S1⟩) ?_ ?_
  · simp only [W_pure, W_ofO, W_eVar, W_oVar, W_eFrz, W_oE, W_eOp2, W_eChain, W_asB, W_bNot, W_bAnd, W_bOr, W_eNot, W_eAnd, W_eOr, W_eIf, W_eNeg, W_aNil, W_aCons, W_oNil, W_oCons, W_eTup, W_fLst, W_eFz, W_eBox, W_fDic, W_eCall, W_fCall, W_pNo, W_pSome, W_eSliceU, W_fSlice, W_fRev, W_eLst, W_eLst0, W_mVar, W_mRef, W_eMeth, W_eFn, W_cSeq, W_cRet, W_cExpr, W_cIf, W_cSet, W_cOwn, W_cUnp, W_cSetIx, W_cPut, W_iU, W_iVar, W_iRange, W_iEnumU, W_iZipU, W_cFor, W_bYes, Op_some, Op_none, Op_ite, Op_map, Op_bind, Op_rdAll, rdAll_nil, Bw_bl, rVar, peekS, peekT, pVar, pRef, Lw_lst, setS, lstAt_fz, lenO_fz, lenO_str, list_fz, wipe_1, wipe_2, rest_1, rest_2, List.all_cons, List.all_nil, notOwn, W_fComp, asg_2, asg_n, turn_n, turn_c, turn_b, turn_r, List.getElem?_cons_zero, List.getElem?_cons_succ, List.getElem?_nil, List.set_cons_zero, List.set_cons_succ, List.map_cons, List.map_nil, List.cons_append, List.nil_append, List.length_cons, List.length_nil, Option.getD_some, Bool.and_true, Bool.and_self, Option.bind_some, Option.map_some, List.replicate_succ, List.replicate_zero, decide_eq_true_eq, Bool.not_true, Bool.not_false, Bool.not_eq_true', if_true, if_false, reduceIte, reduceCtorEq, Nat.reduceAdd, Nat.reduceSub, Nat.reduceLeDiff, true_and, and_true]
    refine pick_w h1.1 (by decide) (by decide) fun x S2 h5 hx hx2 => ?_
    exact ⟨x, S2, h1.trans h5, hx, hx2, rfl⟩
  clear h1
  rintro _ ⟨size, S1, h1, hz0, hz1, rfl⟩
  refine W_seq (fun st1 => st1 = ⟨[.val (.ref p), .val (.int n), .val (.str smallL), .val (.str rest), .emp, .val (.int spot), .val (.int turn), .val (.int size), .own (.lst []), .emp, .emp], S1⟩) ?_ ?_
  · simp only [W_pure, W_ofO, W_eVar, W_oVar, W_eFrz, W_oE, W_eOp2, W_eChain, W_asB, W_bNot, W_bAnd, W_bOr, W_eNot, W_eAnd, W_eOr, W_eIf, W_eNeg, W_aNil, W_aCons, W_oNil, W_oCons, W_eTup, W_fLst, W_eFz, W_eBox, W_fDic, W_eCall, W_fCall, W_pNo, W_pSome, W_eSliceU, W_fSlice, W_fRev, W_eLst, W_eLst0, W_mVar, W_mRef, W_eMeth, W_eFn, W_cSeq, W_cRet, W_cExpr, W_cIf, W_cSet, W_cOwn, W_cUnp, W_cSetIx, W_cPut, W_iU, W_iVar, W_iRange, W_iEnumU, W_iZipU, W_cFor, W_bYes, Op_some, Op_none, Op_ite, Op_map, Op_bind, Op_rdAll, rdAll_nil, Bw_bl, rVar, peekS, peekT, pVar, pRef, Lw_lst, setS, lstAt_fz, lenO_fz, lenO_str, list_fz, wipe_1, wipe_2, rest_1, rest_2, List.all_cons, List.all_nil, notOwn, W_fComp, asg_2, asg_n, turn_n, turn_c, turn_b, turn_r, List.getElem?_cons_zero, List.getElem?_cons_succ, List.getElem?_nil, List.set_cons_zero, List.set_cons_succ, List.map_cons, List.map_nil, List.cons_append, List.nil_append, List.length_cons, List.length_nil, Option.getD_some, Bool.and_true, Bool.and_self, Option.bind_some, Option.map_some, List.replicate_succ, List.replicate_zero, decide_eq_true_eq, Bool.not_true, Bool.not_false, Bool.not_eq_true', if_true, if_false, reduceIte, reduceCtorEq, Nat.reduceAdd, Nat.reduceSub, Nat.reduceLeDiff, true_and, and_true]
  rintro _ rfl
  refine W_seq (fun st1 => ∃ s4 s9 s10, st1 = ⟨[.val (.ref p), .val (.int n), .val (.str smallL), .val (.str rest), s4, .val (.int spot), .val (.int turn), .val (.int size), .own (.lst ((List.range n).map fun k => .str (nmL rest spot turn size k))), s9, s10], S1⟩) ?_ ?_
  · simp only [W_pure, W_ofO, W_eVar, W_oVar, W_eFrz, W_oE, W_eOp2, W_eChain, W_asB, W_bNot, W_bAnd, W_bOr, W_eNot, W_eAnd, W_eOr, W_eIf, W_eNeg, W_aNil, W_aCons, W_oNil, W_oCons, W_eTup, W_fLst, W_eFz, W_eBox, W_fDic, W_eCall, W_fCall, W_pNo, W_pSome, W_eSliceU, W_fSlice, W_fRev, W_eLst, W_eLst0, W_mVar, W_mRef, W_eMeth, W_eFn, W_cSeq, W_cRet, W_cExpr, W_cIf, W_cSet, W_cOwn, W_cUnp, W_cSetIx, W_cPut, W_iU, W_iVar, W_iRange, W_iEnumU, W_iZipU, W_cFor, W_bYes, Op_some, Op_none, Op_ite, Op_map, Op_bind, Op_rdAll, rdAll_nil, Bw_bl, rVar, peekS, peekT, pVar, pRef, Lw_lst, setS, lstAt_fz, lenO_fz, lenO_str, list_fz, wipe_1, wipe_2, rest_1, rest_2, List.all_cons, List.all_nil, notOwn, W_fComp, asg_2, asg_n, turn_n, turn_c, turn_b, turn_r, List.getElem?_cons_zero, List.getElem?_cons_succ, List.getElem?_nil, List.set_cons_zero, List.set_cons_succ, List.map_cons, List.map_nil, List.cons_append, List.nil_append, List.length_cons, List.length_nil, Option.getD_some, Bool.and_true, Bool.and_self, Option.bind_some, Option.map_some, List.replicate_succ, List.replicate_zero, decide_eq_true_eq, Bool.not_true, Bool.not_false, Bool.not_eq_true', if_true, if_false, reduceIte, reduceCtorEq, Nat.reduceAdd, Nat.reduceSub, Nat.reduceLeDiff, true_and, and_true]
    refine ⟨by omega, ?_⟩
    refine W_forL (fun i st1 => ∃ s4 s9 s10, st1 = ⟨[.val (.ref p), .val (.int n), .val (.str smallL), .val (.str rest), s4, .val (.int spot), .val (.int turn), .val (.int size), .own (.lst ((List.range i).map fun k => .str (nmL rest spot turn size k))), s9, s10], S1⟩) _ 0 _ ⟨_, _, _, rfl⟩ ?_ ?_
    · rintro i t _ ht ⟨s4, s9, s10, rfl⟩
      obtain ⟨hi, hq⟩ := range_get ht
      refine ⟨trivial, ?_⟩
      rw [hq]
      exact Op.of asg_n (letters_step hs0 hs3 hr (by simp; omega) fun s9 s10 => ⟨_, _, _, by rw [Nat.zero_add, List.range_succ, List.map_append]; rfl⟩)
    · rintro _ ⟨s4, s9, s10, rfl⟩
      have e : 0 + ((List.range (n : Int).toNat).map fun k : Nat => T.int (k : Int)).length = n := by simp
      rw [e]
      exact ⟨trivial, rfl, _, _, _, rfl⟩
  rintro _ ⟨s4, s9, s10, rfl⟩
  simp only [W_pure, W_ofO, W_eVar, W_oVar, W_eFrz, W_oE, W_eOp2, W_eChain, W_asB, W_bNot, W_bAnd, W_bOr, W_eNot, W_eAnd, W_eOr, W_eIf, W_eNeg, W_aNil, W_aCons, W_oNil, W_oCons, W_eTup, W_fLst, W_eFz, W_eBox, W_fDic, W_eCall, W_fCall, W_pNo, W_pSome, W_eSliceU, W_fSlice, W_fRev, W_eLst, W_eLst0, W_mVar, W_mRef, W_eMeth, W_eFn, W_cSeq, W_cRet, W_cExpr, W_cIf, W_cSet, W_cOwn, W_cUnp, W_cSetIx, W_cPut, W_iU, W_iVar, W_iRange, W_iEnumU, W_iZipU, W_cFor, W_bYes, Op_some, Op_none, Op_ite, Op_map, Op_bind, Op_rdAll, rdAll_nil, Bw_bl, rVar, peekS, peekT, pVar, pRef, Lw_lst, setS, lstAt_fz, lenO_fz, lenO_str, list_fz, wipe_1, wipe_2, rest_1, rest_2, List.all_cons, List.all_nil, notOwn, W_fComp, asg_2, asg_n, turn_n, turn_c, turn_b, turn_r, List.getElem?_cons_zero, List.getElem?_cons_succ, List.getElem?_nil, List.set_cons_zero, List.set_cons_succ, List.map_cons, List.map_nil, List.cons_append, List.nil_append, List.length_cons, List.length_nil, Option.getD_some, Bool.and_true, Bool.and_self, Option.bind_some, Option.map_some, List.replicate_succ, List.replicate_zero, decide_eq_true_eq, Bool.not_true, Bool.not_false, Bool.not_eq_true', if_true, if_false, reduceIte, reduceCtorEq, Nat.reduceAdd, Nat.reduceSub, Nat.reduceLeDiff, true_and, and_true]
  refine ⟨h1, (List.range n).map (nmL rest spot turn size), by simp, nm_ok hs0 hs3 hn hrc, by simp⟩
end Lw
namespace Lw
open PySem PySem.Spec PyProof.Rows L2 Sw Classical
theorem get_inj {ns : List (List Nat)} (h : ns.Nodup) {a b : Nat} (ha : a < ns.length) (hb : b < ns.length) (e : ns.getD a [] = ns.getD b []) : a = b := by
  refine (List.getElem?_inj ha h).mp ?_
  rw [List.getD_eq_getElem?_getD, List.getD_eq_getElem?_getD, List.getElem?_eq_getElem ha, List.getElem?_eq_getElem hb] at e
  rw [List.getElem?_eq_getElem ha, List.getElem?_eq_getElem hb]
  exact congrArg some e
theorem NmL.pick {ns : List (List Nat)} (h : NmL ns) {ks : List Nat} (hk : ks.Nodup) (hl : ∀ k ∈ ks, k < ns.length) : NmL (ks.map fun k => ns.getD k []) := by
  refine ⟨nodup_map hk fun a ha b hb e => get_inj h.1 (hl a ha) (hl b hb) e, fun s hs => ?_⟩
  obtain ⟨k, hk, rfl⟩ := List.mem_map.mp hs
  rw [List.getD_eq_getElem?_getD, List.getElem?_eq_getElem (hl k hk)]
  exact h.2 _ (List.getElem_mem _)
def numF (ns : List (List Nat)) : T → T
  | .int i => .str (ns.getD i.toNat [])
  | _ => .non
/-- the things of a list by their numbers -/
theorem byNum {ns : List (List Nat)} {ks : List Nat} (hl : ∀ k ∈ ks, k < ns.length) : ((intsL ks).filter fun _ => true).map (numF ns) = (ks.map fun k => ns.getD k []).map T.str := by
  rw [List.filter_eq_self.mpr (fun _ _ => rfl)]
  unfold intsL
  rw [List.map_map, List.map_map]
  rfl
theorem ix_str {ns : List (List Nat)} {k : Nat} (h : k < ns.length) : ixU (.fz (ns.map .str)) (.int k) = some (.str (ns.getD k [])) := by
  rw [ix_n, List.getElem?_map, List.getElem?_eq_getElem h, List.getD_eq_getElem?_getD, List.getElem?_eq_getElem h]
  rfl
def nm3 (turn : Int) (k : Nat) : List Nat := List.replicate (1 + (k : Int) % 8).toNat (97 + ((turn + (k : Int) / 8) % 26).toNat)
theorem nm3_ok {turn : Int} {n : Nat} (hn : n ≤ 26) : NmL ((List.range n).map (nm3 turn)) := by
  refine ⟨nodup_map List.nodup_range fun a ha b hb e => ?_, fun s hs => ?_⟩
  · have ha := List.mem_range.mp ha
    have hb := List.mem_range.mp hb
    unfold nm3 at e
    have h1 := congrArg List.length e
    rw [List.length_replicate, List.length_replicate] at h1
    have h2 : (97 + ((turn + (a : Int) / 8) % 26).toNat) = (97 + ((turn + (b : Int) / 8) % 26).toNat) := by
      have : (97 + ((turn + (a : Int) / 8) % 26).toNat) ∈ List.replicate (1 + (b : Int) % 8).toNat (97 + ((turn + (b : Int) / 8) % 26).toNat) := by
        rw [← e, List.mem_replicate]
        exact ⟨by omega, rfl⟩
      exact (List.mem_replicate.mp this).2
    omega
  · obtain ⟨k, _, rfl⟩ := List.mem_map.mp hs
    rw [List.all_eq_true]
    intro c hc
    unfold nm3 at hc
    have := (List.mem_replicate.mp hc).2
    rw [decide_eq_true_eq]
    omega
theorem mulS_i {c : Nat} {n : Int} (h : 0 ≤ n) (h2 : n ≤ 1000) : mulU (.str [c]) (.int n) = some (.str (List.replicate n.toNat c)) := by
  unfold mulU mulSO
  simp only
  rw [if_pos ⟨h, h2, by simp⟩, List.flatten_replicate_singleton]
theorem names_ok {S : List Ob} {p n : Nat} (h : IsPot S p) (hn : n ≤ 26) : Fw m__law_names [.ref p, .int n] S (fun t S' => Pt p S S' ∧ ∃ ns : List (List Nat), t = .fz (ns.map .str) ∧ NmL ns ∧ ns.length = n) := by
  unfold m__law_names
  rw [Fw_fnM]
  unfold b__law_names
  refine W_seq (fun st1 => ∃ way S1, Pt p S S1 ∧ st1 = ⟨[.val (.ref p), .val (.int n), .val (.int way), .emp, .emp, .emp, .emp], S1⟩) ?_ ?_
  · simp only [W_pure, W_ofO, W_eVar, W_oVar, W_eFrz, W_oE, W_eOp2, W_eChain, W_asB, W_bNot, W_bAnd, W_bOr, W_eNot, W_eAnd, W_eOr, W_eIf, W_eNeg, W_aNil, W_aCons, W_oNil, W_oCons, W_eTup, W_fLst, W_eFz, W_eBox, W_fDic, W_eCall, W_fCall, W_pNo, W_pSome, W_eSliceU, W_fSlice, W_fRev, W_eLst, W_eLst0, W_mVar, W_mRef, W_eMeth, W_eFn, W_cSeq, W_cRet, W_cExpr, W_cIf, W_cSet, W_cOwn, W_cUnp, W_cSetIx, W_cPut, W_iU, W_iVar, W_iRange, W_iEnumU, W_iZipU, W_cFor, W_bYes, Op_some, Op_none, Op_ite, Op_map, Op_bind, Op_rdAll, rdAll_nil, Bw_bl, rVar, peekS, peekT, pVar, pRef, Lw_lst, setS, lstAt_fz, lenO_fz, lenO_str, list_fz, wipe_1, wipe_2, rest_1, rest_2, List.all_cons, List.all_nil, notOwn, W_fComp, asg_2, asg_n, turn_n, turn_c, turn_b, turn_r, List.getElem?_cons_zero, List.getElem?_cons_succ, List.getElem?_nil, List.set_cons_zero, List.set_cons_succ, List.map_cons, List.map_nil, List.cons_append, List.nil_append, List.length_cons, List.length_nil, Option.getD_some, Bool.and_true, Bool.and_self, Option.bind_some, Option.map_some, List.replicate_succ, List.replicate_zero, decide_eq_true_eq, Bool.not_true, Bool.not_false, Bool.not_eq_true', if_true, if_false, reduceIte, reduceCtorEq, Nat.reduceAdd, Nat.reduceSub, Nat.reduceLeDiff, true_and, and_true]
    refine pick_w h (by decide) (by decide) fun x S2 h5 hx hx2 => ?_
    exact ⟨x, S2, h5, rfl⟩
  rintro _ ⟨way, S1, h1, rfl⟩
  refine W_seq (fun st1 => ∃ turn S1, Pt p S S1 ∧ 0 ≤ turn ∧ turn < 26 ∧ st1 = ⟨[.val (.ref p), .val (.int n), .val (.int way), .val (.int turn), .emp, .emp, .emp], S1⟩) ?_ ?_
  · simp only [W_pure, W_ofO, W_eVar, W_oVar, W_eFrz, W_oE, W_eOp2, W_eChain, W_asB, W_bNot, W_bAnd, W_bOr, W_eNot, W_eAnd, W_eOr, W_eIf, W_eNeg, W_aNil, W_aCons, W_oNil, W_oCons, W_eTup, W_fLst, W_eFz, W_eBox, W_fDic, W_eCall, W_fCall, W_pNo, W_pSome, W_eSliceU, W_fSlice, W_fRev, W_eLst, W_eLst0, W_mVar, W_mRef, W_eMeth, W_eFn, W_cSeq, W_cRet, W_cExpr, W_cIf, W_cSet, W_cOwn, W_cUnp, W_cSetIx, W_cPut, W_iU, W_iVar, W_iRange, W_iEnumU, W_iZipU, W_cFor, W_bYes, Op_some, Op_none, Op_ite, Op_map, Op_bind, Op_rdAll, rdAll_nil, Bw_bl, rVar, peekS, peekT, pVar, pRef, Lw_lst, setS, lstAt_fz, lenO_fz, lenO_str, list_fz, wipe_1, wipe_2, rest_1, rest_2, List.all_cons, List.all_nil, notOwn, W_fComp, asg_2, asg_n, turn_n, turn_c, turn_b, turn_r, List.getElem?_cons_zero, List.getElem?_cons_succ, List.getElem?_nil, List.set_cons_zero, List.set_cons_succ, List.map_cons, List.map_nil, List.cons_append, List.nil_append, List.length_cons, List.length_nil, Option.getD_some, Bool.and_true, Bool.and_self, Option.bind_some, Option.map_some, List.replicate_succ, List.replicate_zero, decide_eq_true_eq, Bool.not_true, Bool.not_false, Bool.not_eq_true', if_true, if_false, reduceIte, reduceCtorEq, Nat.reduceAdd, Nat.reduceSub, Nat.reduceLeDiff, true_and, and_true]
    refine pick_w h1.1 (by decide) (by decide) fun x S2 h5 hx hx2 => ?_
    exact ⟨x, S2, h1.trans h5, hx, hx2, rfl⟩
  clear h1
  rintro _ ⟨turn, S1, h1, ht0, ht1, rfl⟩
  refine W_let (fun t => t = .str smallL) ?_ ?_
  · simp only [W_pure, W_ofO, W_eVar, W_oVar, W_eFrz, W_oE, W_eOp2, W_eChain, W_asB, W_bNot, W_bAnd, W_bOr, W_eNot, W_eAnd, W_eOr, W_eIf, W_eNeg, W_aNil, W_aCons, W_oNil, W_oCons, W_eTup, W_fLst, W_eFz, W_eBox, W_fDic, W_eCall, W_fCall, W_pNo, W_pSome, W_eSliceU, W_fSlice, W_fRev, W_eLst, W_eLst0, W_mVar, W_mRef, W_eMeth, W_eFn, W_cSeq, W_cRet, W_cExpr, W_cIf, W_cSet, W_cOwn, W_cUnp, W_cSetIx, W_cPut, W_iU, W_iVar, W_iRange, W_iEnumU, W_iZipU, W_cFor, W_bYes, Op_some, Op_none, Op_ite, Op_map, Op_bind, Op_rdAll, rdAll_nil, Bw_bl, rVar, peekS, peekT, pVar, pRef, Lw_lst, setS, lstAt_fz, lenO_fz, lenO_str, list_fz, wipe_1, wipe_2, rest_1, rest_2, List.all_cons, List.all_nil, notOwn, W_fComp, asg_2, asg_n, turn_n, turn_c, turn_b, turn_r, List.getElem?_cons_zero, List.getElem?_cons_succ, List.getElem?_nil, List.set_cons_zero, List.set_cons_succ, List.map_cons, List.map_nil, List.cons_append, List.nil_append, List.length_cons, List.length_nil, Option.getD_some, Bool.and_true, Bool.and_self, Option.bind_some, Option.map_some, List.replicate_succ, List.replicate_zero, decide_eq_true_eq, Bool.not_true, Bool.not_false, Bool.not_eq_true', if_true, if_false, reduceIte, reduceCtorEq, Nat.reduceAdd, Nat.reduceSub, Nat.reduceLeDiff, true_and, and_true]
    rfl
  rintro _ rfl
  refine W_seq (fun st1 => ∃ ns S1, Pt p S S1 ∧ NmL ns ∧ ns.length = n ∧ st1 = ⟨[.val (.ref p), .val (.int n), .val (.int way), .val (.int turn), .val (.str smallL), .val (.fz (ns.map .str)), .emp], S1⟩) ?_ ?_
  · refine W_if (way == 3) ?_ ?_ ?_
    · simp only [W_pure, W_ofO, W_eVar, W_oVar, W_eFrz, W_oE, W_eOp2, W_eChain, W_asB, W_bNot, W_bAnd, W_bOr, W_eNot, W_eAnd, W_eOr, W_eIf, W_eNeg, W_aNil, W_aCons, W_oNil, W_oCons, W_eTup, W_fLst, W_eFz, W_eBox, W_fDic, W_eCall, W_fCall, W_pNo, W_pSome, W_eSliceU, W_fSlice, W_fRev, W_eLst, W_eLst0, W_mVar, W_mRef, W_eMeth, W_eFn, W_cSeq, W_cRet, W_cExpr, W_cIf, W_cSet, W_cOwn, W_cUnp, W_cSetIx, W_cPut, W_iU, W_iVar, W_iRange, W_iEnumU, W_iZipU, W_cFor, W_bYes, Op_some, Op_none, Op_ite, Op_map, Op_bind, Op_rdAll, rdAll_nil, Bw_bl, rVar, peekS, peekT, pVar, pRef, Lw_lst, setS, lstAt_fz, lenO_fz, lenO_str, list_fz, wipe_1, wipe_2, rest_1, rest_2, List.all_cons, List.all_nil, notOwn, W_fComp, asg_2, asg_n, turn_n, turn_c, turn_b, turn_r, List.getElem?_cons_zero, List.getElem?_cons_succ, List.getElem?_nil, List.set_cons_zero, List.set_cons_succ, List.map_cons, List.map_nil, List.cons_append, List.nil_append, List.length_cons, List.length_nil, Option.getD_some, Bool.and_true, Bool.and_self, Option.bind_some, Option.map_some, List.replicate_succ, List.replicate_zero, decide_eq_true_eq, Bool.not_true, Bool.not_false, Bool.not_eq_true', if_true, if_false, reduceIte, reduceCtorEq, Nat.reduceAdd, Nat.reduceSub, Nat.reduceLeDiff, true_and, and_true, ix_n, ix_0, ix_1, ix_2, ix_t0, ix_t1, ix_t2, set_1, set_2, add_i, sub_i, mod_i, div_i, lt_i, le_i, gt_i, ge_i, eq_i, ne_i, p1018, p1017]
    · intro _
      simp only [W_pure, W_ofO, W_eVar, W_oVar, W_eFrz, W_oE, W_eOp2, W_eChain, W_asB, W_bNot, W_bAnd, W_bOr, W_eNot, W_eAnd, W_eOr, W_eIf, W_eNeg, W_aNil, W_aCons, W_oNil, W_oCons, W_eTup, W_fLst, W_eFz, W_eBox, W_fDic, W_eCall, W_fCall, W_pNo, W_pSome, W_eSliceU, W_fSlice, W_fRev, W_eLst, W_eLst0, W_mVar, W_mRef, W_eMeth, W_eFn, W_cSeq, W_cRet, W_cExpr, W_cIf, W_cSet, W_cOwn, W_cUnp, W_cSetIx, W_cPut, W_iU, W_iVar, W_iRange, W_iEnumU, W_iZipU, W_cFor, W_bYes, Op_some, Op_none, Op_ite, Op_map, Op_bind, Op_rdAll, rdAll_nil, Bw_bl, rVar, peekS, peekT, pVar, pRef, Lw_lst, setS, lstAt_fz, lenO_fz, lenO_str, list_fz, wipe_1, wipe_2, rest_1, rest_2, List.all_cons, List.all_nil, notOwn, W_fComp, asg_2, asg_n, turn_n, turn_c, turn_b, turn_r, List.getElem?_cons_zero, List.getElem?_cons_succ, List.getElem?_nil, List.set_cons_zero, List.set_cons_succ, List.map_cons, List.map_nil, List.cons_append, List.nil_append, List.length_cons, List.length_nil, Option.getD_some, Bool.and_true, Bool.and_self, Option.bind_some, Option.map_some, List.replicate_succ, List.replicate_zero, decide_eq_true_eq, Bool.not_true, Bool.not_false, Bool.not_eq_true', if_true, if_false, reduceIte, reduceCtorEq, Nat.reduceAdd, Nat.reduceSub, Nat.reduceLeDiff, true_and, and_true, List.length_map, List.length_range]
      refine ⟨by omega, by omega, ?_⟩
      refine Op_lcP (fun _ => true) (fun t => match t with | .int i => T.str (nm3 turn i.toNat) | _ => .non) trivial ?_ ?_
      · intro t ht
        obtain ⟨k, hk, rfl⟩ := List.mem_map.mp ht
        have hm := @ix_small ((turn + (k : Int) / 8) % 26) (Int.emod_nonneg _ (by decide)) (Int.emod_lt_of_pos _ (by decide))
        have hd : divO (.int k) (.int 8) = some (.int (k / 8)) := div_i (by decide) (by decide)
        have h8 : modO (.int k) (.int 8) = some (.int (k % 8)) := mod_i (by decide)
        have h26 : modO (.int (turn + k / 8)) (.int 26) = some (.int ((turn + k / 8) % 26)) := mod_i (by decide)
        have hmul := @mulS_i (97 + ((turn + (k : Int) / 8) % 26).toNat) (1 + (k : Int) % 8) (by omega) (by omega)
        simp only [W_pure, W_ofO, W_eVar, W_oVar, W_eFrz, W_oE, W_eOp2, W_eChain, W_asB, W_bNot, W_bAnd, W_bOr, W_eNot, W_eAnd, W_eOr, W_eIf, W_eNeg, W_aNil, W_aCons, W_oNil, W_oCons, W_eTup, W_fLst, W_eFz, W_eBox, W_fDic, W_eCall, W_fCall, W_pNo, W_pSome, W_eSliceU, W_fSlice, W_fRev, W_eLst, W_eLst0, W_mVar, W_mRef, W_eMeth, W_eFn, W_cSeq, W_cRet, W_cExpr, W_cIf, W_cSet, W_cOwn, W_cUnp, W_cSetIx, W_cPut, W_iU, W_iVar, W_iRange, W_iEnumU, W_iZipU, W_cFor, W_bYes, Op_some, Op_none, Op_ite, Op_map, Op_bind, Op_rdAll, rdAll_nil, Bw_bl, rVar, peekS, peekT, pVar, pRef, Lw_lst, setS, lstAt_fz, lenO_fz, lenO_str, list_fz, wipe_1, wipe_2, rest_1, rest_2, List.all_cons, List.all_nil, notOwn, W_fComp, asg_2, asg_n, turn_n, turn_c, turn_b, turn_r, List.getElem?_cons_zero, List.getElem?_cons_succ, List.getElem?_nil, List.set_cons_zero, List.set_cons_succ, List.map_cons, List.map_nil, List.cons_append, List.nil_append, List.length_cons, List.length_nil, Option.getD_some, Bool.and_true, Bool.and_self, Option.bind_some, Option.map_some, List.replicate_succ, List.replicate_zero, decide_eq_true_eq, Bool.not_true, Bool.not_false, Bool.not_eq_true', if_true, if_false, reduceIte, reduceCtorEq, Nat.reduceAdd, Nat.reduceSub, Nat.reduceLeDiff, true_and, and_true, hd, h8, add_i, h26, hm, hmul]
        exact fun _ => rfl
      · have e : (((List.range (n : Int).toNat).map fun k : Nat => T.int (k : Int)).filter fun _ => true).map (fun t => match t with | .int i => T.str (nm3 turn i.toNat) | _ => .non) = ((List.range n).map (nm3 turn)).map .str := by
          rw [List.filter_eq_self.mpr (fun _ _ => rfl), List.map_map, List.map_map]
          rfl
        simp only [e, List.getElem?_cons_zero, List.getElem?_cons_succ, List.getElem?_nil, List.set_cons_zero, List.set_cons_succ, List.map_cons, List.map_nil, List.cons_append, List.nil_append, List.length_cons, List.length_nil, Option.getD_some, Bool.and_true, Bool.and_self, Option.bind_some, Option.map_some, List.replicate_succ, List.replicate_zero, decide_eq_true_eq, Bool.not_true, Bool.not_false, Bool.not_eq_true', if_true, if_false, reduceIte, reduceCtorEq, Nat.reduceAdd, Nat.reduceSub, Nat.reduceLeDiff, true_and, and_true]
        exact ⟨_, S1, h1, nm3_ok hn, by simp, rfl⟩
    · intro _
      simp only [W_pure, W_ofO, W_eVar, W_oVar, W_eFrz, W_oE, W_eOp2, W_eChain, W_asB, W_bNot, W_bAnd, W_bOr, W_eNot, W_eAnd, W_eOr, W_eIf, W_eNeg, W_aNil, W_aCons, W_oNil, W_oCons, W_eTup, W_fLst, W_eFz, W_eBox, W_fDic, W_eCall, W_fCall, W_pNo, W_pSome, W_eSliceU, W_fSlice, W_fRev, W_eLst, W_eLst0, W_mVar, W_mRef, W_eMeth, W_eFn, W_cSeq, W_cRet, W_cExpr, W_cIf, W_cSet, W_cOwn, W_cUnp, W_cSetIx, W_cPut, W_iU, W_iVar, W_iRange, W_iEnumU, W_iZipU, W_cFor, W_bYes, Op_some, Op_none, Op_ite, Op_map, Op_bind, Op_rdAll, rdAll_nil, Bw_bl, rVar, peekS, peekT, pVar, pRef, Lw_lst, setS, lstAt_fz, lenO_fz, lenO_str, list_fz, wipe_1, wipe_2, rest_1, rest_2, List.all_cons, List.all_nil, notOwn, W_fComp, asg_2, asg_n, turn_n, turn_c, turn_b, turn_r, List.getElem?_cons_zero, List.getElem?_cons_succ, List.getElem?_nil, List.set_cons_zero, List.set_cons_succ, List.map_cons, List.map_nil, List.cons_append, List.nil_append, List.length_cons, List.length_nil, Option.getD_some, Bool.and_true, Bool.and_self, Option.bind_some, Option.map_some, List.replicate_succ, List.replicate_zero, decide_eq_true_eq, Bool.not_true, Bool.not_false, Bool.not_eq_true', if_true, if_false, reduceIte, reduceCtorEq, Nat.reduceAdd, Nat.reduceSub, Nat.reduceLeDiff, true_and, and_true]
      refine (letters_ok h1.1 hn).mono fun t S2 q => ?_
      obtain ⟨h5, ns, rfl, hns, hl⟩ := q
      exact ⟨ns, S2, h1.trans h5, hns, hl, rfl⟩
  clear h1
  rintro _ ⟨ns, S1, h1, hns, hl, rfl⟩
  simp only [W_pure, W_ofO, W_eVar, W_oVar, W_eFrz, W_oE, W_eOp2, W_eChain, W_asB, W_bNot, W_bAnd, W_bOr, W_eNot, W_eAnd, W_eOr, W_eIf, W_eNeg, W_aNil, W_aCons, W_oNil, W_oCons, W_eTup, W_fLst, W_eFz, W_eBox, W_fDic, W_eCall, W_fCall, W_pNo, W_pSome, W_eSliceU, W_fSlice, W_fRev, W_eLst, W_eLst0, W_mVar, W_mRef, W_eMeth, W_eFn, W_cSeq, W_cRet, W_cExpr, W_cIf, W_cSet, W_cOwn, W_cUnp, W_cSetIx, W_cPut, W_iU, W_iVar, W_iRange, W_iEnumU, W_iZipU, W_cFor, W_bYes, Op_some, Op_none, Op_ite, Op_map, Op_bind, Op_rdAll, rdAll_nil, Bw_bl, rVar, peekS, peekT, pVar, pRef, Lw_lst, setS, lstAt_fz, lenO_fz, lenO_str, list_fz, wipe_1, wipe_2, rest_1, rest_2, List.all_cons, List.all_nil, notOwn, W_fComp, asg_2, asg_n, turn_n, turn_c, turn_b, turn_r, List.getElem?_cons_zero, List.getElem?_cons_succ, List.getElem?_nil, List.set_cons_zero, List.set_cons_succ, List.map_cons, List.map_nil, List.cons_append, List.nil_append, List.length_cons, List.length_nil, Option.getD_some, Bool.and_true, Bool.and_self, Option.bind_some, Option.map_some, List.replicate_succ, List.replicate_zero, decide_eq_true_eq, Bool.not_true, Bool.not_false, Bool.not_eq_true', if_true, if_false, reduceIte, reduceCtorEq, Nat.reduceAdd, Nat.reduceSub, Nat.reduceLeDiff, true_and, and_true]
  refine (order_ok h1.1 (by omega)).mono fun t S2 q => ?_
  obtain ⟨h5, ks, rfl, hk, hkl, hkn⟩ := q
  simp only [W_pure, W_ofO, W_eVar, W_oVar, W_eFrz, W_oE, W_eOp2, W_eChain, W_asB, W_bNot, W_bAnd, W_bOr, W_eNot, W_eAnd, W_eOr, W_eIf, W_eNeg, W_aNil, W_aCons, W_oNil, W_oCons, W_eTup, W_fLst, W_eFz, W_eBox, W_fDic, W_eCall, W_fCall, W_pNo, W_pSome, W_eSliceU, W_fSlice, W_fRev, W_eLst, W_eLst0, W_mVar, W_mRef, W_eMeth, W_eFn, W_cSeq, W_cRet, W_cExpr, W_cIf, W_cSet, W_cOwn, W_cUnp, W_cSetIx, W_cPut, W_iU, W_iVar, W_iRange, W_iEnumU, W_iZipU, W_cFor, W_bYes, Op_some, Op_none, Op_ite, Op_map, Op_bind, Op_rdAll, rdAll_nil, Bw_bl, rVar, peekS, peekT, pVar, pRef, Lw_lst, setS, lstAt_fz, lenO_fz, lenO_str, list_fz, wipe_1, wipe_2, rest_1, rest_2, List.all_cons, List.all_nil, notOwn, W_fComp, asg_2, asg_n, turn_n, turn_c, turn_b, turn_r, List.getElem?_cons_zero, List.getElem?_cons_succ, List.getElem?_nil, List.set_cons_zero, List.set_cons_succ, List.map_cons, List.map_nil, List.cons_append, List.nil_append, List.length_cons, List.length_nil, Option.getD_some, Bool.and_true, Bool.and_self, Option.bind_some, Option.map_some, List.replicate_succ, List.replicate_zero, decide_eq_true_eq, Bool.not_true, Bool.not_false, Bool.not_eq_true', if_true, if_false, reduceIte, reduceCtorEq, Nat.reduceAdd, Nat.reduceSub, Nat.reduceLeDiff, true_and, and_true]
  refine ⟨by unfold intsL; rw [List.length_map]; omega, ?_⟩
  refine Op_lcP (fun _ => true) (numF ns) trivial ?_ ?_
  · intro t ht
    obtain ⟨k, hk, rfl⟩ := List.mem_map.mp ht
    simp only [W_pure, W_ofO, W_eVar, W_oVar, W_eFrz, W_oE, W_eOp2, W_eChain, W_asB, W_bNot, W_bAnd, W_bOr, W_eNot, W_eAnd, W_eOr, W_eIf, W_eNeg, W_aNil, W_aCons, W_oNil, W_oCons, W_eTup, W_fLst, W_eFz, W_eBox, W_fDic, W_eCall, W_fCall, W_pNo, W_pSome, W_eSliceU, W_fSlice, W_fRev, W_eLst, W_eLst0, W_mVar, W_mRef, W_eMeth, W_eFn, W_cSeq, W_cRet, W_cExpr, W_cIf, W_cSet, W_cOwn, W_cUnp, W_cSetIx, W_cPut, W_iU, W_iVar, W_iRange, W_iEnumU, W_iZipU, W_cFor, W_bYes, Op_some, Op_none, Op_ite, Op_map, Op_bind, Op_rdAll, rdAll_nil, Bw_bl, rVar, peekS, peekT, pVar, pRef, Lw_lst, setS, lstAt_fz, lenO_fz, lenO_str, list_fz, wipe_1, wipe_2, rest_1, rest_2, List.all_cons, List.all_nil, notOwn, W_fComp, asg_2, asg_n, turn_n, turn_c, turn_b, turn_r, List.getElem?_cons_zero, List.getElem?_cons_succ, List.getElem?_nil, List.set_cons_zero, List.set_cons_succ, List.map_cons, List.map_nil, List.cons_append, List.nil_append, List.length_cons, List.length_nil, Option.getD_some, Bool.and_true, Bool.and_self, Option.bind_some, Option.map_some, List.replicate_succ, List.replicate_zero, decide_eq_true_eq, Bool.not_true, Bool.not_false, Bool.not_eq_true', if_true, if_false, reduceIte, reduceCtorEq, Nat.reduceAdd, Nat.reduceSub, Nat.reduceLeDiff, true_and, and_true, ix_str (hl ▸ hkl k hk)]
    exact fun _ => rfl
  · rw [byNum (fun k hk => hl ▸ hkl k hk)]
    exact ⟨h1.trans h5, ks.map fun k => ns.getD k [], rfl, hns.pick hk (fun k hk => hl ▸ hkl k hk), by rw [List.length_map, hkn]⟩
end Lw
namespace Lw
open PySem PySem.Spec PyProof.Rows L2 Sw Classical
def sR (r : List (List Nat)) : T := .fz (r.map .str)
def GdRow (r : List (List Nat)) : Prop := NmL r ∧ r.length ≤ 26
theorem dat_row {r : List (List Nat)} {n : Nat} (h : NmL r) : (T.fz (r.map .str)).dat (n + 1) = true := dat_fz fun t ht => by
  obtain ⟨s, hs, rfl⟩ := List.mem_map.mp ht
  exact dat_str (h.2 s hs)
theorem few_ix {a b c d : Int} {x : Int} (h : 0 ≤ x) (h4 : x < 4) (hb : ∀ y ∈ [a, b, c, d], 1 ≤ y ∧ y ≤ 17) : ∃ y, ixU (.fz [.int a, .int b, .int c, .int d]) (.int x) = some (.int y) ∧ 1 ≤ y ∧ y ≤ max (max a b) (max c d) ∧ y ≤ 17 := by
  have hx : x = 0 ∨ x = 1 ∨ x = 2 ∨ x = 3 := by omega
  rcases hx with rfl | rfl | rfl | rfl
  · exact ⟨a, rfl, (hb a (by simp)).1, by omega, (hb a (by simp)).2⟩
  · exact ⟨b, rfl, (hb b (by simp)).1, by omega, (hb b (by simp)).2⟩
  · exact ⟨c, rfl, (hb c (by simp)).1, by omega, (hb c (by simp)).2⟩
  · exact ⟨d, rfl, (hb d (by simp)).1, by omega, (hb d (by simp)).2⟩
theorem NmL.sub {a b : List (List Nat)} (h : NmL b) (s : a.Sublist b) : NmL a := ⟨h.1.sublist s, fun x hx => h.2 x (s.subset hx)⟩
theorem NmL.perm {a b : List (List Nat)} (h : NmL b) (s : a.Perm b) : NmL a := ⟨s.nodup_iff.mpr h.1, fun x hx => h.2 x (s.mem_iff.mp hx)⟩
theorem pop_i {us : List T} {i : Nat} (h : i < us.length) (h2 : us.length ≤ 1000000) : popF us [.int i] = some (us.eraseIdx i, us[i]) := by
  unfold popF
  simp only [h2, if_true, ixN_nat h, List.getElem?_eq_getElem h]
theorem erase_perm {α : Type} : ∀ {l : List α} {i : Nat} (h : i < l.length), (l[i] :: l.eraseIdx i).Perm l
  | [], _, h => absurd h (by simp)
  | x :: l, 0, _ => .refl _
  | x :: l, i + 1, h => by
    have h' : i < l.length := by simpa using h
    show (l[i] :: x :: l.eraseIdx i).Perm (x :: l)
    exact (List.Perm.swap _ _ _).trans ((erase_perm h').cons x)
def GdN (ns r : List (List Nat)) : Prop := GdRow r ∧ ∀ s ∈ r, s ∈ ns
theorem rows_ok {S : List Ob} {p : Nat} (h : IsPot S p) : Fw m__law_rows [.ref p] S (fun t S' => Pt p S S' ∧ ∃ R : List (List (List Nat)), t = .fz (R.map sR) ∧ R.length ≤ 16 ∧ (∀ r ∈ R, GdRow r) ∧ ∃ ns, NmL ns ∧ ns.length ≤ 17 ∧ ∀ r ∈ R, ∀ s ∈ r, s ∈ ns) := by
  unfold m__law_rows
  rw [Fw_fnM]
  unfold b__law_rows
  refine W_seq (fun st1 => ∃ shape S1, Pt p S S1 ∧ st1 = ⟨[.val (.ref p), .val (.int shape), .emp, .emp, .emp, .emp, .emp, .emp, .emp, .emp], S1⟩) ?_ ?_
  · simp only [W_pure, W_ofO, W_eVar, W_oVar, W_eFrz, W_oE, W_eOp2, W_eChain, W_asB, W_bNot, W_bAnd, W_bOr, W_eNot, W_eAnd, W_eOr, W_eIf, W_eNeg, W_aNil, W_aCons, W_oNil, W_oCons, W_eTup, W_fLst, W_eFz, W_eBox, W_fDic, W_eCall, W_fCall, W_pNo, W_pSome, W_eSliceU, W_fSlice, W_fRev, W_eLst, W_eLst0, W_mVar, W_mRef, W_eMeth, W_eFn, W_cSeq, W_cRet, W_cExpr, W_cIf, W_cSet, W_cOwn, W_cUnp, W_cSetIx, W_cPut, W_iU, W_iVar, W_iRange, W_iEnumU, W_iZipU, W_cFor, W_bYes, Op_some, Op_none, Op_ite, Op_map, Op_bind, Op_rdAll, rdAll_nil, Bw_bl, rVar, peekS, peekT, pVar, pRef, Lw_lst, setS, lstAt_fz, lenO_fz, lenO_str, list_fz, wipe_1, wipe_2, rest_1, rest_2, List.all_cons, List.all_nil, notOwn, W_fComp, asg_2, asg_n, turn_n, turn_c, turn_b, turn_r, List.getElem?_cons_zero, List.getElem?_cons_succ, List.getElem?_nil, List.set_cons_zero, List.set_cons_succ, List.map_cons, List.map_nil, List.cons_append, List.nil_append, List.length_cons, List.length_nil, Option.getD_some, Bool.and_true, Bool.and_self, Option.bind_some, Option.map_some, List.replicate_succ, List.replicate_zero, decide_eq_true_eq, Bool.not_true, Bool.not_false, Bool.not_eq_true', if_true, if_false, reduceIte, reduceCtorEq, Nat.reduceAdd, Nat.reduceSub, Nat.reduceLeDiff, true_and, and_true]
    refine pick_w h (by decide) (by decide) fun x S2 h5 hx hx2 => ?_
    exact ⟨x, S2, h5, rfl⟩
  rintro _ ⟨shape, S1, h1, rfl⟩
  refine W_seq (fun st1 => ∃ many : Nat, ∃ S1, Pt p S S1 ∧ many ≤ 17 ∧ st1 = ⟨[.val (.ref p), .val (.int shape), .val (.int many), .emp, .emp, .emp, .emp, .emp, .emp, .emp], S1⟩) ?_ ?_
  · simp only [W_pure, W_ofO, W_eVar, W_oVar, W_eFrz, W_oE, W_eOp2, W_eChain, W_asB, W_bNot, W_bAnd, W_bOr, W_eNot, W_eAnd, W_eOr, W_eIf, W_eNeg, W_aNil, W_aCons, W_oNil, W_oCons, W_eTup, W_fLst, W_eFz, W_eBox, W_fDic, W_eCall, W_fCall, W_pNo, W_pSome, W_eSliceU, W_fSlice, W_fRev, W_eLst, W_eLst0, W_mVar, W_mRef, W_eMeth, W_eFn, W_cSeq, W_cRet, W_cExpr, W_cIf, W_cSet, W_cOwn, W_cUnp, W_cSetIx, W_cPut, W_iU, W_iVar, W_iRange, W_iEnumU, W_iZipU, W_cFor, W_bYes, Op_some, Op_none, Op_ite, Op_map, Op_bind, Op_rdAll, rdAll_nil, Bw_bl, rVar, peekS, peekT, pVar, pRef, Lw_lst, setS, lstAt_fz, lenO_fz, lenO_str, list_fz, wipe_1, wipe_2, rest_1, rest_2, List.all_cons, List.all_nil, notOwn, W_fComp, asg_2, asg_n, turn_n, turn_c, turn_b, turn_r, List.getElem?_cons_zero, List.getElem?_cons_succ, List.getElem?_nil, List.set_cons_zero, List.set_cons_succ, List.map_cons, List.map_nil, List.cons_append, List.nil_append, List.length_cons, List.length_nil, Option.getD_some, Bool.and_true, Bool.and_self, Option.bind_some, Option.map_some, List.replicate_succ, List.replicate_zero, decide_eq_true_eq, Bool.not_true, Bool.not_false, Bool.not_eq_true', if_true, if_false, reduceIte, reduceCtorEq, Nat.reduceAdd, Nat.reduceSub, Nat.reduceLeDiff, true_and, and_true]
    refine pick_w h1.1 (by decide) (by decide) fun x S2 h5 hx hx2 => ?_
    obtain ⟨y, hy, hy1, hy2, _⟩ := @few_ix 3 5 8 16 x hx hx2 (by decide)
    simp only [peekT, Op_some, hy]
    refine pick_w h5.1 (by omega) (by omega) fun z S3 h6 hz hz2 => ?_
    simp only [peekT, Op_some, add_i]
    refine ⟨(1 + z).toNat, S3, (h1.trans h5).trans h6, by omega, ?_⟩
    rw [Int.toNat_of_nonneg (by omega)]
  clear h1
  rintro _ ⟨many, S1, h1, hm, rfl⟩
  refine W_seq (fun st1 => ∃ ns S1, Pt p S S1 ∧ NmL ns ∧ ns.length ≤ 17 ∧ st1 = ⟨[.val (.ref p), .val (.int shape), .val (.int many), .val (.fz (ns.map .str)), .emp, .emp, .emp, .emp, .emp, .emp], S1⟩) ?_ ?_
  · simp only [W_pure, W_ofO, W_eVar, W_oVar, W_eFrz, W_oE, W_eOp2, W_eChain, W_asB, W_bNot, W_bAnd, W_bOr, W_eNot, W_eAnd, W_eOr, W_eIf, W_eNeg, W_aNil, W_aCons, W_oNil, W_oCons, W_eTup, W_fLst, W_eFz, W_eBox, W_fDic, W_eCall, W_fCall, W_pNo, W_pSome, W_eSliceU, W_fSlice, W_fRev, W_eLst, W_eLst0, W_mVar, W_mRef, W_eMeth, W_eFn, W_cSeq, W_cRet, W_cExpr, W_cIf, W_cSet, W_cOwn, W_cUnp, W_cSetIx, W_cPut, W_iU, W_iVar, W_iRange, W_iEnumU, W_iZipU, W_cFor, W_bYes, Op_some, Op_none, Op_ite, Op_map, Op_bind, Op_rdAll, rdAll_nil, Bw_bl, rVar, peekS, peekT, pVar, pRef, Lw_lst, setS, lstAt_fz, lenO_fz, lenO_str, list_fz, wipe_1, wipe_2, rest_1, rest_2, List.all_cons, List.all_nil, notOwn, W_fComp, asg_2, asg_n, turn_n, turn_c, turn_b, turn_r, List.getElem?_cons_zero, List.getElem?_cons_succ, List.getElem?_nil, List.set_cons_zero, List.set_cons_succ, List.map_cons, List.map_nil, List.cons_append, List.nil_append, List.length_cons, List.length_nil, Option.getD_some, Bool.and_true, Bool.and_self, Option.bind_some, Option.map_some, List.replicate_succ, List.replicate_zero, decide_eq_true_eq, Bool.not_true, Bool.not_false, Bool.not_eq_true', if_true, if_false, reduceIte, reduceCtorEq, Nat.reduceAdd, Nat.reduceSub, Nat.reduceLeDiff, true_and, and_true]
    refine (names_ok h1.1 (by omega)).mono fun t S2 q => ?_
    obtain ⟨h5, ns, rfl, h2, h3⟩ := q
    exact ⟨ns, S2, h1.trans h5, h2, by omega, rfl⟩
  clear h1
  rintro _ ⟨ns, S1, h1, hns, hnl, rfl⟩
  refine W_seq (fun st1 => st1 = ⟨[.val (.ref p), .val (.int shape), .val (.int many), .val (.fz (ns.map .str)), .own (.lst []), .emp, .emp, .emp, .emp, .emp], S1⟩) ?_ ?_
  · simp only [W_pure, W_ofO, W_eVar, W_oVar, W_eFrz, W_oE, W_eOp2, W_eChain, W_asB, W_bNot, W_bAnd, W_bOr, W_eNot, W_eAnd, W_eOr, W_eIf, W_eNeg, W_aNil, W_aCons, W_oNil, W_oCons, W_eTup, W_fLst, W_eFz, W_eBox, W_fDic, W_eCall, W_fCall, W_pNo, W_pSome, W_eSliceU, W_fSlice, W_fRev, W_eLst, W_eLst0, W_mVar, W_mRef, W_eMeth, W_eFn, W_cSeq, W_cRet, W_cExpr, W_cIf, W_cSet, W_cOwn, W_cUnp, W_cSetIx, W_cPut, W_iU, W_iVar, W_iRange, W_iEnumU, W_iZipU, W_cFor, W_bYes, Op_some, Op_none, Op_ite, Op_map, Op_bind, Op_rdAll, rdAll_nil, Bw_bl, rVar, peekS, peekT, pVar, pRef, Lw_lst, setS, lstAt_fz, lenO_fz, lenO_str, list_fz, wipe_1, wipe_2, rest_1, rest_2, List.all_cons, List.all_nil, notOwn, W_fComp, asg_2, asg_n, turn_n, turn_c, turn_b, turn_r, List.getElem?_cons_zero, List.getElem?_cons_succ, List.getElem?_nil, List.set_cons_zero, List.set_cons_succ, List.map_cons, List.map_nil, List.cons_append, List.nil_append, List.length_cons, List.length_nil, Option.getD_some, Bool.and_true, Bool.and_self, Option.bind_some, Option.map_some, List.replicate_succ, List.replicate_zero, decide_eq_true_eq, Bool.not_true, Bool.not_false, Bool.not_eq_true', if_true, if_false, reduceIte, reduceCtorEq, Nat.reduceAdd, Nat.reduceSub, Nat.reduceLeDiff, true_and, and_true]
  rintro _ rfl
  refine W_seq (fun st1 => ∃ s5 s6 s7 s9, ∃ R : List (List (List Nat)), ∃ S1, Pt p S S1 ∧ R.length ≤ 16 ∧ (∀ r ∈ R, GdN ns r) ∧ st1 = ⟨[.val (.ref p), .val (.int shape), .val (.int many), .val (.fz (ns.map .str)), .own (.lst (R.map sR)), s5, s6, s7, .emp, s9], S1⟩) ?_ ?_
  · rw [W_cFor]
    simp only [W_pure, W_ofO, W_eVar, W_oVar, W_eFrz, W_oE, W_eOp2, W_eChain, W_asB, W_bNot, W_bAnd, W_bOr, W_eNot, W_eAnd, W_eOr, W_eIf, W_eNeg, W_aNil, W_aCons, W_oNil, W_oCons, W_eTup, W_fLst, W_eFz, W_eBox, W_fDic, W_eCall, W_fCall, W_pNo, W_pSome, W_eSliceU, W_fSlice, W_fRev, W_eLst, W_eLst0, W_mVar, W_mRef, W_eMeth, W_eFn, W_cSeq, W_cRet, W_cExpr, W_cIf, W_cSet, W_cOwn, W_cUnp, W_cSetIx, W_cPut, W_iU, W_iVar, W_iRange, W_iEnumU, W_iZipU, W_cFor, W_bYes, Op_some, Op_none, Op_ite, Op_map, Op_bind, Op_rdAll, rdAll_nil, Bw_bl, rVar, peekS, peekT, pVar, pRef, Lw_lst, setS, lstAt_fz, lenO_fz, lenO_str, list_fz, wipe_1, wipe_2, rest_1, rest_2, List.all_cons, List.all_nil, notOwn, W_fComp, asg_2, asg_n, turn_n, turn_c, turn_b, turn_r, List.getElem?_cons_zero, List.getElem?_cons_succ, List.getElem?_nil, List.set_cons_zero, List.set_cons_succ, List.map_cons, List.map_nil, List.cons_append, List.nil_append, List.length_cons, List.length_nil, Option.getD_some, Bool.and_true, Bool.and_self, Option.bind_some, Option.map_some, List.replicate_succ, List.replicate_zero, decide_eq_true_eq, Bool.not_true, Bool.not_false, Bool.not_eq_true', if_true, if_false, reduceIte, reduceCtorEq, Nat.reduceAdd, Nat.reduceSub, Nat.reduceLeDiff, true_and, and_true]
    refine pick_w h1.1 (by decide) (by decide) fun x S2 h5 hx hx2 => ?_
    obtain ⟨y, hy, hy1, _, hy2⟩ := @few_ix 3 5 8 17 x hx hx2 (by decide)
    simp only [peekT, Op_some, hy]
    refine pick_w h5.1 (by omega) (by omega) fun z S3 h6 hz hz2 => ?_
    refine ⟨by omega, ?_⟩
    have hS3 := (h1.trans h5).trans h6
    refine W_forL (fun i st1 => ∃ s5 s6 s7 s9, ∃ R : List (List (List Nat)), ∃ S1, Pt p S S1 ∧ R.length = i ∧ (∀ r ∈ R, GdN ns r) ∧ ((∀ ob, s9 ≠ .own ob)) ∧ st1 = ⟨[.val (.ref p), .val (.int shape), .val (.int many), .val (.fz (ns.map .str)), .own (.lst (R.map sR)), s5, s6, s7, .emp, s9], S1⟩) _ 0 _ ⟨_, _, _, _, [], _, hS3, rfl, by simp, by simp, rfl⟩ ?_ ?_
    · clear h1 h5 h6 hS3
      rintro i t _ ht ⟨s5, s6, s7, s9, R, S1, h1, hRl, hR, h9, rfl⟩
      obtain ⟨hi, rfl⟩ := range_get ht
      clear ht
      rw [Nat.zero_add] at hRl ⊢
      refine ⟨trivial, Op.of asg_n ?_⟩
      simp only [List.getElem?_cons_zero, List.getElem?_cons_succ, List.getElem?_nil, List.set_cons_zero, List.set_cons_succ, List.map_cons, List.map_nil, List.cons_append, List.nil_append, List.length_cons, List.length_nil, Option.getD_some, Bool.and_true, Bool.and_self, Option.bind_some, Option.map_some, List.replicate_succ, List.replicate_zero, decide_eq_true_eq, Bool.not_true, Bool.not_false, Bool.not_eq_true', if_true, if_false, reduceIte, reduceCtorEq, Nat.reduceAdd, Nat.reduceSub, Nat.reduceLeDiff, true_and, and_true]
      refine W_seq (fun st1 => ∃ share S1, Pt p S S1 ∧ st1 = ⟨[.val (.ref p), .val (.int shape), .val (.int many), .val (.fz (ns.map .str)), .own (.lst (R.map sR)), .val (.int i), .val (.int share), s7, .emp, s9], S1⟩) ?_ ?_
      · simp only [W_pure, W_ofO, W_eVar, W_oVar, W_eFrz, W_oE, W_eOp2, W_eChain, W_asB, W_bNot, W_bAnd, W_bOr, W_eNot, W_eAnd, W_eOr, W_eIf, W_eNeg, W_aNil, W_aCons, W_oNil, W_oCons, W_eTup, W_fLst, W_eFz, W_eBox, W_fDic, W_eCall, W_fCall, W_pNo, W_pSome, W_eSliceU, W_fSlice, W_fRev, W_eLst, W_eLst0, W_mVar, W_mRef, W_eMeth, W_eFn, W_cSeq, W_cRet, W_cExpr, W_cIf, W_cSet, W_cOwn, W_cUnp, W_cSetIx, W_cPut, W_iU, W_iVar, W_iRange, W_iEnumU, W_iZipU, W_cFor, W_bYes, Op_some, Op_none, Op_ite, Op_map, Op_bind, Op_rdAll, rdAll_nil, Bw_bl, rVar, peekS, peekT, pVar, pRef, Lw_lst, setS, lstAt_fz, lenO_fz, lenO_str, list_fz, wipe_1, wipe_2, rest_1, rest_2, List.all_cons, List.all_nil, notOwn, W_fComp, asg_2, asg_n, turn_n, turn_c, turn_b, turn_r, List.getElem?_cons_zero, List.getElem?_cons_succ, List.getElem?_nil, List.set_cons_zero, List.set_cons_succ, List.map_cons, List.map_nil, List.cons_append, List.nil_append, List.length_cons, List.length_nil, Option.getD_some, Bool.and_true, Bool.and_self, Option.bind_some, Option.map_some, List.replicate_succ, List.replicate_zero, decide_eq_true_eq, Bool.not_true, Bool.not_false, Bool.not_eq_true', if_true, if_false, reduceIte, reduceCtorEq, Nat.reduceAdd, Nat.reduceSub, Nat.reduceLeDiff, true_and, and_true, add_i]
        refine pick_w h1.1 (by decide) (by decide) fun x S2 h5 hx hx2 => ?_
        exact ⟨_, S2, h1.trans h5, rfl⟩
      clear h1
      rintro _ ⟨share, S1, h1, rfl⟩
      refine W_seq (fun st1 => ∃ r S1, Pt p S S1 ∧ GdN ns r ∧ st1 = ⟨[.val (.ref p), .val (.int shape), .val (.int many), .val (.fz (ns.map .str)), .own (.lst (R.map sR)), .val (.int i), .val (.int share), .own (.lst (r.map .str)), .emp, s9], S1⟩) ?_ ?_
      · simp only [W_pure, W_ofO, W_eVar, W_oVar, W_eFrz, W_oE, W_eOp2, W_eChain, W_asB, W_bNot, W_bAnd, W_bOr, W_eNot, W_eAnd, W_eOr, W_eIf, W_eNeg, W_aNil, W_aCons, W_oNil, W_oCons, W_eTup, W_fLst, W_eFz, W_eBox, W_fDic, W_eCall, W_fCall, W_pNo, W_pSome, W_eSliceU, W_fSlice, W_fRev, W_eLst, W_eLst0, W_mVar, W_mRef, W_eMeth, W_eFn, W_cSeq, W_cRet, W_cExpr, W_cIf, W_cSet, W_cOwn, W_cUnp, W_cSetIx, W_cPut, W_iU, W_iVar, W_iRange, W_iEnumU, W_iZipU, W_cFor, W_bYes, Op_some, Op_none, Op_ite, Op_map, Op_bind, Op_rdAll, rdAll_nil, Bw_bl, rVar, peekS, peekT, pVar, pRef, Lw_lst, setS, lstAt_fz, lenO_fz, lenO_str, list_fz, wipe_1, wipe_2, rest_1, rest_2, List.all_cons, List.all_nil, notOwn, W_fComp, asg_2, asg_n, turn_n, turn_c, turn_b, turn_r, List.getElem?_cons_zero, List.getElem?_cons_succ, List.getElem?_nil, List.set_cons_zero, List.set_cons_succ, List.map_cons, List.map_nil, List.cons_append, List.nil_append, List.length_cons, List.length_nil, Option.getD_some, Bool.and_true, Bool.and_self, Option.bind_some, Option.map_some, List.replicate_succ, List.replicate_zero, decide_eq_true_eq, Bool.not_true, Bool.not_false, Bool.not_eq_true', if_true, if_false, reduceIte, reduceCtorEq, Nat.reduceAdd, Nat.reduceSub, Nat.reduceLeDiff, true_and, and_true]
        refine ⟨by rw [List.length_map]; omega, ?_⟩
        refine Op_lcI (fun i' done st1 => ∃ zs S1, Pt p S S1 ∧ zs.Sublist (ns.take i') ∧ done = zs.map .str ∧ st1 = ⟨[.val (.ref p), .val (.int shape), .val (.int many), .val (.fz (ns.map .str)), .own (.lst (R.map sR)), .val (.int i), .val (.int share), s7, .emp, s9], S1⟩) ⟨[], _, h1, by simp, rfl, rfl⟩ ?_ ?_ ?_
        · clear h1
          rintro i' t _ _ ht ⟨zs, S1, h1, hzs, rfl, rfl⟩
          rw [List.getElem?_map] at ht
          obtain ⟨s, hs, rfl⟩ := Option.map_eq_some_iff.mp ht
          have htk : ns.take (i' + 1) = ns.take i' ++ [s] := by
            rw [List.take_add_one, hs]
            rfl
          refine ⟨trivial, ?_⟩
          simp only [W_pure, W_ofO, W_eVar, W_oVar, W_eFrz, W_oE, W_eOp2, W_eChain, W_asB, W_bNot, W_bAnd, W_bOr, W_eNot, W_eAnd, W_eOr, W_eIf, W_eNeg, W_aNil, W_aCons, W_oNil, W_oCons, W_eTup, W_fLst, W_eFz, W_eBox, W_fDic, W_eCall, W_fCall, W_pNo, W_pSome, W_eSliceU, W_fSlice, W_fRev, W_eLst, W_eLst0, W_mVar, W_mRef, W_eMeth, W_eFn, W_cSeq, W_cRet, W_cExpr, W_cIf, W_cSet, W_cOwn, W_cUnp, W_cSetIx, W_cPut, W_iU, W_iVar, W_iRange, W_iEnumU, W_iZipU, W_cFor, W_bYes, Op_some, Op_none, Op_ite, Op_map, Op_bind, Op_rdAll, rdAll_nil, Bw_bl, rVar, peekS, peekT, pVar, pRef, Lw_lst, setS, lstAt_fz, lenO_fz, lenO_str, list_fz, wipe_1, wipe_2, rest_1, rest_2, List.all_cons, List.all_nil, notOwn, W_fComp, asg_2, asg_n, turn_n, turn_c, turn_b, turn_r, List.getElem?_cons_zero, List.getElem?_cons_succ, List.getElem?_nil, List.set_cons_zero, List.set_cons_succ, List.map_cons, List.map_nil, List.cons_append, List.nil_append, List.length_cons, List.length_nil, Option.getD_some, Bool.and_true, Bool.and_self, Option.bind_some, Option.map_some, List.replicate_succ, List.replicate_zero, decide_eq_true_eq, Bool.not_true, Bool.not_false, Bool.not_eq_true', if_true, if_false, reduceIte, reduceCtorEq, Nat.reduceAdd, Nat.reduceSub, Nat.reduceLeDiff, true_and, and_true]
          refine pick_w h1.1 (by decide) (by decide) fun x S2 h5 hx hx2 => ?_
          simp only [W_pure, W_ofO, W_eVar, W_oVar, W_eFrz, W_oE, W_eOp2, W_eChain, W_asB, W_bNot, W_bAnd, W_bOr, W_eNot, W_eAnd, W_eOr, W_eIf, W_eNeg, W_aNil, W_aCons, W_oNil, W_oCons, W_eTup, W_fLst, W_eFz, W_eBox, W_fDic, W_eCall, W_fCall, W_pNo, W_pSome, W_eSliceU, W_fSlice, W_fRev, W_eLst, W_eLst0, W_mVar, W_mRef, W_eMeth, W_eFn, W_cSeq, W_cRet, W_cExpr, W_cIf, W_cSet, W_cOwn, W_cUnp, W_cSetIx, W_cPut, W_iU, W_iVar, W_iRange, W_iEnumU, W_iZipU, W_cFor, W_bYes, Op_some, Op_none, Op_ite, Op_map, Op_bind, Op_rdAll, rdAll_nil, Bw_bl, rVar, peekS, peekT, pVar, pRef, Lw_lst, setS, lstAt_fz, lenO_fz, lenO_str, list_fz, wipe_1, wipe_2, rest_1, rest_2, List.all_cons, List.all_nil, notOwn, W_fComp, asg_2, asg_n, turn_n, turn_c, turn_b, turn_r, List.getElem?_cons_zero, List.getElem?_cons_succ, List.getElem?_nil, List.set_cons_zero, List.set_cons_succ, List.map_cons, List.map_nil, List.cons_append, List.nil_append, List.length_cons, List.length_nil, Option.getD_some, Bool.and_true, Bool.and_self, Option.bind_some, Option.map_some, List.replicate_succ, List.replicate_zero, decide_eq_true_eq, Bool.not_true, Bool.not_false, Bool.not_eq_true', if_true, if_false, reduceIte, reduceCtorEq, Nat.reduceAdd, Nat.reduceSub, Nat.reduceLeDiff, true_and, and_true, ix_n, ix_0, ix_1, ix_2, ix_t0, ix_t1, ix_t2, set_1, set_2, add_i, sub_i, mod_i, div_i, lt_i, le_i, gt_i, ge_i, eq_i, ne_i, p1018, p1017]
          split
          · exact ⟨zs ++ [s], S2, h1.trans h5, by rw [htk]; exact hzs.append (List.Sublist.refl _), by simp, rfl⟩
          · exact ⟨zs, S2, h1.trans h5, by rw [htk]; exact hzs.trans (List.sublist_append_left _ _), rfl, rfl⟩
        · rintro _ _ ⟨zs, S1, h1, hzs, rfl, rfl⟩
          trivial
        · clear h1
          rintro _ _ ⟨zs, S1, h1, hzs, rfl, rfl⟩
          have hz : zs.Sublist ns := hzs.trans (List.take_sublist _ _)
          simp only [List.getElem?_cons_zero, List.getElem?_cons_succ, List.getElem?_nil, List.set_cons_zero, List.set_cons_succ, List.map_cons, List.map_nil, List.cons_append, List.nil_append, List.length_cons, List.length_nil, Option.getD_some, Bool.and_true, Bool.and_self, Option.bind_some, Option.map_some, List.replicate_succ, List.replicate_zero, decide_eq_true_eq, Bool.not_true, Bool.not_false, Bool.not_eq_true', if_true, if_false, reduceIte, reduceCtorEq, Nat.reduceAdd, Nat.reduceSub, Nat.reduceLeDiff, true_and, and_true]
          exact ⟨zs, S1, h1, ⟨⟨hns.sub hz, Nat.le_trans hz.length_le (by omega)⟩, fun s hs => hz.subset hs⟩, rfl⟩
      clear h1
      rintro _ ⟨r, S1, h1, hr, rfl⟩
      refine W_seq (fun st1 => ∃ r S1 s9, Pt p S S1 ∧ GdN ns r ∧ (∀ ob, s9 ≠ .own ob) ∧ st1 = ⟨[.val (.ref p), .val (.int shape), .val (.int many), .val (.fz (ns.map .str)), .own (.lst (R.map sR)), .val (.int i), .val (.int share), .own (.lst (r.map .str)), .emp, s9], S1⟩) ?_ ?_
      · rw [W_cIf]
        simp only [W_bAnd, W_asB, W_eOp2, W_oVar, W_oE, W_pure, W_eFz, W_fLst, W_aNil, W_aCons, W_eVar, W_eFn, List.getElem?_cons_zero, List.getElem?_cons_succ, List.getElem?_nil, List.set_cons_zero, List.set_cons_succ, List.map_cons, List.map_nil, List.cons_append, List.nil_append, List.length_cons, List.length_nil, Option.getD_some, Bool.and_true, Bool.and_self, Option.bind_some, Option.map_some, List.replicate_succ, List.replicate_zero, decide_eq_true_eq, Bool.not_true, Bool.not_false, Bool.not_eq_true', if_true, if_false, reduceIte, reduceCtorEq, Nat.reduceAdd, Nat.reduceSub, Nat.reduceLeDiff, true_and, and_true, ix_n, ix_0, ix_1, ix_2, ix_t0, ix_t1, ix_t2, set_1, set_2, add_i, sub_i, mod_i, div_i, lt_i, le_i, gt_i, ge_i, eq_i, ne_i, p1018, p1017, rVar, peekS, peekT, Op_some, Bw_bl, ne_nil (dat_row hr.1.1), List.isEmpty_map, sub_i]
        split
        · split
          · rename_i hne
            have hr0 : 0 < r.length := by
              cases r with
              | nil => simp at hne
              | cons a b => simp
            have hr26 := hr.1.2
            refine pick_w h1.1 (by decide) (by decide) fun x S2 h5 hx hx2 => ?_
            simp only [peekT, Op_some, lt_i, Bw_bl, decide_eq_true_eq]
            split
            · refine W_seq (fun st1 => ∃ a : Nat, ∃ S1, Pt p S S1 ∧ a < r.length ∧ st1 = ⟨[.val (.ref p), .val (.int shape), .val (.int many), .val (.fz (ns.map .str)), .own (.lst (R.map sR)), .val (.int i), .val (.int share), .own (.lst (r.map .str)), .emp, .val (.int a)], S1⟩) ?_ ?_
              · simp only [W_pure, W_ofO, W_eVar, W_oVar, W_eFrz, W_oE, W_eOp2, W_eChain, W_asB, W_bNot, W_bAnd, W_bOr, W_eNot, W_eAnd, W_eOr, W_eIf, W_eNeg, W_aNil, W_aCons, W_oNil, W_oCons, W_eTup, W_fLst, W_eFz, W_eBox, W_fDic, W_eCall, W_fCall, W_pNo, W_pSome, W_eSliceU, W_fSlice, W_fRev, W_eLst, W_eLst0, W_mVar, W_mRef, W_eMeth, W_eFn, W_cSeq, W_cRet, W_cExpr, W_cIf, W_cSet, W_cOwn, W_cUnp, W_cSetIx, W_cPut, W_iU, W_iVar, W_iRange, W_iEnumU, W_iZipU, W_cFor, W_bYes, Op_some, Op_none, Op_ite, Op_map, Op_bind, Op_rdAll, rdAll_nil, Bw_bl, rVar, peekS, peekT, pVar, pRef, Lw_lst, setS, lstAt_fz, lenO_fz, lenO_str, list_fz, wipe_1, wipe_2, rest_1, rest_2, List.all_cons, List.all_nil, notOwn, W_fComp, asg_2, asg_n, turn_n, turn_c, turn_b, turn_r, List.getElem?_cons_zero, List.getElem?_cons_succ, List.getElem?_nil, List.set_cons_zero, List.set_cons_succ, List.map_cons, List.map_nil, List.cons_append, List.nil_append, List.length_cons, List.length_nil, Option.getD_some, Bool.and_true, Bool.and_self, Option.bind_some, Option.map_some, List.replicate_succ, List.replicate_zero, decide_eq_true_eq, Bool.not_true, Bool.not_false, Bool.not_eq_true', if_true, if_false, reduceIte, reduceCtorEq, Nat.reduceAdd, Nat.reduceSub, Nat.reduceLeDiff, true_and, and_true, List.length_map]
                refine pick_w h5.1 (by omega) (by omega) fun x S3 h6 hx hx2 => ?_
                refine ⟨x.toNat, S3, (h1.trans h5).trans h6, by omega, ?_⟩
                rw [Int.toNat_of_nonneg hx]
              rintro _ ⟨a, S3, h6, ha, rfl⟩
              simp only [W_pure, W_ofO, W_eVar, W_oVar, W_eFrz, W_oE, W_eOp2, W_eChain, W_asB, W_bNot, W_bAnd, W_bOr, W_eNot, W_eAnd, W_eOr, W_eIf, W_eNeg, W_aNil, W_aCons, W_oNil, W_oCons, W_eTup, W_fLst, W_eFz, W_eBox, W_fDic, W_eCall, W_fCall, W_pNo, W_pSome, W_eSliceU, W_fSlice, W_fRev, W_eLst, W_eLst0, W_mVar, W_mRef, W_eMeth, W_eFn, W_cSeq, W_cRet, W_cExpr, W_cIf, W_cSet, W_cOwn, W_cUnp, W_cSetIx, W_cPut, W_iU, W_iVar, W_iRange, W_iEnumU, W_iZipU, W_cFor, W_bYes, Op_some, Op_none, Op_ite, Op_map, Op_bind, Op_rdAll, rdAll_nil, Bw_bl, rVar, peekS, peekT, pVar, pRef, Lw_lst, setS, lstAt_fz, lenO_fz, lenO_str, list_fz, wipe_1, wipe_2, rest_1, rest_2, List.all_cons, List.all_nil, notOwn, W_fComp, asg_2, asg_n, turn_n, turn_c, turn_b, turn_r, List.getElem?_cons_zero, List.getElem?_cons_succ, List.getElem?_nil, List.set_cons_zero, List.set_cons_succ, List.map_cons, List.map_nil, List.cons_append, List.nil_append, List.length_cons, List.length_nil, Option.getD_some, Bool.and_true, Bool.and_self, Option.bind_some, Option.map_some, List.replicate_succ, List.replicate_zero, decide_eq_true_eq, Bool.not_true, Bool.not_false, Bool.not_eq_true', if_true, if_false, reduceIte, reduceCtorEq, Nat.reduceAdd, Nat.reduceSub, Nat.reduceLeDiff, true_and, and_true, List.length_map]
              refine pick_w h6.1 (by omega) (by omega) fun x S4 h7 hx hx2 => ?_
              rw [pop_i (by rw [List.length_map]; exact ha) (by rw [List.length_map]; omega)]
              simp only [W_pure, W_ofO, W_eVar, W_oVar, W_eFrz, W_oE, W_eOp2, W_eChain, W_asB, W_bNot, W_bAnd, W_bOr, W_eNot, W_eAnd, W_eOr, W_eIf, W_eNeg, W_aNil, W_aCons, W_oNil, W_oCons, W_eTup, W_fLst, W_eFz, W_eBox, W_fDic, W_eCall, W_fCall, W_pNo, W_pSome, W_eSliceU, W_fSlice, W_fRev, W_eLst, W_eLst0, W_mVar, W_mRef, W_eMeth, W_eFn, W_cSeq, W_cRet, W_cExpr, W_cIf, W_cSet, W_cOwn, W_cUnp, W_cSetIx, W_cPut, W_iU, W_iVar, W_iRange, W_iEnumU, W_iZipU, W_cFor, W_bYes, Op_some, Op_none, Op_ite, Op_map, Op_bind, Op_rdAll, rdAll_nil, Bw_bl, rVar, peekS, peekT, pVar, pRef, Lw_lst, setS, lstAt_fz, lenO_fz, lenO_str, list_fz, wipe_1, wipe_2, rest_1, rest_2, List.all_cons, List.all_nil, notOwn, W_fComp, asg_2, asg_n, turn_n, turn_c, turn_b, turn_r, List.getElem?_cons_zero, List.getElem?_cons_succ, List.getElem?_nil, List.set_cons_zero, List.set_cons_succ, List.map_cons, List.map_nil, List.cons_append, List.nil_append, List.length_cons, List.length_nil, Option.getD_some, Bool.and_true, Bool.and_self, Option.bind_some, Option.map_some, List.replicate_succ, List.replicate_zero, decide_eq_true_eq, Bool.not_true, Bool.not_false, Bool.not_eq_true', if_true, if_false, reduceIte, reduceCtorEq, Nat.reduceAdd, Nat.reduceSub, Nat.reduceLeDiff, true_and, and_true]
              rw [insert_i hx (by omega) (by rw [List.length_eraseIdx]; simp; split <;> omega)]
              simp only [W_pure, W_ofO, W_eVar, W_oVar, W_eFrz, W_oE, W_eOp2, W_eChain, W_asB, W_bNot, W_bAnd, W_bOr, W_eNot, W_eAnd, W_eOr, W_eIf, W_eNeg, W_aNil, W_aCons, W_oNil, W_oCons, W_eTup, W_fLst, W_eFz, W_eBox, W_fDic, W_eCall, W_fCall, W_pNo, W_pSome, W_eSliceU, W_fSlice, W_fRev, W_eLst, W_eLst0, W_mVar, W_mRef, W_eMeth, W_eFn, W_cSeq, W_cRet, W_cExpr, W_cIf, W_cSet, W_cOwn, W_cUnp, W_cSetIx, W_cPut, W_iU, W_iVar, W_iRange, W_iEnumU, W_iZipU, W_cFor, W_bYes, Op_some, Op_none, Op_ite, Op_map, Op_bind, Op_rdAll, rdAll_nil, Bw_bl, rVar, peekS, peekT, pVar, pRef, Lw_lst, setS, lstAt_fz, lenO_fz, lenO_str, list_fz, wipe_1, wipe_2, rest_1, rest_2, List.all_cons, List.all_nil, notOwn, W_fComp, asg_2, asg_n, turn_n, turn_c, turn_b, turn_r, List.getElem?_cons_zero, List.getElem?_cons_succ, List.getElem?_nil, List.set_cons_zero, List.set_cons_succ, List.map_cons, List.map_nil, List.cons_append, List.nil_append, List.length_cons, List.length_nil, Option.getD_some, Bool.and_true, Bool.and_self, Option.bind_some, Option.map_some, List.replicate_succ, List.replicate_zero, decide_eq_true_eq, Bool.not_true, Bool.not_false, Bool.not_eq_true', if_true, if_false, reduceIte, reduceCtorEq, Nat.reduceAdd, Nat.reduceSub, Nat.reduceLeDiff, true_and, and_true]
              have hp : ((r.eraseIdx a).take x.toNat ++ [r[a]] ++ (r.eraseIdx a).drop x.toNat).Perm r := by
                have e : (r.eraseIdx a).take x.toNat ++ [r[a]] ++ (r.eraseIdx a).drop x.toNat = (r.eraseIdx a).take x.toNat ++ r[a] :: (r.eraseIdx a).drop x.toNat := by simp
                rw [e]
                refine List.perm_middle.trans ?_
                rw [List.take_append_drop]
                exact erase_perm ha
              refine ⟨(r.eraseIdx a).take x.toNat ++ [r[a]] ++ (r.eraseIdx a).drop x.toNat, S4, .val (.int a), h6.trans h7, ⟨⟨hr.1.1.perm hp, by rw [hp.length_eq]; exact hr.1.2⟩, fun s hs => hr.2 s (hp.mem_iff.mp hs)⟩, fun ob => (fun z => by cases z), ?_⟩
              have he : (r.map T.str).eraseIdx a = (r.eraseIdx a).map T.str := by simp [List.eraseIdx_eq_take_drop_succ]
              simp only [List.map_append, List.map_take, List.map_drop, he, List.getElem?_cons_zero, List.getElem?_cons_succ, List.getElem?_nil, List.set_cons_zero, List.set_cons_succ, List.map_cons, List.map_nil, List.cons_append, List.nil_append, List.length_cons, List.length_nil, Option.getD_some, Bool.and_true, Bool.and_self, Option.bind_some, Option.map_some, List.replicate_succ, List.replicate_zero, decide_eq_true_eq, Bool.not_true, Bool.not_false, Bool.not_eq_true', if_true, if_false, reduceIte, reduceCtorEq, Nat.reduceAdd, Nat.reduceSub, Nat.reduceLeDiff, true_and, and_true, List.getElem_map]
            · exact ⟨r, S2, s9, h1.trans h5, hr, h9, rfl⟩
          · exact ⟨r, S1, s9, h1, hr, h9, rfl⟩
        · exact ⟨r, S1, s9, h1, hr, h9, rfl⟩
      clear h1 hr
      rintro _ ⟨r, S1, s9, h1, hr, h9, rfl⟩
      refine W_seq (fun st1 => ∃ r S1 s9, Pt p S S1 ∧ GdN ns r ∧ (∀ ob, s9 ≠ .own ob) ∧ st1 = ⟨[.val (.ref p), .val (.int shape), .val (.int many), .val (.fz (ns.map .str)), .own (.lst (R.map sR)), .val (.int i), .val (.int share), .own (.lst (r.map .str)), .emp, s9], S1⟩) ?_ ?_
      · rw [W_cIf]
        simp only [W_bAnd, W_asB, W_eOp2, W_oVar, W_oE, W_pure, W_eFz, W_fLst, W_aNil, W_aCons, W_eVar, W_eFn, List.getElem?_cons_zero, List.getElem?_cons_succ, List.getElem?_nil, List.set_cons_zero, List.set_cons_succ, List.map_cons, List.map_nil, List.cons_append, List.nil_append, List.length_cons, List.length_nil, Option.getD_some, Bool.and_true, Bool.and_self, Option.bind_some, Option.map_some, List.replicate_succ, List.replicate_zero, decide_eq_true_eq, Bool.not_true, Bool.not_false, Bool.not_eq_true', if_true, if_false, reduceIte, reduceCtorEq, Nat.reduceAdd, Nat.reduceSub, Nat.reduceLeDiff, true_and, and_true, ix_n, ix_0, ix_1, ix_2, ix_t0, ix_t1, ix_t2, set_1, set_2, add_i, sub_i, mod_i, div_i, lt_i, le_i, gt_i, ge_i, eq_i, ne_i, p1018, p1017, rVar, peekS, peekT, Op_some, Bw_bl]
        split
        · refine pick_w h1.1 (by decide) (by decide) fun x S2 h5 hx hx2 => ?_
          simp only [peekT, Op_some, eq_i, Bw_bl]
          split
          · have hr26 := hr.1.2
            simp only [W_pure, W_ofO, W_eVar, W_oVar, W_eFrz, W_oE, W_eOp2, W_eChain, W_asB, W_bNot, W_bAnd, W_bOr, W_eNot, W_eAnd, W_eOr, W_eIf, W_eNeg, W_aNil, W_aCons, W_oNil, W_oCons, W_eTup, W_fLst, W_eFz, W_eBox, W_fDic, W_eCall, W_fCall, W_pNo, W_pSome, W_eSliceU, W_fSlice, W_fRev, W_eLst, W_eLst0, W_mVar, W_mRef, W_eMeth, W_eFn, W_cSeq, W_cRet, W_cExpr, W_cIf, W_cSet, W_cOwn, W_cUnp, W_cSetIx, W_cPut, W_iU, W_iVar, W_iRange, W_iEnumU, W_iZipU, W_cFor, W_bYes, Op_some, Op_none, Op_ite, Op_map, Op_bind, Op_rdAll, rdAll_nil, Bw_bl, rVar, peekS, peekT, pVar, pRef, Lw_lst, setS, lstAt_fz, lenO_fz, lenO_str, list_fz, wipe_1, wipe_2, rest_1, rest_2, List.all_cons, List.all_nil, notOwn, W_fComp, asg_2, asg_n, turn_n, turn_c, turn_b, turn_r, List.getElem?_cons_zero, List.getElem?_cons_succ, List.getElem?_nil, List.set_cons_zero, List.set_cons_succ, List.map_cons, List.map_nil, List.cons_append, List.nil_append, List.length_cons, List.length_nil, Option.getD_some, Bool.and_true, Bool.and_self, Option.bind_some, Option.map_some, List.replicate_succ, List.replicate_zero, decide_eq_true_eq, Bool.not_true, Bool.not_false, Bool.not_eq_true', if_true, if_false, reduceIte, reduceCtorEq, Nat.reduceAdd, Nat.reduceSub, Nat.reduceLeDiff, true_and, and_true, List.length_map]
            refine (order_ok h5.1 (by omega)).mono fun t S3 q => ?_
            obtain ⟨h6, ks, rfl, hk, hkl, hkn⟩ := q
            simp only [W_pure, W_ofO, W_eVar, W_oVar, W_eFrz, W_oE, W_eOp2, W_eChain, W_asB, W_bNot, W_bAnd, W_bOr, W_eNot, W_eAnd, W_eOr, W_eIf, W_eNeg, W_aNil, W_aCons, W_oNil, W_oCons, W_eTup, W_fLst, W_eFz, W_eBox, W_fDic, W_eCall, W_fCall, W_pNo, W_pSome, W_eSliceU, W_fSlice, W_fRev, W_eLst, W_eLst0, W_mVar, W_mRef, W_eMeth, W_eFn, W_cSeq, W_cRet, W_cExpr, W_cIf, W_cSet, W_cOwn, W_cUnp, W_cSetIx, W_cPut, W_iU, W_iVar, W_iRange, W_iEnumU, W_iZipU, W_cFor, W_bYes, Op_some, Op_none, Op_ite, Op_map, Op_bind, Op_rdAll, rdAll_nil, Bw_bl, rVar, peekS, peekT, pVar, pRef, Lw_lst, setS, lstAt_fz, lenO_fz, lenO_str, list_fz, wipe_1, wipe_2, rest_1, rest_2, List.all_cons, List.all_nil, notOwn, W_fComp, asg_2, asg_n, turn_n, turn_c, turn_b, turn_r, List.getElem?_cons_zero, List.getElem?_cons_succ, List.getElem?_nil, List.set_cons_zero, List.set_cons_succ, List.map_cons, List.map_nil, List.cons_append, List.nil_append, List.length_cons, List.length_nil, Option.getD_some, Bool.and_true, Bool.and_self, Option.bind_some, Option.map_some, List.replicate_succ, List.replicate_zero, decide_eq_true_eq, Bool.not_true, Bool.not_false, Bool.not_eq_true', if_true, if_false, reduceIte, reduceCtorEq, Nat.reduceAdd, Nat.reduceSub, Nat.reduceLeDiff, true_and, and_true]
            refine ⟨⟨by unfold intsL; rw [List.length_map]; omega, by cases s9 <;> first | rfl | exact absurd rfl (h9 _)⟩, ?_⟩
            refine Op_lcP (fun _ => true) (numF r) trivial ?_ ?_
            · intro t ht
              obtain ⟨k, hk, rfl⟩ := List.mem_map.mp ht
              simp only [W_pure, W_ofO, W_eVar, W_oVar, W_eFrz, W_oE, W_eOp2, W_eChain, W_asB, W_bNot, W_bAnd, W_bOr, W_eNot, W_eAnd, W_eOr, W_eIf, W_eNeg, W_aNil, W_aCons, W_oNil, W_oCons, W_eTup, W_fLst, W_eFz, W_eBox, W_fDic, W_eCall, W_fCall, W_pNo, W_pSome, W_eSliceU, W_fSlice, W_fRev, W_eLst, W_eLst0, W_mVar, W_mRef, W_eMeth, W_eFn, W_cSeq, W_cRet, W_cExpr, W_cIf, W_cSet, W_cOwn, W_cUnp, W_cSetIx, W_cPut, W_iU, W_iVar, W_iRange, W_iEnumU, W_iZipU, W_cFor, W_bYes, Op_some, Op_none, Op_ite, Op_map, Op_bind, Op_rdAll, rdAll_nil, Bw_bl, rVar, peekS, peekT, pVar, pRef, Lw_lst, setS, lstAt_fz, lenO_fz, lenO_str, list_fz, wipe_1, wipe_2, rest_1, rest_2, List.all_cons, List.all_nil, notOwn, W_fComp, asg_2, asg_n, turn_n, turn_c, turn_b, turn_r, List.getElem?_cons_zero, List.getElem?_cons_succ, List.getElem?_nil, List.set_cons_zero, List.set_cons_succ, List.map_cons, List.map_nil, List.cons_append, List.nil_append, List.length_cons, List.length_nil, Option.getD_some, Bool.and_true, Bool.and_self, Option.bind_some, Option.map_some, List.replicate_succ, List.replicate_zero, decide_eq_true_eq, Bool.not_true, Bool.not_false, Bool.not_eq_true', if_true, if_false, reduceIte, reduceCtorEq, Nat.reduceAdd, Nat.reduceSub, Nat.reduceLeDiff, true_and, and_true, ix_str (hkl k hk)]
              exact fun _ => rfl
            · simp only [byNum (fun k hk => hkl k hk)]
              exact ⟨ks.map fun k => r.getD k [], S3, s9, (h1.trans h5).trans h6, ⟨⟨hr.1.1.pick hk (fun k hk => hkl k hk), by rw [List.length_map, hkn]; exact hr.1.2⟩, fun s hs => by
                obtain ⟨k, hkm, rfl⟩ := List.mem_map.mp hs
                rw [List.getD_eq_getElem?_getD, List.getElem?_eq_getElem (hkl k hkm)]
                exact hr.2 _ (List.getElem_mem _)⟩, h9, by simp only [List.getElem?_cons_zero, List.getElem?_cons_succ, List.getElem?_nil, List.set_cons_zero, List.set_cons_succ, List.map_cons, List.map_nil, List.cons_append, List.nil_append, List.length_cons, List.length_nil, Option.getD_some, Bool.and_true, Bool.and_self, Option.bind_some, Option.map_some, List.replicate_succ, List.replicate_zero, decide_eq_true_eq, Bool.not_true, Bool.not_false, Bool.not_eq_true', if_true, if_false, reduceIte, reduceCtorEq, Nat.reduceAdd, Nat.reduceSub, Nat.reduceLeDiff, true_and, and_true]⟩
          · exact ⟨r, S2, s9, h1.trans h5, hr, h9, rfl⟩
        · exact ⟨r, S1, s9, h1, hr, h9, rfl⟩
      clear h1 hr
      rintro _ ⟨r, S1, s9, h1, hr, h9, rfl⟩
      simp only [W_pure, W_ofO, W_eVar, W_oVar, W_eFrz, W_oE, W_eOp2, W_eChain, W_asB, W_bNot, W_bAnd, W_bOr, W_eNot, W_eAnd, W_eOr, W_eIf, W_eNeg, W_aNil, W_aCons, W_oNil, W_oCons, W_eTup, W_fLst, W_eFz, W_eBox, W_fDic, W_eCall, W_fCall, W_pNo, W_pSome, W_eSliceU, W_fSlice, W_fRev, W_eLst, W_eLst0, W_mVar, W_mRef, W_eMeth, W_eFn, W_cSeq, W_cRet, W_cExpr, W_cIf, W_cSet, W_cOwn, W_cUnp, W_cSetIx, W_cPut, W_iU, W_iVar, W_iRange, W_iEnumU, W_iZipU, W_cFor, W_bYes, Op_some, Op_none, Op_ite, Op_map, Op_bind, Op_rdAll, rdAll_nil, Bw_bl, rVar, peekS, peekT, pVar, pRef, Lw_lst, setS, lstAt_fz, lenO_fz, lenO_str, list_fz, wipe_1, wipe_2, rest_1, rest_2, List.all_cons, List.all_nil, notOwn, W_fComp, asg_2, asg_n, turn_n, turn_c, turn_b, turn_r, List.getElem?_cons_zero, List.getElem?_cons_succ, List.getElem?_nil, List.set_cons_zero, List.set_cons_succ, List.map_cons, List.map_nil, List.cons_append, List.nil_append, List.length_cons, List.length_nil, Option.getD_some, Bool.and_true, Bool.and_self, Option.bind_some, Option.map_some, List.replicate_succ, List.replicate_zero, decide_eq_true_eq, Bool.not_true, Bool.not_false, Bool.not_eq_true', if_true, if_false, reduceIte, reduceCtorEq, Nat.reduceAdd, Nat.reduceSub, Nat.reduceLeDiff, true_and, and_true]
      rw [append_i (by rw [List.length_map, hRl]; simp at hi; omega)]
      simp only [W_pure, W_ofO, W_eVar, W_oVar, W_eFrz, W_oE, W_eOp2, W_eChain, W_asB, W_bNot, W_bAnd, W_bOr, W_eNot, W_eAnd, W_eOr, W_eIf, W_eNeg, W_aNil, W_aCons, W_oNil, W_oCons, W_eTup, W_fLst, W_eFz, W_eBox, W_fDic, W_eCall, W_fCall, W_pNo, W_pSome, W_eSliceU, W_fSlice, W_fRev, W_eLst, W_eLst0, W_mVar, W_mRef, W_eMeth, W_eFn, W_cSeq, W_cRet, W_cExpr, W_cIf, W_cSet, W_cOwn, W_cUnp, W_cSetIx, W_cPut, W_iU, W_iVar, W_iRange, W_iEnumU, W_iZipU, W_cFor, W_bYes, Op_some, Op_none, Op_ite, Op_map, Op_bind, Op_rdAll, rdAll_nil, Bw_bl, rVar, peekS, peekT, pVar, pRef, Lw_lst, setS, lstAt_fz, lenO_fz, lenO_str, list_fz, wipe_1, wipe_2, rest_1, rest_2, List.all_cons, List.all_nil, notOwn, W_fComp, asg_2, asg_n, turn_n, turn_c, turn_b, turn_r, List.getElem?_cons_zero, List.getElem?_cons_succ, List.getElem?_nil, List.set_cons_zero, List.set_cons_succ, List.map_cons, List.map_nil, List.cons_append, List.nil_append, List.length_cons, List.length_nil, Option.getD_some, Bool.and_true, Bool.and_self, Option.bind_some, Option.map_some, List.replicate_succ, List.replicate_zero, decide_eq_true_eq, Bool.not_true, Bool.not_false, Bool.not_eq_true', if_true, if_false, reduceIte, reduceCtorEq, Nat.reduceAdd, Nat.reduceSub, Nat.reduceLeDiff, true_and, and_true]
      refine ⟨.val (.int i), .val (.int share), .val (.fz (r.map .str)), s9, R ++ [r], S1, h1, by simp [hRl], ?_, h9, ?_⟩
      · intro q hq
        rw [List.mem_append, List.mem_singleton] at hq
        rcases hq with hq | rfl
        · exact hR q hq
        · exact hr
      · rw [List.map_append]
        rfl
    · clear h1
      rintro _ ⟨s5, s6, s7, s9, R, S1, h1, hRl, hR, h9, rfl⟩
      have e : 0 + ((List.range z.toNat).map fun k : Nat => T.int (k : Int)).length = z.toNat := by simp
      rw [e] at hRl
      exact ⟨trivial, rfl, _, _, _, _, R, S1, h1, by omega, hR, rfl⟩
  rintro _ ⟨s5, s6, s7, s9, R, S1, h1, hRl, hR, rfl⟩
  simp only [W_pure, W_ofO, W_eVar, W_oVar, W_eFrz, W_oE, W_eOp2, W_eChain, W_asB, W_bNot, W_bAnd, W_bOr, W_eNot, W_eAnd, W_eOr, W_eIf, W_eNeg, W_aNil, W_aCons, W_oNil, W_oCons, W_eTup, W_fLst, W_eFz, W_eBox, W_fDic, W_eCall, W_fCall, W_pNo, W_pSome, W_eSliceU, W_fSlice, W_fRev, W_eLst, W_eLst0, W_mVar, W_mRef, W_eMeth, W_eFn, W_cSeq, W_cRet, W_cExpr, W_cIf, W_cSet, W_cOwn, W_cUnp, W_cSetIx, W_cPut, W_iU, W_iVar, W_iRange, W_iEnumU, W_iZipU, W_cFor, W_bYes, Op_some, Op_none, Op_ite, Op_map, Op_bind, Op_rdAll, rdAll_nil, Bw_bl, rVar, peekS, peekT, pVar, pRef, Lw_lst, setS, lstAt_fz, lenO_fz, lenO_str, list_fz, wipe_1, wipe_2, rest_1, rest_2, List.all_cons, List.all_nil, notOwn, W_fComp, asg_2, asg_n, turn_n, turn_c, turn_b, turn_r, List.getElem?_cons_zero, List.getElem?_cons_succ, List.getElem?_nil, List.set_cons_zero, List.set_cons_succ, List.map_cons, List.map_nil, List.cons_append, List.nil_append, List.length_cons, List.length_nil, Option.getD_some, Bool.and_true, Bool.and_self, Option.bind_some, Option.map_some, List.replicate_succ, List.replicate_zero, decide_eq_true_eq, Bool.not_true, Bool.not_false, Bool.not_eq_true', if_true, if_false, reduceIte, reduceCtorEq, Nat.reduceAdd, Nat.reduceSub, Nat.reduceLeDiff, true_and, and_true]
  exact ⟨h1, R, rfl, hRl, fun r hr => (hR r hr).1, ns, hns, hnl, fun r hr => (hR r hr).2⟩
end Lw
namespace Lw
open PySem PySem.Spec PyProof.Rows L2 Sw Classical
abbrev Row := List (List Nat)
/-! ### the rows' merge as it is -/
def inTl (R : List Row) (a : List Nat) : Bool := R.any fun o => (o.drop 1).contains a
def hdW (P : List Nat → Bool) : List Row → Option (List Nat)
  | [] => none
  | [] :: R => hdW P R
  | (a :: _) :: R => if P a then hdW P R else some a
def hdOf (R : List Row) : Option (List Nat) := hdW (inTl R) R
def full (r : Row) : Bool := !r.isEmpty
def live (R : List Row) : Bool := R.any full
def stepR (n : List Nat) (r : Row) : Row := if r.take 1 == [n] then r.drop 1 else r
def runs : Nat → List Row → Row × List Row
  | 0, R => ([], R)
  | k + 1, R => if live R then match hdOf R with
      | none => ([], R)
      | some n => (n :: (runs k (R.map (stepR n))).1, (runs k (R.map (stepR n))).2)
    else ([], R)
def tot (R : List Row) : Nat := (R.map List.length).sum
theorem hdW_full {P : List Nat → Bool} : ∀ {R : List Row}, hdW P (R.filter full) = hdW P R
  | [] => rfl
  | [] :: R => by
    rw [List.filter_cons_of_neg (by simp [full])]
    exact hdW_full
  | (a :: r) :: R => by
    rw [List.filter_cons_of_pos (by simp [full])]
    show (if P a then _ else _) = (if P a then _ else _)
    rw [hdW_full]
theorem inTl_full {R : List Row} {a : List Nat} : inTl (R.filter full) a = inTl R a := by
  induction R with
  | nil => rfl
  | cons r R ih =>
    cases r with
    | nil =>
      rw [List.filter_cons_of_neg (by simp [full]), ih]
      simp [inTl]
    | cons b r =>
      rw [List.filter_cons_of_pos (by simp [full])]
      unfold inTl at ih ⊢
      rw [List.any_cons, List.any_cons, ih]
theorem hdOf_full {R : List Row} : hdOf (R.filter full) = hdOf R := by
  unfold hdOf
  rw [hdW_full]
  congr 1
  funext a
  exact inTl_full
theorem hdW_some {P : List Nat → Bool} {n : List Nat} : ∀ {R : List Row}, hdW P R = some n → ∃ r, (n :: r) ∈ R
  | [], h => by cases h
  | [] :: R, h => by
    obtain ⟨r, hr⟩ := hdW_some (R := R) h
    exact ⟨r, List.mem_cons_of_mem _ hr⟩
  | (a :: q) :: R, h => by
    have h : (if P a then hdW P R else some a) = some n := h
    split at h
    · obtain ⟨r, hr⟩ := hdW_some (R := R) h
      exact ⟨r, List.mem_cons_of_mem _ hr⟩
    · cases h
      exact ⟨q, List.mem_cons_self⟩
theorem stepR_len (n : List Nat) (r : Row) : (stepR n r).length ≤ r.length := by
  unfold stepR
  split
  · simp
  · exact Nat.le_refl _
theorem tot_step_le {n : List Nat} : ∀ {R : List Row}, tot (R.map (stepR n)) ≤ tot R
  | [] => Nat.le_refl _
  | r :: R => by
    have h1 := stepR_len n r
    have h2 := tot_step_le (n := n) (R := R)
    show (stepR n r).length + tot (R.map (stepR n)) ≤ r.length + tot R
    omega
theorem tot_step {n : List Nat} {r : Row} : ∀ {R : List Row}, (n :: r) ∈ R → tot (R.map (stepR n)) < tot R
  | q :: R, h => by
    show (stepR n q).length + tot (R.map (stepR n)) < q.length + tot R
    rcases List.mem_cons.mp h with rfl | h
    · have h2 := tot_step_le (n := n) (R := R)
      have : (stepR n (n :: r)).length = r.length := by simp [stepR]
      rw [this, List.length_cons]
      omega
    · have h1 := stepR_len n q
      have h2 := tot_step h
      omega
theorem live_tot {R : List Row} (h : live R = true) : 0 < tot R := by
  obtain ⟨r, hr, hf⟩ := List.any_eq_true.mp h
  cases r with
  | nil => cases hf
  | cons a r =>
    have := tot_step (n := a) hr
    omega
theorem runs_dead {k : Nat} {R : List Row} (h : live R = false) : runs k R = ([], R) := by
  cases k with
  | zero => rfl
  | succ k => unfold runs; rw [h]; rfl
theorem runs_ring {k : Nat} {R : List Row} (h : hdOf R = none) : runs k R = ([], R) := by
  cases k with
  | zero => rfl
  | succ k =>
    unfold runs
    rw [h]
    split <;> rfl
theorem runs_step {k : Nat} {R : List Row} {n : List Nat} (h : hdOf R = some n) (hl : live R = true) : runs (k + 1) R = (n :: (runs k (R.map (stepR n))).1, (runs k (R.map (stepR n))).2) := by
  show (if live R then _ else _) = _
  rw [hl, h]
  rfl
theorem tot_le {R : List Row} {b : Nat} (h : ∀ r ∈ R, r.length ≤ b) : tot R ≤ R.length * b := by
  induction R with
  | nil => simp [tot]
  | cons r R ih =>
    have h1 := h r List.mem_cons_self
    have h2 := ih fun q hq => h q (List.mem_cons_of_mem _ hq)
    show r.length + tot R ≤ (R.length + 1) * b
    rw [Nat.add_mul]
    omega
/-! what is kept of good rows -/
def GdRs (R : List Row) : Prop := R.length ≤ 16 ∧ ∀ r ∈ R, GdRow r
theorem GdRow.sub {a b : Row} (h : GdRow b) (s : a.Sublist b) : GdRow a := ⟨h.1.sub s, Nat.le_trans s.length_le h.2⟩
theorem stepR_sub (n : List Nat) (r : Row) : (stepR n r).Sublist r := by
  unfold stepR
  split
  · exact List.drop_sublist _ _
  · exact List.Sublist.refl _
theorem GdRs.step {R : List Row} (h : GdRs R) (n : List Nat) : GdRs (R.map (stepR n)) := by
  refine ⟨by rw [List.length_map]; exact h.1, fun r hr => ?_⟩
  obtain ⟨q, hq, rfl⟩ := List.mem_map.mp hr
  exact (h.2 q hq).sub (stepR_sub n q)
theorem GdRs.full {R : List Row} (h : GdRs R) : GdRs (R.filter full) := ⟨Nat.le_trans (List.length_filter_le _ _) h.1, fun r hr => h.2 r (List.mem_filter.mp hr).1⟩
/-! rows as values -/
def strOf : T → Option (List Nat)
  | .str s => some s
  | _ => none
def rowOf : T → Row
  | .fz ts => ts.filterMap strOf
  | _ => []
theorem rowOf_sR (r : Row) : rowOf (sR r) = r := by
  show (r.map T.str).filterMap strOf = r
  rw [List.filterMap_map]
  show r.filterMap some = r
  exact List.filterMap_some
theorem rows_fm {R : List Row} (p : Row → Bool) (f : Row → T) : ((R.map sR).filter fun t => p (rowOf t)).map (fun t => f (rowOf t)) = (R.filter p).map f := by
  induction R with
  | nil => rfl
  | cons r R ih =>
    rw [List.map_cons]
    cases h : p r with
    | true =>
      rw [List.filter_cons_of_pos (by rw [rowOf_sR]; exact h), List.filter_cons_of_pos h, List.map_cons, List.map_cons, rowOf_sR, ih]
    | false =>
      rw [List.filter_cons_of_neg (by rw [rowOf_sR, h]; simp), List.filter_cons_of_neg (by rw [h]; simp), ih]
theorem Op_lcR {chk : Stt → Prop} {own : List Nat} {tg : Tg} {test : M Bool} {elt : M T} {R : List Row} {st : Stt} {Φ : List T × Stt → Prop} (p : Row → Bool) (f : Row → T) (hc : chk st)
    (h : ∀ r ∈ R, Op (asgT tg (sR r) st.σ) (fun σ' => wipeS σ' own = st.σ ∧ W test { st with σ := σ' } (fun b st1 => b = p r ∧ st1 = { st with σ := σ' }) ∧ (p r = true → W elt { st with σ := σ' } (fun y st1 => y = f r ∧ st1 = { st with σ := σ' })))) (k : Φ ((R.filter p).map f, st)) : Op (lcL chk own tg test elt (R.map sR) st) Φ := by
  refine Op_lcP (fun t => p (rowOf t)) (fun t => f (rowOf t)) hc (fun t ht => ?_) ?_
  · obtain ⟨r, hr, rfl⟩ := List.mem_map.mp ht
    rw [rowOf_sR]
    exact h r hr
  · rw [rows_fm]
    exact k
theorem bls_map : ∀ {bs : List Bool}, blsOf (bs.map .bl) = some bs
  | [] => rfl
  | b :: bs => by
    show (blsOf (bs.map .bl)).map (b :: ·) = _
    rw [bls_map]
    rfl
theorem any_R {R : List Row} {f : Row → Bool} : anyO [.fz (R.map fun r => .bl (f r))] = some (.bl (R.any f)) := by
  have e : (R.map fun r => T.bl (f r)) = (R.map f).map .bl := by rw [List.map_map]; rfl
  show (blsOf (R.map fun r => T.bl (f r))).map (fun bs => T.bl (bs.any id)) = _
  rw [e, bls_map]
  simp [List.any_map]
theorem any_str {r : Row} {a : List Nat} : ((r.map T.str).any fun z => T.eqv z (.str a)) = r.contains a := by
  induction r with
  | nil => rfl
  | cons b r ih =>
    rw [List.map_cons, List.any_cons, ih, List.contains_cons]
    have e : (b == a) = (a == b) := Bool.eq_iff_iff.mpr ⟨fun h => beq_iff_eq.mpr (beq_iff_eq.mp h).symm, fun h => beq_iff_eq.mpr (beq_iff_eq.mp h).symm⟩
    show ((b == a) || _) = _
    rw [e]
theorem dats_row {r : Row} {n : Nat} (h : NmL r) : T.dats n (r.map .str) = true := dats_all fun t ht => by
  obtain ⟨s, hs, rfl⟩ := List.mem_map.mp ht
  exact dat_str (h.2 s hs)
theorem in_row {r : Row} {a : List Nat} (h : NmL r) (ha : a.all (· < 0x110000) = true) : inU (.str a) (.fz (r.map .str)) = some (.bl (r.contains a)) := by
  show inT _ _ = _
  unfold inT inB
  simp only [dat_str ha, dats_row h, Bool.and_self, if_true, Option.map_some, any_str]
theorem nin_row {r : Row} {a : List Nat} (h : NmL r) (ha : a.all (· < 0x110000) = true) : ninU (.str a) (.fz (r.map .str)) = some (.bl (!r.contains a)) := by
  show ninT _ _ = _
  unfold ninT inB
  simp only [dat_str ha, dats_row h, Bool.and_self, if_true, Option.map_some, any_str]
theorem cut_1 {r : Row} : cutL (r.map T.str) (some 1) none = (r.drop 1).map T.str := by
  rw [cut_from (by decide), List.map_drop]
  rfl
theorem cut_t1 {r : Row} : cutL (r.map T.str) none (some 1) = (r.take 1).map T.str := by
  rw [cut_to (by decide), List.map_take]
  rfl
theorem eq_row {a b : Row} (ha : NmL a) (hb : NmL b) : eqT (.fz (a.map .str)) (.fz (b.map .str)) = some (.bl (a == b)) := by
  unfold Sw.eqT Sw.eqO
  rw [show (T.fz (a.map .str)).dat 60 = true from dat_row ha, show (T.fz (b.map .str)).dat 60 = true from dat_row hb]
  simp only [Bool.and_self, if_true, Option.map_some, T.eqv, eqvs_str]
def optT : Option (List Nat) → T
  | none => .non
  | some s => .str s
theorem lst_sR {S : List Ob} {R : List Row} : lstAt S (.fz (R.map sR)) = some (R.map sR) := rfl
theorem head_ok {S : List Ob} {R : List Row} (h : ∀ r ∈ R, GdRow r ∧ full r = true) (hl : R.length ≤ 16) : Fw m_head_of [.fz (R.map sR)] S (fun t S' => t = optT (hdOf R) ∧ S' = S) := by
  unfold m_head_of
  rw [Fw_fnM]
  unfold b_head_of
  rw [W_cSeq, W_cFor]
  simp only [W_iU, W_eVar, List.getElem?_cons_zero, List.getElem?_cons_succ, List.getElem?_nil, List.set_cons_zero, List.set_cons_succ, List.map_cons, List.map_nil, List.cons_append, List.nil_append, List.length_cons, List.length_nil, Option.getD_some, Bool.and_true, Bool.and_self, Option.bind_some, Option.map_some, List.replicate_succ, List.replicate_zero, decide_eq_true_eq, Bool.not_true, Bool.not_false, Bool.not_eq_true', if_true, if_false, reduceIte, reduceCtorEq, Nat.reduceAdd, Nat.reduceSub, Nat.reduceLeDiff, true_and, and_true, lst_sR, Op_some]
  refine W_forL (fun i st1 => hdOf R = hdW (inTl R) (R.drop i) ∧ ∃ s1, st1 = ⟨[.val (.fz (R.map sR)), s1, .emp], S⟩) _ 0 _ ⟨rfl, _, rfl⟩ ?_ ?_
  · rintro i t _ ht ⟨hi, s1, rfl⟩
    rw [Nat.zero_add] at hi ⊢
    rw [List.getElem?_map] at ht
    obtain ⟨r, hr, rfl⟩ := Option.map_eq_some_iff.mp ht
    obtain ⟨hil, hr'⟩ := List.getElem?_eq_some_iff.mp hr
    have hd : R.drop i = r :: R.drop (i + 1) := by rw [← hr']; exact List.drop_eq_getElem_cons hil
    obtain ⟨hg, hf⟩ := h r (List.mem_of_getElem? hr)
    cases r with
    | nil => cases hf
    | cons a q =>
      rw [hd] at hi
      have hi : hdOf R = if inTl R a then hdW (inTl R) (R.drop (i + 1)) else some a := hi
      have ha := hg.1.2 a List.mem_cons_self
      refine ⟨trivial, Op.of asg_n ?_⟩
      simp only [List.getElem?_cons_zero, List.getElem?_cons_succ, List.getElem?_nil, List.set_cons_zero, List.set_cons_succ, List.map_cons, List.map_nil, List.cons_append, List.nil_append, List.length_cons, List.length_nil, Option.getD_some, Bool.and_true, Bool.and_self, Option.bind_some, Option.map_some, List.replicate_succ, List.replicate_zero, decide_eq_true_eq, Bool.not_true, Bool.not_false, Bool.not_eq_true', if_true, if_false, reduceIte, reduceCtorEq, Nat.reduceAdd, Nat.reduceSub, Nat.reduceLeDiff, true_and, and_true]
      refine W_if (!inTl R a) ?_ ?_ ?_
      · simp only [W_pure, W_ofO, W_eVar, W_oVar, W_eFrz, W_oE, W_eOp2, W_eChain, W_asB, W_bNot, W_bAnd, W_bOr, W_eNot, W_eAnd, W_eOr, W_eIf, W_eNeg, W_aNil, W_aCons, W_oNil, W_oCons, W_eTup, W_fLst, W_eFz, W_eBox, W_fDic, W_eCall, W_fCall, W_pNo, W_pSome, W_eSliceU, W_fSlice, W_fRev, W_eLst, W_eLst0, W_mVar, W_mRef, W_eMeth, W_eFn, W_cSeq, W_cRet, W_cExpr, W_cIf, W_cSet, W_cOwn, W_cUnp, W_cSetIx, W_cPut, W_iU, W_iVar, W_iRange, W_iEnumU, W_iZipU, W_cFor, W_bYes, Op_some, Op_none, Op_ite, Op_map, Op_bind, Op_rdAll, rdAll_nil, Bw_bl, rVar, peekS, peekT, pVar, pRef, Lw_lst, setS, lstAt_fz, lenO_fz, lenO_str, list_fz, wipe_1, wipe_2, rest_1, rest_2, List.all_cons, List.all_nil, notOwn, W_fComp, asg_2, asg_n, turn_n, turn_c, turn_b, turn_r, List.getElem?_cons_zero, List.getElem?_cons_succ, List.getElem?_nil, List.set_cons_zero, List.set_cons_succ, List.map_cons, List.map_nil, List.cons_append, List.nil_append, List.length_cons, List.length_nil, Option.getD_some, Bool.and_true, Bool.and_self, Option.bind_some, Option.map_some, List.replicate_succ, List.replicate_zero, decide_eq_true_eq, Bool.not_true, Bool.not_false, Bool.not_eq_true', if_true, if_false, reduceIte, reduceCtorEq, Nat.reduceAdd, Nat.reduceSub, Nat.reduceLeDiff, true_and, and_true, lst_sR]
        refine ⟨by rw [List.length_map]; omega, ?_⟩
        refine Op_lcR (fun _ => true) (fun o => .bl ((o.drop 1).contains a)) trivial ?_ ?_
        · intro o ho
          simp only [W_pure, W_ofO, W_eVar, W_oVar, W_eFrz, W_oE, W_eOp2, W_eChain, W_asB, W_bNot, W_bAnd, W_bOr, W_eNot, W_eAnd, W_eOr, W_eIf, W_eNeg, W_aNil, W_aCons, W_oNil, W_oCons, W_eTup, W_fLst, W_eFz, W_eBox, W_fDic, W_eCall, W_fCall, W_pNo, W_pSome, W_eSliceU, W_fSlice, W_fRev, W_eLst, W_eLst0, W_mVar, W_mRef, W_eMeth, W_eFn, W_cSeq, W_cRet, W_cExpr, W_cIf, W_cSet, W_cOwn, W_cUnp, W_cSetIx, W_cPut, W_iU, W_iVar, W_iRange, W_iEnumU, W_iZipU, W_cFor, W_bYes, Op_some, Op_none, Op_ite, Op_map, Op_bind, Op_rdAll, rdAll_nil, Bw_bl, rVar, peekS, peekT, pVar, pRef, Lw_lst, setS, lstAt_fz, lenO_fz, lenO_str, list_fz, wipe_1, wipe_2, rest_1, rest_2, List.all_cons, List.all_nil, notOwn, W_fComp, asg_2, asg_n, turn_n, turn_c, turn_b, turn_r, List.getElem?_cons_zero, List.getElem?_cons_succ, List.getElem?_nil, List.set_cons_zero, List.set_cons_succ, List.map_cons, List.map_nil, List.cons_append, List.nil_append, List.length_cons, List.length_nil, Option.getD_some, Bool.and_true, Bool.and_self, Option.bind_some, Option.map_some, List.replicate_succ, List.replicate_zero, decide_eq_true_eq, Bool.not_true, Bool.not_false, Bool.not_eq_true', if_true, if_false, reduceIte, reduceCtorEq, Nat.reduceAdd, Nat.reduceSub, Nat.reduceLeDiff, true_and, and_true, ix_n, ix_0, ix_1, ix_2, ix_t0, ix_t1, ix_t2, set_1, set_2, add_i, sub_i, mod_i, div_i, lt_i, le_i, gt_i, ge_i, eq_i, ne_i, p1018, p1017, sR]
          simp only [Op_some, cut_1, in_row ((h o ho).1.1.sub (List.drop_sublist _ _)) ha]
          exact fun _ => trivial
        · rw [List.filter_eq_self.mpr (fun _ _ => rfl)]
          simp only [List.getElem?_cons_zero, List.getElem?_cons_succ, List.getElem?_nil, List.set_cons_zero, List.set_cons_succ, List.map_cons, List.map_nil, List.cons_append, List.nil_append, List.length_cons, List.length_nil, Option.getD_some, Bool.and_true, Bool.and_self, Option.bind_some, Option.map_some, List.replicate_succ, List.replicate_zero, decide_eq_true_eq, Bool.not_true, Bool.not_false, Bool.not_eq_true', if_true, if_false, reduceIte, reduceCtorEq, Nat.reduceAdd, Nat.reduceSub, Nat.reduceLeDiff, true_and, and_true, Op_some, any_R, Bw_bl]
          rfl
      · intro hp
        simp only [W_pure, W_ofO, W_eVar, W_oVar, W_eFrz, W_oE, W_eOp2, W_eChain, W_asB, W_bNot, W_bAnd, W_bOr, W_eNot, W_eAnd, W_eOr, W_eIf, W_eNeg, W_aNil, W_aCons, W_oNil, W_oCons, W_eTup, W_fLst, W_eFz, W_eBox, W_fDic, W_eCall, W_fCall, W_pNo, W_pSome, W_eSliceU, W_fSlice, W_fRev, W_eLst, W_eLst0, W_mVar, W_mRef, W_eMeth, W_eFn, W_cSeq, W_cRet, W_cExpr, W_cIf, W_cSet, W_cOwn, W_cUnp, W_cSetIx, W_cPut, W_iU, W_iVar, W_iRange, W_iEnumU, W_iZipU, W_cFor, W_bYes, Op_some, Op_none, Op_ite, Op_map, Op_bind, Op_rdAll, rdAll_nil, Bw_bl, rVar, peekS, peekT, pVar, pRef, Lw_lst, setS, lstAt_fz, lenO_fz, lenO_str, list_fz, wipe_1, wipe_2, rest_1, rest_2, List.all_cons, List.all_nil, notOwn, W_fComp, asg_2, asg_n, turn_n, turn_c, turn_b, turn_r, List.getElem?_cons_zero, List.getElem?_cons_succ, List.getElem?_nil, List.set_cons_zero, List.set_cons_succ, List.map_cons, List.map_nil, List.cons_append, List.nil_append, List.length_cons, List.length_nil, Option.getD_some, Bool.and_true, Bool.and_self, Option.bind_some, Option.map_some, List.replicate_succ, List.replicate_zero, decide_eq_true_eq, Bool.not_true, Bool.not_false, Bool.not_eq_true', if_true, if_false, reduceIte, reduceCtorEq, Nat.reduceAdd, Nat.reduceSub, Nat.reduceLeDiff, true_and, and_true, ix_n, ix_0, ix_1, ix_2, ix_t0, ix_t1, ix_t2, set_1, set_2, add_i, sub_i, mod_i, div_i, lt_i, le_i, gt_i, ge_i, eq_i, ne_i, p1018, p1017, sR]
        rw [hi, if_neg (by simpa using hp)]
        rfl
      · intro hp
        simp only [W_pure, W_ofO, W_eVar, W_oVar, W_eFrz, W_oE, W_eOp2, W_eChain, W_asB, W_bNot, W_bAnd, W_bOr, W_eNot, W_eAnd, W_eOr, W_eIf, W_eNeg, W_aNil, W_aCons, W_oNil, W_oCons, W_eTup, W_fLst, W_eFz, W_eBox, W_fDic, W_eCall, W_fCall, W_pNo, W_pSome, W_eSliceU, W_fSlice, W_fRev, W_eLst, W_eLst0, W_mVar, W_mRef, W_eMeth, W_eFn, W_cSeq, W_cRet, W_cExpr, W_cIf, W_cSet, W_cOwn, W_cUnp, W_cSetIx, W_cPut, W_iU, W_iVar, W_iRange, W_iEnumU, W_iZipU, W_cFor, W_bYes, Op_some, Op_none, Op_ite, Op_map, Op_bind, Op_rdAll, rdAll_nil, Bw_bl, rVar, peekS, peekT, pVar, pRef, Lw_lst, setS, lstAt_fz, lenO_fz, lenO_str, list_fz, wipe_1, wipe_2, rest_1, rest_2, List.all_cons, List.all_nil, notOwn, W_fComp, asg_2, asg_n, turn_n, turn_c, turn_b, turn_r, List.getElem?_cons_zero, List.getElem?_cons_succ, List.getElem?_nil, List.set_cons_zero, List.set_cons_succ, List.map_cons, List.map_nil, List.cons_append, List.nil_append, List.length_cons, List.length_nil, Option.getD_some, Bool.and_true, Bool.and_self, Option.bind_some, Option.map_some, List.replicate_succ, List.replicate_zero, decide_eq_true_eq, Bool.not_true, Bool.not_false, Bool.not_eq_true', if_true, if_false, reduceIte, reduceCtorEq, Nat.reduceAdd, Nat.reduceSub, Nat.reduceLeDiff, true_and, and_true]
        rw [hi, if_pos (by simpa using hp)]
        exact ⟨rfl, _, rfl⟩
  · rintro _ ⟨hi, s1, rfl⟩
    rw [List.drop_eq_nil_of_le (by simp)] at hi
    simp only [W_pure, W_ofO, W_eVar, W_oVar, W_eFrz, W_oE, W_eOp2, W_eChain, W_asB, W_bNot, W_bAnd, W_bOr, W_eNot, W_eAnd, W_eOr, W_eIf, W_eNeg, W_aNil, W_aCons, W_oNil, W_oCons, W_eTup, W_fLst, W_eFz, W_eBox, W_fDic, W_eCall, W_fCall, W_pNo, W_pSome, W_eSliceU, W_fSlice, W_fRev, W_eLst, W_eLst0, W_mVar, W_mRef, W_eMeth, W_eFn, W_cSeq, W_cRet, W_cExpr, W_cIf, W_cSet, W_cOwn, W_cUnp, W_cSetIx, W_cPut, W_iU, W_iVar, W_iRange, W_iEnumU, W_iZipU, W_cFor, W_bYes, Op_some, Op_none, Op_ite, Op_map, Op_bind, Op_rdAll, rdAll_nil, Bw_bl, rVar, peekS, peekT, pVar, pRef, Lw_lst, setS, lstAt_fz, lenO_fz, lenO_str, list_fz, wipe_1, wipe_2, rest_1, rest_2, List.all_cons, List.all_nil, notOwn, W_fComp, asg_2, asg_n, turn_n, turn_c, turn_b, turn_r, List.getElem?_cons_zero, List.getElem?_cons_succ, List.getElem?_nil, List.set_cons_zero, List.set_cons_succ, List.map_cons, List.map_nil, List.cons_append, List.nil_append, List.length_cons, List.length_nil, Option.getD_some, Bool.and_true, Bool.and_self, Option.bind_some, Option.map_some, List.replicate_succ, List.replicate_zero, decide_eq_true_eq, Bool.not_true, Bool.not_false, Bool.not_eq_true', if_true, if_false, reduceIte, reduceCtorEq, Nat.reduceAdd, Nat.reduceSub, Nat.reduceLeDiff, true_and, and_true]
    rw [hi]
    rfl
end Lw
namespace Lw
open PySem PySem.Spec PyProof.Rows L2 Sw Classical
def CdR (r : Row) : Prop := ∀ s ∈ r, s.all (· < 0x110000) = true
theorem NmL.cd {r : Row} (h : NmL r) : CdR r := h.2
theorem dats_cd {r : Row} {n : Nat} (h : CdR r) : T.dats n (r.map .str) = true := dats_all fun t ht => by
  obtain ⟨s, hs, rfl⟩ := List.mem_map.mp ht
  exact dat_str (h s hs)
theorem dat_cd {r : Row} {n : Nat} (h : CdR r) : (T.fz (r.map .str)).dat (n + 1) = true := dats_cd h
theorem nin_cd {r : Row} {a : List Nat} (h : CdR r) (ha : a.all (· < 0x110000) = true) : ninU (.str a) (.fz (r.map .str)) = some (.bl (!r.contains a)) := by
  show ninT _ _ = _
  unfold ninT inB
  simp only [dat_str ha, dats_cd h, Bool.and_self, if_true, Option.map_some, any_str]
theorem eq_cd {a b : Row} (ha : CdR a) (hb : CdR b) : Sw.eqT (.fz (a.map .str)) (.fz (b.map .str)) = some (.bl (a == b)) := by
  unfold Sw.eqT Sw.eqO
  rw [show (T.fz (a.map .str)).dat 60 = true from dat_cd ha, show (T.fz (b.map .str)).dat 60 = true from dat_cd hb]
  simp only [Bool.and_self, if_true, Option.map_some, T.eqv, eqvs_str]
theorem dat_rows {R : List Row} {n : Nat} (h : ∀ r ∈ R, CdR r) : (T.fz (R.map sR)).dat (n + 2) = true := dat_fz fun t ht => by
  obtain ⟨r, hr, rfl⟩ := List.mem_map.mp ht
  exact dat_cd (h r hr)
theorem GdRs.cd {R : List Row} (h : GdRs R) : ∀ r ∈ R, CdR r := fun r hr => (h.2 r hr).1.2
theorem live_f {R : List Row} : (!((R.filter full).map sR).isEmpty) = live R := by
  induction R with
  | nil => rfl
  | cons r R ih =>
    cases h : full r with
    | true =>
      rw [List.filter_cons_of_pos h]
      simp [live, h]
    | false =>
      rw [List.filter_cons_of_neg (by rw [h]; simp), ih]
      simp [live, h]
def tls (R : List Row) : Row := R.flatMap (List.drop 1)
theorem tls_in {R : List Row} {a : List Nat} : (tls R).contains a = inTl R a := by
  rw [Bool.eq_iff_iff]
  simp only [tls, inTl, List.contains_iff_mem, List.mem_flatMap, List.any_eq_true]
def headsW (P : List Nat → Bool) (R : List Row) : Row := (R.filter fun r => full r && !P (r.headD [])).map (·.headD [])
theorem heads_hd {P : List Nat → Bool} : ∀ {R : List Row}, (headsW P R).head? = hdW P R
  | [] => rfl
  | [] :: R => by
    unfold headsW
    rw [List.filter_cons_of_neg (by simp [full])]
    exact heads_hd
  | (a :: r) :: R => by
    unfold headsW
    cases h : P a with
    | true =>
      rw [List.filter_cons_of_neg (by simp [full, h])]
      show (headsW P R).head? = if P a then hdW P R else some a
      rw [h, heads_hd]
      rfl
    | false =>
      rw [List.filter_cons_of_pos (by simp [full, h])]
      show some a = if P a then hdW P R else some a
      rw [h]
      rfl
theorem heads_cd {P : List Nat → Bool} {R : List Row} (h : ∀ r ∈ R, CdR r) : CdR (headsW P R) := fun s hs => by
  obtain ⟨r, hr, rfl⟩ := List.mem_map.mp hs
  obtain ⟨h1, h2⟩ := List.mem_filter.mp hr
  cases r with
  | nil => simp [full] at h2
  | cons a q => exact h _ h1 a List.mem_cons_self
theorem fz_add {ts us : List T} (h : ts.length + us.length ≤ 1000000) : addU (.fz ts) (.fz us) = some (.fz (ts ++ us)) := by
  unfold addU
  simp only [h, if_true]
theorem list_R {R : List Row} : ((R.filter fun _ => true).map sR) = R.map sR := by rw [List.filter_eq_self.mpr (fun _ _ => rfl)]
def KK : Nat := 500
theorem GdRs.tot {R : List Row} (h : GdRs R) : tot R ≤ KK := by
  have h1 := tot_le fun r hr => (h.2 r hr).2
  have h2 := h.1
  unfold KK
  omega
theorem ix_h {a : List Nat} {l : List T} : ixU (.fz (.str a :: l)) (.int 0) = some (.str a) := by rw [ix_0]; rfl
end Lw
namespace Lw
open PySem PySem.Spec PyProof.Rows L2 Sw Classical
abbrev Dem := List Nat × List Nat × Nat
def dT (d : Dem) : T := .tup [.str d.1, .str d.2.1, .int d.2.2]
def DemOk (Z : List Row) (d : Dem) : Prop := ∃ q, Z[d.2.2]? = some (d.1 :: q) ∧ d.2.1 ∈ q
theorem nodup_len {α : Type} [DecidableEq α] : ∀ {l m : List α}, l.Nodup → (∀ a ∈ l, a ∈ m) → l.length ≤ m.length
  | [], _, _, _ => Nat.zero_le _
  | a :: l, m, hn, hs => by
    rw [List.nodup_cons] at hn
    have ha := hs a List.mem_cons_self
    have := nodup_len (l := l) (m := m.erase a) hn.2 fun b hb => (List.mem_erase_of_ne (fun e => hn.1 (by rw [← e]; exact hb))).mpr (hs b (List.mem_cons_of_mem _ hb))
    rw [List.length_erase_of_mem ha] at this
    have h1 := List.length_pos_of_mem ha
    rw [List.length_cons]
    omega
def nums (s n : Nat) : List T := (List.range' s n).map fun k : Nat => .int (k : Int)
theorem lookD_os {a : List Nat} : ∀ {os : Row} {s : Nat}, lookD (os.map .str) (nums s os.length) (.str a) = (os.findIdx? (· == a)).map fun j : Nat => .int ((s + j : Nat) : Int)
  | [], s => rfl
  | o :: os, s => by
    have e : nums s (o :: os).length = .int (s : Int) :: nums (s + 1) os.length := by
      unfold nums
      rw [List.length_cons, List.range'_succ, List.map_cons]
    rw [e, List.map_cons, List.findIdx?_cons]
    show (if (o == a) = true then some (T.int s) else lookD (os.map .str) (nums (s + 1) os.length) (.str a)) = _
    rw [lookD_os]
    cases h : (o == a) with
    | true => simp
    | false =>
      simp only [Bool.false_eq_true, if_false, Option.map_map]
      congr 1
      funext j
      show T.int _ = T.int _
      dsimp only [Function.comp]
      congr 2
      omega
theorem any_kEq {a : List Nat} {os : Row} : ((os.map T.str).any fun k => kEq k (.str a)) = os.contains a := by
  induction os with
  | nil => rfl
  | cons b r ih =>
    rw [List.map_cons, List.any_cons, ih, List.contains_cons]
    have e : (b == a) = (a == b) := Bool.eq_iff_iff.mpr ⟨fun h => beq_iff_eq.mpr (beq_iff_eq.mp h).symm, fun h => beq_iff_eq.mpr (beq_iff_eq.mp h).symm⟩
    show ((b == a) || _) = _
    rw [e]
theorem hd_none {P : List Nat → Bool} : ∀ {R : List Row}, hdW P R = none → ∀ a q, (a :: q) ∈ R → P a = true
  | [] :: R, h, a, q, hm => by
    rcases List.mem_cons.mp hm with e | hm
    · cases e
    · exact hd_none (R := R) h a q hm
  | (b :: r) :: R, h, a, q, hm => by
    have h : (if P b then hdW P R else some b) = none := h
    split at h
    · rcases List.mem_cons.mp hm with e | hm
      · cases e; assumption
      · exact hd_none (R := R) h a q hm
    · cases h
/-- the way gone so far -/
structure Way (Z : List Row) (ds : List Dem) (name : List Nat) : Prop where
  ok : ∀ d ∈ ds, DemOk Z d
  nd : (ds.map (·.2.1)).Nodup
  hd : ∃ q, (name :: q) ∈ Z
  hds : ∀ d ∈ ds, ∃ q, (d.2.1 :: q) ∈ Z
  ch : ∀ i d e, ds[i]? = some d → ds[i + 1]? = some e → e.2.1 = d.1
  last : ∀ d, ds.getLast? = some d → name = d.1
theorem Way.len {Z : List Row} {ds : List Dem} {name : List Nat} (w : Way Z ds name) (h : name ∉ ds.map (·.2.1)) : ds.length + 1 ≤ Z.length := by
  have h1 : (name :: ds.map (·.2.1)).Nodup := List.nodup_cons.mpr ⟨h, w.nd⟩
  have h2 : ∀ a ∈ name :: ds.map (·.2.1), a ∈ Z.map (·.headD []) := fun a ha => by
    have : ∃ q, (a :: q) ∈ Z := by
      rcases List.mem_cons.mp ha with rfl | ha
      · exact w.hd
      · obtain ⟨d, hd, rfl⟩ := List.mem_map.mp ha
        exact w.hds d hd
    obtain ⟨q, hq⟩ := this
    exact List.mem_map.mpr ⟨_, hq, rfl⟩
  have := nodup_len h1 h2
  rw [List.length_cons, List.length_map, List.length_map] at this
  exact this
theorem Way.add {Z : List Row} {ds : List Dem} {name one : List Nat} {k : Nat} (w : Way Z ds name) (h : name ∉ ds.map (·.2.1)) (hk : DemOk Z (one, name, k)) : Way Z (ds ++ [(one, name, k)]) one := by
  refine ⟨fun d hd => ?_, ?_, ?_, fun d hd => ?_, fun i d e h1 h2 => ?_, fun d hd => ?_⟩
  · rcases List.mem_append.mp hd with hd | hd
    · exact w.ok d hd
    · rw [List.mem_singleton.mp hd]; exact hk
  · rw [List.map_append, List.nodup_append]
    refine ⟨w.nd, by simp, fun a ha b hb => ?_⟩
    have : b = name := by simpa using hb
    rw [this]
    exact fun e => h (e ▸ ha)
  · obtain ⟨q, hq, _⟩ := hk
    exact ⟨q, List.mem_of_getElem? hq⟩
  · rcases List.mem_append.mp hd with hd | hd
    · exact w.hds d hd
    · rw [List.mem_singleton.mp hd]; exact w.hd
  · by_cases hi : i + 1 < ds.length
    · rw [List.getElem?_append_left (by omega)] at h1
      rw [List.getElem?_append_left hi] at h2
      exact w.ch i d e h1 h2
    · have hlen := (List.getElem?_eq_some_iff.mp h2).1
      rw [List.length_append, List.length_cons, List.length_nil] at hlen
      have hi : i + 1 = ds.length := by omega
      rw [List.getElem?_append_right (by omega), show i + 1 - ds.length = 0 by omega] at h2
      cases h2
      rw [List.getElem?_append_left (by omega)] at h1
      refine w.last d ?_
      rw [List.getLast?_eq_getElem?, ← hi]
      exact h1
  · rw [List.getLast?_append] at hd
    cases hd
    rfl
/-- a ring by its words -/
def RingOk (Z : List Row) (ring : List Dem) : Prop := (ring ≠ [] ∧ ring.length ≤ 17) ∧ (∀ d ∈ ring, DemOk Z d) ∧ ∀ i d, ring[i]? = some d → ∃ e, ring[(i + 1) % ring.length]? = some e ∧ e.1 = d.2.1
theorem Way.ring {Z : List Row} {ds : List Dem} {name : List Nat} {j : Nat} {d0 : Dem} (w : Way Z ds name) (hj : ds[j]? = some d0) (hn : d0.2.1 = name) (hw : ds.length ≤ 17) : RingOk Z (ds.drop j).reverse := by
  have hjl := (List.getElem?_eq_some_iff.mp hj).1
  have hlen : (ds.drop j).reverse.length = ds.length - j := by rw [List.length_reverse, List.length_drop]
  refine ⟨⟨fun e => ?_, by omega⟩, fun d hd => w.ok d (List.mem_of_mem_drop (List.mem_reverse.mp hd)), fun i d hi => ?_⟩
  · rw [e] at hlen
    simp at hlen
    omega
  · have hil := (List.getElem?_eq_some_iff.mp hi).1
    rw [hlen] at hil ⊢
    rw [List.getElem?_reverse (by rw [List.length_drop]; omega), List.getElem?_drop, List.length_drop] at hi
    by_cases h : i + 1 < ds.length - j
    · rw [Nat.mod_eq_of_lt h, List.getElem?_reverse (by rw [List.length_drop]; omega), List.getElem?_drop, List.length_drop]
      refine ⟨ds[j + (ds.length - j - 1 - (i + 1))]'(by omega), List.getElem?_eq_getElem _, ?_⟩
      have h1 := w.ch (j + (ds.length - j - 1 - (i + 1))) _ d (List.getElem?_eq_getElem (by omega)) (by rw [← hi]; congr 1; omega)
      exact h1.symm
    · have e : i + 1 = ds.length - j := by omega
      rw [e, Nat.mod_self, List.getElem?_reverse (by rw [List.length_drop]; omega), List.getElem?_drop, List.length_drop]
      refine ⟨ds[j + (ds.length - j - 1 - 0)]'(by omega), List.getElem?_eq_getElem _, ?_⟩
      have h1 := w.last (ds[j + (ds.length - j - 1 - 0)]'(by omega)) (by rw [List.getLast?_eq_getElem?, List.getElem?_eq_getElem (by omega)]; congr 2; omega)
      have h2 : d = d0 := by
        rw [show j + (ds.length - j - 1 - i) = j by omega, hj] at hi
        exact (Option.some.inj hi).symm
      rw [h2, hn, h1]
def enP (name : List Nat) : T → Bool
  | .tup [_, r] => ((rowOf r).drop 1).contains name
  | _ => false
def enF : T → T
  | .tup [i, _] => i
  | _ => .non
theorem en_first {Z : List Row} {name : List Nat} (h : inTl Z name = true) : ∃ k r l, ((enumT (Z.map sR)).filter (enP name)).map enF = .int (k : Nat) :: l ∧ Z[k]? = some r ∧ name ∈ r.drop 1 := by
  obtain ⟨r, hr, hc⟩ := List.any_eq_true.mp h
  obtain ⟨k, hk⟩ := List.getElem?_of_mem hr
  have hm : T.tup [.int (k : Nat), sR r] ∈ (enumT (Z.map sR)).filter (enP name) := by
    refine List.mem_filter.mpr ⟨List.mem_of_getElem? (i := k) ?_, ?_⟩
    · unfold enumT
      rw [List.getElem?_mapIdx, List.getElem?_map, hk]
      rfl
    · show ((rowOf (sR r)).drop 1).contains name = true
      rw [rowOf_sR]
      exact hc
  cases e : (enumT (Z.map sR)).filter (enP name) with
  | nil => rw [e] at hm; cases hm
  | cons t l =>
    have ht : t ∈ (enumT (Z.map sR)).filter (enP name) := by rw [e]; exact List.mem_cons_self
    obtain ⟨h1, h2⟩ := List.mem_filter.mp ht
    obtain ⟨k, hk⟩ := List.getElem?_of_mem h1
    obtain ⟨u, hu, rfl⟩ := enum_get hk
    rw [List.getElem?_map] at hu
    obtain ⟨r, hr, rfl⟩ := Option.map_eq_some_iff.mp hu
    have h2 : ((rowOf (sR r)).drop 1).contains name = true := h2
    rw [rowOf_sR] at h2
    exact ⟨k, r, l.map enF, rfl, hr, by simpa using h2⟩
theorem ring_ok {S : List Ob} {Z : List Row} (hg : GdRs Z) (hv : live Z = true) (hno : hdOf Z = none) : Fw m_ring_of [.fz (Z.map sR)] S (fun t S' => ∃ ring : List Dem, t = .fz (ring.map dT) ∧ S' = S ∧ RingOk Z ring) := by
  have h16 := hg.1
  have hin : ∀ a q, (a :: q) ∈ Z → inTl Z a = true := hd_none hno
  unfold m_ring_of
  rw [Fw_fnM]
  unfold b_ring_of
  refine W_seq (fun st1 => ∃ name, (∃ q, (name :: q) ∈ Z) ∧ st1 = ⟨[.val (.fz (Z.map sR)), .val (.str name), .emp, .emp, .emp, .emp], S⟩) ?_ ?_
  · simp only [W_pure, W_ofO, W_eVar, W_oVar, W_eFrz, W_oE, W_eOp2, W_eChain, W_asB, W_bNot, W_bAnd, W_bOr, W_eNot, W_eAnd, W_eOr, W_eIf, W_eNeg, W_aNil, W_aCons, W_oNil, W_oCons, W_eTup, W_fLst, W_eFz, W_eBox, W_fDic, W_eCall, W_fCall, W_pNo, W_pSome, W_eSliceU, W_fSlice, W_fRev, W_eLst, W_eLst0, W_mVar, W_mRef, W_eMeth, W_eFn, W_cSeq, W_cRet, W_cExpr, W_cIf, W_cSet, W_cOwn, W_cUnp, W_cSetIx, W_cPut, W_iU, W_iVar, W_iRange, W_iEnumU, W_iZipU, W_cFor, W_bYes, Op_some, Op_none, Op_ite, Op_map, Op_bind, Op_rdAll, rdAll_nil, Bw_bl, rVar, peekS, peekT, pVar, pRef, Lw_lst, setS, lstAt_fz, lenO_fz, lenO_str, list_fz, wipe_1, wipe_2, rest_1, rest_2, List.all_cons, List.all_nil, notOwn, W_fComp, asg_2, asg_n, turn_n, turn_c, turn_b, turn_r, List.getElem?_cons_zero, List.getElem?_cons_succ, List.getElem?_nil, List.set_cons_zero, List.set_cons_succ, List.map_cons, List.map_nil, List.cons_append, List.nil_append, List.length_cons, List.length_nil, Option.getD_some, Bool.and_true, Bool.and_self, Option.bind_some, Option.map_some, List.replicate_succ, List.replicate_zero, decide_eq_true_eq, Bool.not_true, Bool.not_false, Bool.not_eq_true', if_true, if_false, reduceIte, reduceCtorEq, Nat.reduceAdd, Nat.reduceSub, Nat.reduceLeDiff, true_and, and_true, lst_sR]
    refine ⟨by rw [List.length_map]; omega, ?_⟩
    refine Op_lcR full (fun r => .str (r.headD [])) trivial ?_ ?_
    · intro r hr
      simp only [W_pure, W_ofO, W_eVar, W_oVar, W_eFrz, W_oE, W_eOp2, W_eChain, W_asB, W_bNot, W_bAnd, W_bOr, W_eNot, W_eAnd, W_eOr, W_eIf, W_eNeg, W_aNil, W_aCons, W_oNil, W_oCons, W_eTup, W_fLst, W_eFz, W_eBox, W_fDic, W_eCall, W_fCall, W_pNo, W_pSome, W_eSliceU, W_fSlice, W_fRev, W_eLst, W_eLst0, W_mVar, W_mRef, W_eMeth, W_eFn, W_cSeq, W_cRet, W_cExpr, W_cIf, W_cSet, W_cOwn, W_cUnp, W_cSetIx, W_cPut, W_iU, W_iVar, W_iRange, W_iEnumU, W_iZipU, W_cFor, W_bYes, Op_some, Op_none, Op_ite, Op_map, Op_bind, Op_rdAll, rdAll_nil, Bw_bl, rVar, peekS, peekT, pVar, pRef, Lw_lst, setS, lstAt_fz, lenO_fz, lenO_str, list_fz, wipe_1, wipe_2, rest_1, rest_2, List.all_cons, List.all_nil, notOwn, W_fComp, asg_2, asg_n, turn_n, turn_c, turn_b, turn_r, List.getElem?_cons_zero, List.getElem?_cons_succ, List.getElem?_nil, List.set_cons_zero, List.set_cons_succ, List.map_cons, List.map_nil, List.cons_append, List.nil_append, List.length_cons, List.length_nil, Option.getD_some, Bool.and_true, Bool.and_self, Option.bind_some, Option.map_some, List.replicate_succ, List.replicate_zero, decide_eq_true_eq, Bool.not_true, Bool.not_false, Bool.not_eq_true', if_true, if_false, reduceIte, reduceCtorEq, Nat.reduceAdd, Nat.reduceSub, Nat.reduceLeDiff, true_and, and_true, sR]
      rw [ne_nil (dat_cd (hg.cd r hr))]
      simp only [W_pure, W_ofO, W_eVar, W_oVar, W_eFrz, W_oE, W_eOp2, W_eChain, W_asB, W_bNot, W_bAnd, W_bOr, W_eNot, W_eAnd, W_eOr, W_eIf, W_eNeg, W_aNil, W_aCons, W_oNil, W_oCons, W_eTup, W_fLst, W_eFz, W_eBox, W_fDic, W_eCall, W_fCall, W_pNo, W_pSome, W_eSliceU, W_fSlice, W_fRev, W_eLst, W_eLst0, W_mVar, W_mRef, W_eMeth, W_eFn, W_cSeq, W_cRet, W_cExpr, W_cIf, W_cSet, W_cOwn, W_cUnp, W_cSetIx, W_cPut, W_iU, W_iVar, W_iRange, W_iEnumU, W_iZipU, W_cFor, W_bYes, Op_some, Op_none, Op_ite, Op_map, Op_bind, Op_rdAll, rdAll_nil, Bw_bl, rVar, peekS, peekT, pVar, pRef, Lw_lst, setS, lstAt_fz, lenO_fz, lenO_str, list_fz, wipe_1, wipe_2, rest_1, rest_2, List.all_cons, List.all_nil, notOwn, W_fComp, asg_2, asg_n, turn_n, turn_c, turn_b, turn_r, List.getElem?_cons_zero, List.getElem?_cons_succ, List.getElem?_nil, List.set_cons_zero, List.set_cons_succ, List.map_cons, List.map_nil, List.cons_append, List.nil_append, List.length_cons, List.length_nil, Option.getD_some, Bool.and_true, Bool.and_self, Option.bind_some, Option.map_some, List.replicate_succ, List.replicate_zero, decide_eq_true_eq, Bool.not_true, Bool.not_false, Bool.not_eq_true', if_true, if_false, reduceIte, reduceCtorEq, Nat.reduceAdd, Nat.reduceSub, Nat.reduceLeDiff, true_and, and_true, List.isEmpty_map]
      cases r with
      | nil => simp [full]
      | cons a q =>
        simp only [List.getElem?_cons_zero, List.getElem?_cons_succ, List.getElem?_nil, List.set_cons_zero, List.set_cons_succ, List.map_cons, List.map_nil, List.cons_append, List.nil_append, List.length_cons, List.length_nil, Option.getD_some, Bool.and_true, Bool.and_self, Option.bind_some, Option.map_some, List.replicate_succ, List.replicate_zero, decide_eq_true_eq, Bool.not_true, Bool.not_false, Bool.not_eq_true', if_true, if_false, reduceIte, reduceCtorEq, Nat.reduceAdd, Nat.reduceSub, Nat.reduceLeDiff, true_and, and_true, ix_h, Op_some, full, List.isEmpty_cons, List.headD_cons]
        simp
    · obtain ⟨r, hr, hf⟩ := List.any_eq_true.mp hv
      cases e : Z.filter full with
      | nil =>
        have := List.mem_filter.mpr ⟨hr, hf⟩
        rw [e] at this
        cases this
      | cons r0 l =>
        have h0 : r0 ∈ Z.filter full := by rw [e]; exact List.mem_cons_self
        obtain ⟨h1, h2⟩ := List.mem_filter.mp h0
        cases r0 with
        | nil => cases h2
        | cons a q =>
          simp only [W_pure, W_ofO, W_eVar, W_oVar, W_eFrz, W_oE, W_eOp2, W_eChain, W_asB, W_bNot, W_bAnd, W_bOr, W_eNot, W_eAnd, W_eOr, W_eIf, W_eNeg, W_aNil, W_aCons, W_oNil, W_oCons, W_eTup, W_fLst, W_eFz, W_eBox, W_fDic, W_eCall, W_fCall, W_pNo, W_pSome, W_eSliceU, W_fSlice, W_fRev, W_eLst, W_eLst0, W_mVar, W_mRef, W_eMeth, W_eFn, W_cSeq, W_cRet, W_cExpr, W_cIf, W_cSet, W_cOwn, W_cUnp, W_cSetIx, W_cPut, W_iU, W_iVar, W_iRange, W_iEnumU, W_iZipU, W_cFor, W_bYes, Op_some, Op_none, Op_ite, Op_map, Op_bind, Op_rdAll, rdAll_nil, Bw_bl, rVar, peekS, peekT, pVar, pRef, Lw_lst, setS, lstAt_fz, lenO_fz, lenO_str, list_fz, wipe_1, wipe_2, rest_1, rest_2, List.all_cons, List.all_nil, notOwn, W_fComp, asg_2, asg_n, turn_n, turn_c, turn_b, turn_r, List.getElem?_cons_zero, List.getElem?_cons_succ, List.getElem?_nil, List.set_cons_zero, List.set_cons_succ, List.map_cons, List.map_nil, List.cons_append, List.nil_append, List.length_cons, List.length_nil, Option.getD_some, Bool.and_true, Bool.and_self, Option.bind_some, Option.map_some, List.replicate_succ, List.replicate_zero, decide_eq_true_eq, Bool.not_true, Bool.not_false, Bool.not_eq_true', if_true, if_false, reduceIte, reduceCtorEq, Nat.reduceAdd, Nat.reduceSub, Nat.reduceLeDiff, true_and, and_true, List.headD_cons, ix_h]
          exact ⟨a, ⟨q, h1⟩, rfl⟩
  rintro _ ⟨name, hnm, rfl⟩
  refine W_seq (fun st1 => st1 = ⟨[.val (.fz (Z.map sR)), .val (.str name), .emp, .own (.dct [] []), .emp, .emp], S⟩) ?_ ?_
  · simp only [W_pure, W_ofO, W_eVar, W_oVar, W_eFrz, W_oE, W_eOp2, W_eChain, W_asB, W_bNot, W_bAnd, W_bOr, W_eNot, W_eAnd, W_eOr, W_eIf, W_eNeg, W_aNil, W_aCons, W_oNil, W_oCons, W_eTup, W_fLst, W_eFz, W_eBox, W_fDic, W_eCall, W_fCall, W_pNo, W_pSome, W_eSliceU, W_fSlice, W_fRev, W_eLst, W_eLst0, W_mVar, W_mRef, W_eMeth, W_eFn, W_cSeq, W_cRet, W_cExpr, W_cIf, W_cSet, W_cOwn, W_cUnp, W_cSetIx, W_cPut, W_iU, W_iVar, W_iRange, W_iEnumU, W_iZipU, W_cFor, W_bYes, Op_some, Op_none, Op_ite, Op_map, Op_bind, Op_rdAll, rdAll_nil, Bw_bl, rVar, peekS, peekT, pVar, pRef, Lw_lst, setS, lstAt_fz, lenO_fz, lenO_str, list_fz, wipe_1, wipe_2, rest_1, rest_2, List.all_cons, List.all_nil, notOwn, W_fComp, asg_2, asg_n, turn_n, turn_c, turn_b, turn_r, List.getElem?_cons_zero, List.getElem?_cons_succ, List.getElem?_nil, List.set_cons_zero, List.set_cons_succ, List.map_cons, List.map_nil, List.cons_append, List.nil_append, List.length_cons, List.length_nil, Option.getD_some, Bool.and_true, Bool.and_self, Option.bind_some, Option.map_some, List.replicate_succ, List.replicate_zero, decide_eq_true_eq, Bool.not_true, Bool.not_false, Bool.not_eq_true', if_true, if_false, reduceIte, reduceCtorEq, Nat.reduceAdd, Nat.reduceSub, Nat.reduceLeDiff, true_and, and_true]
  rintro _ rfl
  refine W_seq (fun st1 => st1 = ⟨[.val (.fz (Z.map sR)), .val (.str name), .emp, .own (.dct [] []), .own (.lst []), .emp], S⟩) ?_ ?_
  · simp only [W_pure, W_ofO, W_eVar, W_oVar, W_eFrz, W_oE, W_eOp2, W_eChain, W_asB, W_bNot, W_bAnd, W_bOr, W_eNot, W_eAnd, W_eOr, W_eIf, W_eNeg, W_aNil, W_aCons, W_oNil, W_oCons, W_eTup, W_fLst, W_eFz, W_eBox, W_fDic, W_eCall, W_fCall, W_pNo, W_pSome, W_eSliceU, W_fSlice, W_fRev, W_eLst, W_eLst0, W_mVar, W_mRef, W_eMeth, W_eFn, W_cSeq, W_cRet, W_cExpr, W_cIf, W_cSet, W_cOwn, W_cUnp, W_cSetIx, W_cPut, W_iU, W_iVar, W_iRange, W_iEnumU, W_iZipU, W_cFor, W_bYes, Op_some, Op_none, Op_ite, Op_map, Op_bind, Op_rdAll, rdAll_nil, Bw_bl, rVar, peekS, peekT, pVar, pRef, Lw_lst, setS, lstAt_fz, lenO_fz, lenO_str, list_fz, wipe_1, wipe_2, rest_1, rest_2, List.all_cons, List.all_nil, notOwn, W_fComp, asg_2, asg_n, turn_n, turn_c, turn_b, turn_r, List.getElem?_cons_zero, List.getElem?_cons_succ, List.getElem?_nil, List.set_cons_zero, List.set_cons_succ, List.map_cons, List.map_nil, List.cons_append, List.nil_append, List.length_cons, List.length_nil, Option.getD_some, Bool.and_true, Bool.and_self, Option.bind_some, Option.map_some, List.replicate_succ, List.replicate_zero, decide_eq_true_eq, Bool.not_true, Bool.not_false, Bool.not_eq_true', if_true, if_false, reduceIte, reduceCtorEq, Nat.reduceAdd, Nat.reduceSub, Nat.reduceLeDiff, true_and, and_true]
  rintro _ rfl
  refine W_seq (fun st1 => ∃ name ds s5, Way Z ds name ∧ name ∈ ds.map (·.2.1) ∧ ds.length ≤ 17 ∧ st1 = ⟨[.val (.fz (Z.map sR)), .val (.str name), .emp, .own (.dct ((ds.map (·.2.1)).map .str) (nums 0 ds.length)), .own (.lst (ds.map dT)), s5], S⟩) ?_ ?_
  · refine W_whileL (fun n st1 => ∃ name ds s5, Way Z ds name ∧ ds.length + n = 17 ∧ (∀ ob, s5 ≠ .own ob) ∧ st1 = ⟨[.val (.fz (Z.map sR)), .val (.str name), .emp, .own (.dct ((ds.map (·.2.1)).map .str) (nums 0 ds.length)), .own (.lst (ds.map dT)), s5], S⟩) ?_ FUEL 17 _ (by unfold FUEL; decide) ⟨name, [], _, ⟨by simp, by simp, hnm, by simp, by simp, by simp⟩, rfl, by simp, rfl⟩
    rintro n _ ⟨name, ds, s5, w, hn, h5, rfl⟩
    have hlk : lookD ((ds.map (·.2.1)).map .str) (nums 0 ds.length) (.str name) = ((ds.map (·.2.1)).findIdx? (· == name)).map fun j : Nat => .int ((0 + j : Nat) : Int) := by
      have := @lookD_os name (ds.map (·.2.1)) 0
      rw [List.length_map] at this
      exact this
    have hnin : ninU (.str name) (.dic ((ds.map (·.2.1)).map .str) (nums 0 ds.length)) = some (.bl (!(ds.map (·.2.1)).contains name)) := by
      show (if isKey (.str name) then some (T.bl (!(lookD _ _ _).isSome)) else none) = _
      rw [hlk, Option.isSome_map, List.findIdx?_isSome]
      show some (T.bl (!_)) = _
      congr 3
      rw [Bool.eq_iff_iff]
      simp
    simp only [W_asB, W_eOp2, W_oVar, List.getElem?_cons_zero, List.getElem?_cons_succ, List.getElem?_nil, List.set_cons_zero, List.set_cons_succ, List.map_cons, List.map_nil, List.cons_append, List.nil_append, List.length_cons, List.length_nil, Option.getD_some, Bool.and_true, Bool.and_self, Option.bind_some, Option.map_some, List.replicate_succ, List.replicate_zero, decide_eq_true_eq, Bool.not_true, Bool.not_false, Bool.not_eq_true', if_true, if_false, reduceIte, reduceCtorEq, Nat.reduceAdd, Nat.reduceSub, Nat.reduceLeDiff, true_and, and_true, rVar, peekS, peekT, Op_some, hnin, Bw_bl]
    split
    · rename_i hc
      have hc : name ∉ ds.map (·.2.1) := by
        intro hm
        have : (ds.map (·.2.1)).contains name = true := by simpa using hm
        rw [this] at hc
        cases hc
      have hl := w.len hc
      obtain ⟨m, rfl⟩ : ∃ m, n = m + 1 := ⟨n - 1, by omega⟩
      refine W_seq (fun st1 => st1 = ⟨[.val (.fz (Z.map sR)), .val (.str name), .emp, .own (.dct ((ds.map (·.2.1)).map .str ++ [.str name]) (nums 0 ds.length ++ [.int ds.length])), .own (.lst (ds.map dT)), s5], S⟩) ?_ ?_
      · simp only [W_pure, W_ofO, W_eVar, W_oVar, W_eFrz, W_oE, W_eOp2, W_eChain, W_asB, W_bNot, W_bAnd, W_bOr, W_eNot, W_eAnd, W_eOr, W_eIf, W_eNeg, W_aNil, W_aCons, W_oNil, W_oCons, W_eTup, W_fLst, W_eFz, W_eBox, W_fDic, W_eCall, W_fCall, W_pNo, W_pSome, W_eSliceU, W_fSlice, W_fRev, W_eLst, W_eLst0, W_mVar, W_mRef, W_eMeth, W_eFn, W_cSeq, W_cRet, W_cExpr, W_cIf, W_cSet, W_cOwn, W_cUnp, W_cSetIx, W_cPut, W_iU, W_iVar, W_iRange, W_iEnumU, W_iZipU, W_cFor, W_bYes, Op_some, Op_none, Op_ite, Op_map, Op_bind, Op_rdAll, rdAll_nil, Bw_bl, rVar, peekS, peekT, pVar, pRef, Lw_lst, setS, lstAt_fz, lenO_fz, lenO_str, list_fz, wipe_1, wipe_2, rest_1, rest_2, List.all_cons, List.all_nil, notOwn, W_fComp, asg_2, asg_n, turn_n, turn_c, turn_b, turn_r, List.getElem?_cons_zero, List.getElem?_cons_succ, List.getElem?_nil, List.set_cons_zero, List.set_cons_succ, List.map_cons, List.map_nil, List.cons_append, List.nil_append, List.length_cons, List.length_nil, Option.getD_some, Bool.and_true, Bool.and_self, Option.bind_some, Option.map_some, List.replicate_succ, List.replicate_zero, decide_eq_true_eq, Bool.not_true, Bool.not_false, Bool.not_eq_true', if_true, if_false, reduceIte, reduceCtorEq, Nat.reduceAdd, Nat.reduceSub, Nat.reduceLeDiff, true_and, and_true, List.length_map, putD]
        have : ((ds.map (·.2.1)).map T.str).any (fun k => kEq k (.str name)) = false := by
          rw [any_kEq]
          simpa using hc
        rw [this]
        simp only [List.getElem?_cons_zero, List.getElem?_cons_succ, List.getElem?_nil, List.set_cons_zero, List.set_cons_succ, List.map_cons, List.map_nil, List.cons_append, List.nil_append, List.length_cons, List.length_nil, Option.getD_some, Bool.and_true, Bool.and_self, Option.bind_some, Option.map_some, List.replicate_succ, List.replicate_zero, decide_eq_true_eq, Bool.not_true, Bool.not_false, Bool.not_eq_true', if_true, if_false, reduceIte, reduceCtorEq, Nat.reduceAdd, Nat.reduceSub, Nat.reduceLeDiff, true_and, and_true, isKey, Bool.false_eq_true]
        omega
      rintro _ rfl
      have hinn : inTl Z name = true := by obtain ⟨q, hq⟩ := w.hd; exact hin _ _ hq
      obtain ⟨kk, r, l, he, hr, hmem⟩ := en_first hinn
      have hname : name.all (· < 0x110000) = true := by
        obtain ⟨q, hq⟩ := w.hd
        exact hg.cd _ hq name List.mem_cons_self
      refine W_seq (fun st1 => st1 = ⟨[.val (.fz (Z.map sR)), .val (.str name), .emp, .own (.dct ((ds.map (·.2.1)).map .str ++ [.str name]) (nums 0 ds.length ++ [.int ds.length])), .own (.lst (ds.map dT)), .val (.int kk)], S⟩) ?_ ?_
      · simp only [W_cSet, W_eOp2, W_oE, W_eFz, W_fComp, W_iEnumU, W_aCons, W_aNil, W_eVar, List.getElem?_cons_zero, List.getElem?_cons_succ, List.getElem?_nil, List.set_cons_zero, List.set_cons_succ, List.map_cons, List.map_nil, List.cons_append, List.nil_append, List.length_cons, List.length_nil, Option.getD_some, Bool.and_true, Bool.and_self, Option.bind_some, Option.map_some, List.replicate_succ, List.replicate_zero, decide_eq_true_eq, Bool.not_true, Bool.not_false, Bool.not_eq_true', if_true, if_false, reduceIte, reduceCtorEq, Nat.reduceAdd, Nat.reduceSub, Nat.reduceLeDiff, true_and, and_true, lst_sR, wipe_2, rest_2, notOwn, List.all_cons, List.all_nil, Op_some]
        refine ⟨⟨by unfold enumT; rw [List.length_mapIdx, List.length_map]; omega, by cases s5 <;> first | rfl | exact absurd rfl (h5 _)⟩, ?_⟩
        refine Op_lcP (enP name) enF trivial ?_ ?_
        · intro t ht
          obtain ⟨i, hi⟩ := List.getElem?_of_mem ht
          obtain ⟨u, hu, rfl⟩ := enum_get hi
          rw [List.getElem?_map] at hu
          obtain ⟨r, hr, rfl⟩ := Option.map_eq_some_iff.mp hu
          have hr := List.mem_of_getElem? hr
          have e1 : enP name (.tup [.int (i : Nat), sR r]) = (r.drop 1).contains name := by
            show ((rowOf (sR r)).drop 1).contains name = _
            rw [rowOf_sR]
          rw [e1]
          simp only [W_pure, W_ofO, W_eVar, W_oVar, W_eFrz, W_oE, W_eOp2, W_eChain, W_asB, W_bNot, W_bAnd, W_bOr, W_eNot, W_eAnd, W_eOr, W_eIf, W_eNeg, W_aNil, W_aCons, W_oNil, W_oCons, W_eTup, W_fLst, W_eFz, W_eBox, W_fDic, W_eCall, W_fCall, W_pNo, W_pSome, W_eSliceU, W_fSlice, W_fRev, W_eLst, W_eLst0, W_mVar, W_mRef, W_eMeth, W_eFn, W_cSeq, W_cRet, W_cExpr, W_cIf, W_cSet, W_cOwn, W_cUnp, W_cSetIx, W_cPut, W_iU, W_iVar, W_iRange, W_iEnumU, W_iZipU, W_cFor, W_bYes, Op_some, Op_none, Op_ite, Op_map, Op_bind, Op_rdAll, rdAll_nil, Bw_bl, rVar, peekS, peekT, pVar, pRef, Lw_lst, setS, lstAt_fz, lenO_fz, lenO_str, list_fz, wipe_1, wipe_2, rest_1, rest_2, List.all_cons, List.all_nil, notOwn, W_fComp, asg_2, asg_n, turn_n, turn_c, turn_b, turn_r, List.getElem?_cons_zero, List.getElem?_cons_succ, List.getElem?_nil, List.set_cons_zero, List.set_cons_succ, List.map_cons, List.map_nil, List.cons_append, List.nil_append, List.length_cons, List.length_nil, Option.getD_some, Bool.and_true, Bool.and_self, Option.bind_some, Option.map_some, List.replicate_succ, List.replicate_zero, decide_eq_true_eq, Bool.not_true, Bool.not_false, Bool.not_eq_true', if_true, if_false, reduceIte, reduceCtorEq, Nat.reduceAdd, Nat.reduceSub, Nat.reduceLeDiff, true_and, and_true, sR, cut_1, in_row ((hg.2 r hr).1.sub (List.drop_sublist _ _)) hname]
          exact fun _ => rfl
        · rw [he]
          simp only [W_pure, W_ofO, W_eVar, W_oVar, W_eFrz, W_oE, W_eOp2, W_eChain, W_asB, W_bNot, W_bAnd, W_bOr, W_eNot, W_eAnd, W_eOr, W_eIf, W_eNeg, W_aNil, W_aCons, W_oNil, W_oCons, W_eTup, W_fLst, W_eFz, W_eBox, W_fDic, W_eCall, W_fCall, W_pNo, W_pSome, W_eSliceU, W_fSlice, W_fRev, W_eLst, W_eLst0, W_mVar, W_mRef, W_eMeth, W_eFn, W_cSeq, W_cRet, W_cExpr, W_cIf, W_cSet, W_cOwn, W_cUnp, W_cSetIx, W_cPut, W_iU, W_iVar, W_iRange, W_iEnumU, W_iZipU, W_cFor, W_bYes, Op_some, Op_none, Op_ite, Op_map, Op_bind, Op_rdAll, rdAll_nil, Bw_bl, rVar, peekS, peekT, pVar, pRef, Lw_lst, setS, lstAt_fz, lenO_fz, lenO_str, list_fz, wipe_1, wipe_2, rest_1, rest_2, List.all_cons, List.all_nil, notOwn, W_fComp, asg_2, asg_n, turn_n, turn_c, turn_b, turn_r, List.getElem?_cons_zero, List.getElem?_cons_succ, List.getElem?_nil, List.set_cons_zero, List.set_cons_succ, List.map_cons, List.map_nil, List.cons_append, List.nil_append, List.length_cons, List.length_nil, Option.getD_some, Bool.and_true, Bool.and_self, Option.bind_some, Option.map_some, List.replicate_succ, List.replicate_zero, decide_eq_true_eq, Bool.not_true, Bool.not_false, Bool.not_eq_true', if_true, if_false, reduceIte, reduceCtorEq, Nat.reduceAdd, Nat.reduceSub, Nat.reduceLeDiff, true_and, and_true, ix_n, ix_0, ix_1, ix_2, ix_t0, ix_t1, ix_t2, set_1, set_2, add_i, sub_i, mod_i, div_i, lt_i, le_i, gt_i, ge_i, eq_i, ne_i, p1018, p1017]
      rintro _ rfl
      obtain ⟨one, q, rfl, hq⟩ : ∃ one q, r = one :: q ∧ name ∈ q := by
        cases r with
        | nil => cases hmem
        | cons a q => exact ⟨a, q, rfl, hmem⟩
      have hkr : (Z.map sR)[kk]? = some (.fz (.str one :: q.map .str)) := by rw [List.getElem?_map, hr]; rfl
      refine W_seq (fun st1 => st1 = ⟨[.val (.fz (Z.map sR)), .val (.str name), .emp, .own (.dct ((ds.map (·.2.1)).map .str ++ [.str name]) (nums 0 ds.length ++ [.int ds.length])), .own (.lst ((ds ++ [(one, name, kk)]).map dT)), .val (.int kk)], S⟩) ?_ ?_
      · simp only [W_pure, W_ofO, W_eVar, W_oVar, W_eFrz, W_oE, W_eOp2, W_eChain, W_asB, W_bNot, W_bAnd, W_bOr, W_eNot, W_eAnd, W_eOr, W_eIf, W_eNeg, W_aNil, W_aCons, W_oNil, W_oCons, W_eTup, W_fLst, W_eFz, W_eBox, W_fDic, W_eCall, W_fCall, W_pNo, W_pSome, W_eSliceU, W_fSlice, W_fRev, W_eLst, W_eLst0, W_mVar, W_mRef, W_eMeth, W_eFn, W_cSeq, W_cRet, W_cExpr, W_cIf, W_cSet, W_cOwn, W_cUnp, W_cSetIx, W_cPut, W_iU, W_iVar, W_iRange, W_iEnumU, W_iZipU, W_cFor, W_bYes, Op_some, Op_none, Op_ite, Op_map, Op_bind, Op_rdAll, rdAll_nil, Bw_bl, rVar, peekS, peekT, pVar, pRef, Lw_lst, setS, lstAt_fz, lenO_fz, lenO_str, list_fz, wipe_1, wipe_2, rest_1, rest_2, List.all_cons, List.all_nil, notOwn, W_fComp, asg_2, asg_n, turn_n, turn_c, turn_b, turn_r, List.getElem?_cons_zero, List.getElem?_cons_succ, List.getElem?_nil, List.set_cons_zero, List.set_cons_succ, List.map_cons, List.map_nil, List.cons_append, List.nil_append, List.length_cons, List.length_nil, Option.getD_some, Bool.and_true, Bool.and_self, Option.bind_some, Option.map_some, List.replicate_succ, List.replicate_zero, decide_eq_true_eq, Bool.not_true, Bool.not_false, Bool.not_eq_true', if_true, if_false, reduceIte, reduceCtorEq, Nat.reduceAdd, Nat.reduceSub, Nat.reduceLeDiff, true_and, and_true, ix_n, hkr, ix_h]
        rw [append_i (by rw [List.length_map]; omega)]
        simp only [W_pure, W_ofO, W_eVar, W_oVar, W_eFrz, W_oE, W_eOp2, W_eChain, W_asB, W_bNot, W_bAnd, W_bOr, W_eNot, W_eAnd, W_eOr, W_eIf, W_eNeg, W_aNil, W_aCons, W_oNil, W_oCons, W_eTup, W_fLst, W_eFz, W_eBox, W_fDic, W_eCall, W_fCall, W_pNo, W_pSome, W_eSliceU, W_fSlice, W_fRev, W_eLst, W_eLst0, W_mVar, W_mRef, W_eMeth, W_eFn, W_cSeq, W_cRet, W_cExpr, W_cIf, W_cSet, W_cOwn, W_cUnp, W_cSetIx, W_cPut, W_iU, W_iVar, W_iRange, W_iEnumU, W_iZipU, W_cFor, W_bYes, Op_some, Op_none, Op_ite, Op_map, Op_bind, Op_rdAll, rdAll_nil, Bw_bl, rVar, peekS, peekT, pVar, pRef, Lw_lst, setS, lstAt_fz, lenO_fz, lenO_str, list_fz, wipe_1, wipe_2, rest_1, rest_2, List.all_cons, List.all_nil, notOwn, W_fComp, asg_2, asg_n, turn_n, turn_c, turn_b, turn_r, List.getElem?_cons_zero, List.getElem?_cons_succ, List.getElem?_nil, List.set_cons_zero, List.set_cons_succ, List.map_cons, List.map_nil, List.cons_append, List.nil_append, List.length_cons, List.length_nil, Option.getD_some, Bool.and_true, Bool.and_self, Option.bind_some, Option.map_some, List.replicate_succ, List.replicate_zero, decide_eq_true_eq, Bool.not_true, Bool.not_false, Bool.not_eq_true', if_true, if_false, reduceIte, reduceCtorEq, Nat.reduceAdd, Nat.reduceSub, Nat.reduceLeDiff, true_and, and_true, List.map_append]
        rfl
      rintro _ rfl
      simp only [W_pure, W_ofO, W_eVar, W_oVar, W_eFrz, W_oE, W_eOp2, W_eChain, W_asB, W_bNot, W_bAnd, W_bOr, W_eNot, W_eAnd, W_eOr, W_eIf, W_eNeg, W_aNil, W_aCons, W_oNil, W_oCons, W_eTup, W_fLst, W_eFz, W_eBox, W_fDic, W_eCall, W_fCall, W_pNo, W_pSome, W_eSliceU, W_fSlice, W_fRev, W_eLst, W_eLst0, W_mVar, W_mRef, W_eMeth, W_eFn, W_cSeq, W_cRet, W_cExpr, W_cIf, W_cSet, W_cOwn, W_cUnp, W_cSetIx, W_cPut, W_iU, W_iVar, W_iRange, W_iEnumU, W_iZipU, W_cFor, W_bYes, Op_some, Op_none, Op_ite, Op_map, Op_bind, Op_rdAll, rdAll_nil, Bw_bl, rVar, peekS, peekT, pVar, pRef, Lw_lst, setS, lstAt_fz, lenO_fz, lenO_str, list_fz, wipe_1, wipe_2, rest_1, rest_2, List.all_cons, List.all_nil, notOwn, W_fComp, asg_2, asg_n, turn_n, turn_c, turn_b, turn_r, List.getElem?_cons_zero, List.getElem?_cons_succ, List.getElem?_nil, List.set_cons_zero, List.set_cons_succ, List.map_cons, List.map_nil, List.cons_append, List.nil_append, List.length_cons, List.length_nil, Option.getD_some, Bool.and_true, Bool.and_self, Option.bind_some, Option.map_some, List.replicate_succ, List.replicate_zero, decide_eq_true_eq, Bool.not_true, Bool.not_false, Bool.not_eq_true', if_true, if_false, reduceIte, reduceCtorEq, Nat.reduceAdd, Nat.reduceSub, Nat.reduceLeDiff, true_and, and_true, ix_n, hkr, ix_h]
      refine ⟨m, by omega, one, ds ++ [(one, name, kk)], .val (.int kk), w.add hc ⟨q, hr, hq⟩, by simp; omega, fun ob => (fun z => by cases z), ?_⟩
      have en : nums 0 (ds ++ [(one, name, kk)]).length = nums 0 ds.length ++ [.int ds.length] := by
        unfold nums
        rw [List.length_append, List.length_cons, List.length_nil, Nat.zero_add, List.range'_1_concat, List.map_append, Nat.zero_add]
        rfl
      rw [en, List.map_append, List.map_append, List.map_append]
      rfl
    · rename_i hc
      have hc : name ∈ ds.map (·.2.1) := by simpa using hc
      exact ⟨name, ds, s5, w, hc, by omega, rfl⟩
  rintro _ ⟨name, ds, s5, w, hm, hw, rfl⟩
  have hlk : lookD ((ds.map (·.2.1)).map .str) (nums 0 ds.length) (.str name) = ((ds.map (·.2.1)).findIdx? (· == name)).map fun j : Nat => .int ((0 + j : Nat) : Int) := by
    have := @lookD_os name (ds.map (·.2.1)) 0
    rw [List.length_map] at this
    exact this
  obtain ⟨j, hj⟩ : ∃ j, (ds.map (·.2.1)).findIdx? (· == name) = some j := by
    rw [← Option.isSome_iff_exists, List.findIdx?_isSome]
    rw [List.any_eq_true]
    exact ⟨name, hm, by simp⟩
  obtain ⟨hjl, hjn, _⟩ := List.findIdx?_eq_some_iff_getElem.mp hj
  have hjl' : j < ds.length := by simpa using hjl
  have hjd : (ds[j]'hjl').2.1 = name := by simpa using hjn
  have hget : ixU (.dic ((ds.map (·.2.1)).map .str) (nums 0 ds.length)) (.str name) = some (.int (j : Nat)) := by
    show (if isKey (.str name) then lookD _ _ _ else none) = _
    rw [hlk, hj, Option.map_some, Nat.zero_add]
    rfl
  have hcut : cutL (ds.map dT) (some ((j : Nat) : Int)) none = (ds.drop j).map dT := by
    rw [cut_from (by omega), List.map_drop]
    rfl
  simp only [W_pure, W_ofO, W_eVar, W_oVar, W_eFrz, W_oE, W_eOp2, W_eChain, W_asB, W_bNot, W_bAnd, W_bOr, W_eNot, W_eAnd, W_eOr, W_eIf, W_eNeg, W_aNil, W_aCons, W_oNil, W_oCons, W_eTup, W_fLst, W_eFz, W_eBox, W_fDic, W_eCall, W_fCall, W_pNo, W_pSome, W_eSliceU, W_fSlice, W_fRev, W_eLst, W_eLst0, W_mVar, W_mRef, W_eMeth, W_eFn, W_cSeq, W_cRet, W_cExpr, W_cIf, W_cSet, W_cOwn, W_cUnp, W_cSetIx, W_cPut, W_iU, W_iVar, W_iRange, W_iEnumU, W_iZipU, W_cFor, W_bYes, Op_some, Op_none, Op_ite, Op_map, Op_bind, Op_rdAll, rdAll_nil, Bw_bl, rVar, peekS, peekT, pVar, pRef, Lw_lst, setS, lstAt_fz, lenO_fz, lenO_str, list_fz, wipe_1, wipe_2, rest_1, rest_2, List.all_cons, List.all_nil, notOwn, W_fComp, asg_2, asg_n, turn_n, turn_c, turn_b, turn_r, List.getElem?_cons_zero, List.getElem?_cons_succ, List.getElem?_nil, List.set_cons_zero, List.set_cons_succ, List.map_cons, List.map_nil, List.cons_append, List.nil_append, List.length_cons, List.length_nil, Option.getD_some, Bool.and_true, Bool.and_self, Option.bind_some, Option.map_some, List.replicate_succ, List.replicate_zero, decide_eq_true_eq, Bool.not_true, Bool.not_false, Bool.not_eq_true', if_true, if_false, reduceIte, reduceCtorEq, Nat.reduceAdd, Nat.reduceSub, Nat.reduceLeDiff, true_and, and_true, hget, hcut]
  exact ⟨(ds.drop j).reverse, by rw [List.map_reverse], w.ring (List.getElem?_eq_getElem hjl') hjd hw⟩
end Lw
namespace Lw
open PySem PySem.Spec PyProof.Rows L2 Sw Classical
def lineS : List Nat := [108, 105, 110, 101]
def ringS : List Nat := [114, 105, 110, 103]
theorem at_last {S : List Ob} {x : Ob} : (S ++ [x])[S.length]? = some x := by simp
theorem set_last {S : List Ob} {x y : Ob} : (S ++ [x]).set S.length y = S ++ [y] := by simp
theorem isN_opt {o : Option (List Nat)} : isNO (optT o) .non = some (.bl o.isNone) := by cases o <;> rfl
theorem int_b {b : Bool} : intO [.bl b] = some (.int (if b then 1 else 0)) := rfl
theorem cut_if {r : Row} {b : Bool} : cutL (r.map T.str) (some (if b then 1 else 0)) none = (if b then r.drop 1 else r).map T.str := by
  cases b with
  | true => exact cut_1
  | false =>
    show cutL (r.map T.str) (some 0) none = r.map T.str
    rw [cut_from (by decide)]
    rfl
def MergeR (R : List Row) (t : T) : Prop :=
  (live (runs KK R).2 = false ∧ t = .tup [.str lineS, .fz ((runs KK R).1.map .str)]) ∨
  (live (runs KK R).2 = true ∧ ∃ ring : List Dem, t = .tup [.str ringS, .fz (ring.map dT)] ∧ RingOk (runs KK R).2 ring)
theorem merge_ok {S : List Ob} {R : List Row} (h : GdRs R) : Fw m_merge [.fz (R.map sR)] S (fun t S' => S' = S ∧ MergeR R t) := by
  unfold m_merge
  rw [Fw_fnM]
  unfold b_merge
  refine W_seq (fun st1 => st1 = ⟨[.val (.fz (R.map sR)), .val (.fz (R.map sR)), .emp, .emp, .emp], S⟩) ?_ ?_
  · simp only [W_pure, W_ofO, W_eVar, W_oVar, W_eFrz, W_oE, W_eOp2, W_eChain, W_asB, W_bNot, W_bAnd, W_bOr, W_eNot, W_eAnd, W_eOr, W_eIf, W_eNeg, W_aNil, W_aCons, W_oNil, W_oCons, W_eTup, W_fLst, W_eFz, W_eBox, W_fDic, W_eCall, W_fCall, W_pNo, W_pSome, W_eSliceU, W_fSlice, W_fRev, W_eLst, W_eLst0, W_mVar, W_mRef, W_eMeth, W_eFn, W_cSeq, W_cRet, W_cExpr, W_cIf, W_cSet, W_cOwn, W_cUnp, W_cSetIx, W_cPut, W_iU, W_iVar, W_iRange, W_iEnumU, W_iZipU, W_cFor, W_bYes, Op_some, Op_none, Op_ite, Op_map, Op_bind, Op_rdAll, rdAll_nil, Bw_bl, rVar, peekS, peekT, pVar, pRef, Lw_lst, setS, lstAt_fz, lenO_fz, lenO_str, list_fz, wipe_1, wipe_2, rest_1, rest_2, List.all_cons, List.all_nil, notOwn, W_fComp, asg_2, asg_n, turn_n, turn_c, turn_b, turn_r, List.getElem?_cons_zero, List.getElem?_cons_succ, List.getElem?_nil, List.set_cons_zero, List.set_cons_succ, List.map_cons, List.map_nil, List.cons_append, List.nil_append, List.length_cons, List.length_nil, Option.getD_some, Bool.and_true, Bool.and_self, Option.bind_some, Option.map_some, List.replicate_succ, List.replicate_zero, decide_eq_true_eq, Bool.not_true, Bool.not_false, Bool.not_eq_true', if_true, if_false, reduceIte, reduceCtorEq, Nat.reduceAdd, Nat.reduceSub, Nat.reduceLeDiff, true_and, and_true, lst_sR]
    refine ⟨by rw [List.length_map]; have := h.1; omega, ?_⟩
    refine Op_lcR (fun _ => true) sR trivial ?_ ?_
    · intro r hr
      simp only [W_pure, W_ofO, W_eVar, W_oVar, W_eFrz, W_oE, W_eOp2, W_eChain, W_asB, W_bNot, W_bAnd, W_bOr, W_eNot, W_eAnd, W_eOr, W_eIf, W_eNeg, W_aNil, W_aCons, W_oNil, W_oCons, W_eTup, W_fLst, W_eFz, W_eBox, W_fDic, W_eCall, W_fCall, W_pNo, W_pSome, W_eSliceU, W_fSlice, W_fRev, W_eLst, W_eLst0, W_mVar, W_mRef, W_eMeth, W_eFn, W_cSeq, W_cRet, W_cExpr, W_cIf, W_cSet, W_cOwn, W_cUnp, W_cSetIx, W_cPut, W_iU, W_iVar, W_iRange, W_iEnumU, W_iZipU, W_cFor, W_bYes, Op_some, Op_none, Op_ite, Op_map, Op_bind, Op_rdAll, rdAll_nil, Bw_bl, rVar, peekS, peekT, pVar, pRef, Lw_lst, setS, lstAt_fz, lenO_fz, lenO_str, list_fz, wipe_1, wipe_2, rest_1, rest_2, List.all_cons, List.all_nil, notOwn, W_fComp, asg_2, asg_n, turn_n, turn_c, turn_b, turn_r, List.getElem?_cons_zero, List.getElem?_cons_succ, List.getElem?_nil, List.set_cons_zero, List.set_cons_succ, List.map_cons, List.map_nil, List.cons_append, List.nil_append, List.length_cons, List.length_nil, Option.getD_some, Bool.and_true, Bool.and_self, Option.bind_some, Option.map_some, List.replicate_succ, List.replicate_zero, decide_eq_true_eq, Bool.not_true, Bool.not_false, Bool.not_eq_true', if_true, if_false, reduceIte, reduceCtorEq, Nat.reduceAdd, Nat.reduceSub, Nat.reduceLeDiff, true_and, and_true, sR]
      exact fun _ => trivial
    · rw [list_R]
      rfl
  rintro _ rfl
  refine W_seq (fun st1 => st1 = ⟨[.val (.fz (R.map sR)), .val (.fz (R.map sR)), .emp, .own (.lst []), .emp], S⟩) ?_ ?_
  · simp only [W_pure, W_ofO, W_eVar, W_oVar, W_eFrz, W_oE, W_eOp2, W_eChain, W_asB, W_bNot, W_bAnd, W_bOr, W_eNot, W_eAnd, W_eOr, W_eIf, W_eNeg, W_aNil, W_aCons, W_oNil, W_oCons, W_eTup, W_fLst, W_eFz, W_eBox, W_fDic, W_eCall, W_fCall, W_pNo, W_pSome, W_eSliceU, W_fSlice, W_fRev, W_eLst, W_eLst0, W_mVar, W_mRef, W_eMeth, W_eFn, W_cSeq, W_cRet, W_cExpr, W_cIf, W_cSet, W_cOwn, W_cUnp, W_cSetIx, W_cPut, W_iU, W_iVar, W_iRange, W_iEnumU, W_iZipU, W_cFor, W_bYes, Op_some, Op_none, Op_ite, Op_map, Op_bind, Op_rdAll, rdAll_nil, Bw_bl, rVar, peekS, peekT, pVar, pRef, Lw_lst, setS, lstAt_fz, lenO_fz, lenO_str, list_fz, wipe_1, wipe_2, rest_1, rest_2, List.all_cons, List.all_nil, notOwn, W_fComp, asg_2, asg_n, turn_n, turn_c, turn_b, turn_r, List.getElem?_cons_zero, List.getElem?_cons_succ, List.getElem?_nil, List.set_cons_zero, List.set_cons_succ, List.map_cons, List.map_nil, List.cons_append, List.nil_append, List.length_cons, List.length_nil, Option.getD_some, Bool.and_true, Bool.and_self, Option.bind_some, Option.map_some, List.replicate_succ, List.replicate_zero, decide_eq_true_eq, Bool.not_true, Bool.not_false, Bool.not_eq_true', if_true, if_false, reduceIte, reduceCtorEq, Nat.reduceAdd, Nat.reduceSub, Nat.reduceLeDiff, true_and, and_true]
  rintro _ rfl
  rw [W_cSeq]
  refine W_whileL (fun n st1 => ∃ line R' s4, GdRs R' ∧ tot R' ≤ n ∧ line ++ (runs n R').1 = (runs KK R).1 ∧ (runs n R').2 = (runs KK R).2 ∧ line.length + n ≤ KK ∧ st1 = ⟨[.val (.fz (R.map sR)), .val (.fz (R'.map sR)), .emp, .own (.lst (line.map .str)), s4], S⟩) ?_ FUEL KK _ (by unfold FUEL KK; decide) ⟨[], R, _, h, h.tot, rfl, rfl, Nat.le_refl _, rfl⟩
  rintro n _ ⟨line, R', s4, hg, ht, e1, e2, hl, rfl⟩
  have h16 := hg.1
  simp only [W_asB, W_eCall, W_oCons, W_oNil, W_oE, W_eFz, W_fComp, W_iU, W_eVar, List.getElem?_cons_zero, List.getElem?_cons_succ, List.getElem?_nil, List.set_cons_zero, List.set_cons_succ, List.map_cons, List.map_nil, List.cons_append, List.nil_append, List.length_cons, List.length_nil, Option.getD_some, Bool.and_true, Bool.and_self, Option.bind_some, Option.map_some, List.replicate_succ, List.replicate_zero, decide_eq_true_eq, Bool.not_true, Bool.not_false, Bool.not_eq_true', if_true, if_false, reduceIte, reduceCtorEq, Nat.reduceAdd, Nat.reduceSub, Nat.reduceLeDiff, true_and, and_true, lst_sR, wipe_1, rest_1, notOwn, List.all_cons, List.all_nil]
  refine ⟨by rw [List.length_map]; omega, ?_⟩
  refine Op_lcR (fun _ => true) (fun r => .bl (full r)) rfl ?_ ?_
  · intro r hr
    simp only [W_pure, W_ofO, W_eVar, W_oVar, W_eFrz, W_oE, W_eOp2, W_eChain, W_asB, W_bNot, W_bAnd, W_bOr, W_eNot, W_eAnd, W_eOr, W_eIf, W_eNeg, W_aNil, W_aCons, W_oNil, W_oCons, W_eTup, W_fLst, W_eFz, W_eBox, W_fDic, W_eCall, W_fCall, W_pNo, W_pSome, W_eSliceU, W_fSlice, W_fRev, W_eLst, W_eLst0, W_mVar, W_mRef, W_eMeth, W_eFn, W_cSeq, W_cRet, W_cExpr, W_cIf, W_cSet, W_cOwn, W_cUnp, W_cSetIx, W_cPut, W_iU, W_iVar, W_iRange, W_iEnumU, W_iZipU, W_cFor, W_bYes, Op_some, Op_none, Op_ite, Op_map, Op_bind, Op_rdAll, rdAll_nil, Bw_bl, rVar, peekS, peekT, pVar, pRef, Lw_lst, setS, lstAt_fz, lenO_fz, lenO_str, list_fz, wipe_1, wipe_2, rest_1, rest_2, List.all_cons, List.all_nil, notOwn, W_fComp, asg_2, asg_n, turn_n, turn_c, turn_b, turn_r, List.getElem?_cons_zero, List.getElem?_cons_succ, List.getElem?_nil, List.set_cons_zero, List.set_cons_succ, List.map_cons, List.map_nil, List.cons_append, List.nil_append, List.length_cons, List.length_nil, Option.getD_some, Bool.and_true, Bool.and_self, Option.bind_some, Option.map_some, List.replicate_succ, List.replicate_zero, decide_eq_true_eq, Bool.not_true, Bool.not_false, Bool.not_eq_true', if_true, if_false, reduceIte, reduceCtorEq, Nat.reduceAdd, Nat.reduceSub, Nat.reduceLeDiff, true_and, and_true, sR]
    rw [ne_nil (dat_cd (hg.cd r hr))]
    simp only [W_pure, W_ofO, W_eVar, W_oVar, W_eFrz, W_oE, W_eOp2, W_eChain, W_asB, W_bNot, W_bAnd, W_bOr, W_eNot, W_eAnd, W_eOr, W_eIf, W_eNeg, W_aNil, W_aCons, W_oNil, W_oCons, W_eTup, W_fLst, W_eFz, W_eBox, W_fDic, W_eCall, W_fCall, W_pNo, W_pSome, W_eSliceU, W_fSlice, W_fRev, W_eLst, W_eLst0, W_mVar, W_mRef, W_eMeth, W_eFn, W_cSeq, W_cRet, W_cExpr, W_cIf, W_cSet, W_cOwn, W_cUnp, W_cSetIx, W_cPut, W_iU, W_iVar, W_iRange, W_iEnumU, W_iZipU, W_cFor, W_bYes, Op_some, Op_none, Op_ite, Op_map, Op_bind, Op_rdAll, rdAll_nil, Bw_bl, rVar, peekS, peekT, pVar, pRef, Lw_lst, setS, lstAt_fz, lenO_fz, lenO_str, list_fz, wipe_1, wipe_2, rest_1, rest_2, List.all_cons, List.all_nil, notOwn, W_fComp, asg_2, asg_n, turn_n, turn_c, turn_b, turn_r, List.getElem?_cons_zero, List.getElem?_cons_succ, List.getElem?_nil, List.set_cons_zero, List.set_cons_succ, List.map_cons, List.map_nil, List.cons_append, List.nil_append, List.length_cons, List.length_nil, Option.getD_some, Bool.and_true, Bool.and_self, Option.bind_some, Option.map_some, List.replicate_succ, List.replicate_zero, decide_eq_true_eq, Bool.not_true, Bool.not_false, Bool.not_eq_true', if_true, if_false, reduceIte, reduceCtorEq, Nat.reduceAdd, Nat.reduceSub, Nat.reduceLeDiff, true_and, and_true, List.isEmpty_map]
    exact fun _ => rfl
  rw [List.filter_eq_self.mpr (fun _ _ => rfl)]
  simp only [List.getElem?_cons_zero, List.getElem?_cons_succ, List.getElem?_nil, List.set_cons_zero, List.set_cons_succ, List.map_cons, List.map_nil, List.cons_append, List.nil_append, List.length_cons, List.length_nil, Option.getD_some, Bool.and_true, Bool.and_self, Option.bind_some, Option.map_some, List.replicate_succ, List.replicate_zero, decide_eq_true_eq, Bool.not_true, Bool.not_false, Bool.not_eq_true', if_true, if_false, reduceIte, reduceCtorEq, Nat.reduceAdd, Nat.reduceSub, Nat.reduceLeDiff, true_and, and_true, Op_rdAll, rdAll_nil, peekT, Op_some, any_R, Bw_bl]
  show (if live R' = true then _ else _)
  split
  · rename_i hv
    have hn : 0 < n := Nat.lt_of_lt_of_le (live_tot hv) ht
    obtain ⟨m, rfl⟩ : ∃ m, n = m + 1 := ⟨n - 1, by omega⟩
    refine W_let (fun t => t = optT (hdOf R')) ?_ ?_
    · simp only [W_eFn, W_aCons, W_aNil, W_eFz, W_fComp, W_iU, W_eVar, List.getElem?_cons_zero, List.getElem?_cons_succ, List.getElem?_nil, List.set_cons_zero, List.set_cons_succ, List.map_cons, List.map_nil, List.cons_append, List.nil_append, List.length_cons, List.length_nil, Option.getD_some, Bool.and_true, Bool.and_self, Option.bind_some, Option.map_some, List.replicate_succ, List.replicate_zero, decide_eq_true_eq, Bool.not_true, Bool.not_false, Bool.not_eq_true', if_true, if_false, reduceIte, reduceCtorEq, Nat.reduceAdd, Nat.reduceSub, Nat.reduceLeDiff, true_and, and_true, lst_sR, wipe_1, rest_1, notOwn, List.all_cons, List.all_nil]
      refine ⟨by rw [List.length_map]; omega, ?_⟩
      refine Op_lcR full sR rfl ?_ ?_
      · intro r hr
        simp only [W_pure, W_ofO, W_eVar, W_oVar, W_eFrz, W_oE, W_eOp2, W_eChain, W_asB, W_bNot, W_bAnd, W_bOr, W_eNot, W_eAnd, W_eOr, W_eIf, W_eNeg, W_aNil, W_aCons, W_oNil, W_oCons, W_eTup, W_fLst, W_eFz, W_eBox, W_fDic, W_eCall, W_fCall, W_pNo, W_pSome, W_eSliceU, W_fSlice, W_fRev, W_eLst, W_eLst0, W_mVar, W_mRef, W_eMeth, W_eFn, W_cSeq, W_cRet, W_cExpr, W_cIf, W_cSet, W_cOwn, W_cUnp, W_cSetIx, W_cPut, W_iU, W_iVar, W_iRange, W_iEnumU, W_iZipU, W_cFor, W_bYes, Op_some, Op_none, Op_ite, Op_map, Op_bind, Op_rdAll, rdAll_nil, Bw_bl, rVar, peekS, peekT, pVar, pRef, Lw_lst, setS, lstAt_fz, lenO_fz, lenO_str, list_fz, wipe_1, wipe_2, rest_1, rest_2, List.all_cons, List.all_nil, notOwn, W_fComp, asg_2, asg_n, turn_n, turn_c, turn_b, turn_r, List.getElem?_cons_zero, List.getElem?_cons_succ, List.getElem?_nil, List.set_cons_zero, List.set_cons_succ, List.map_cons, List.map_nil, List.cons_append, List.nil_append, List.length_cons, List.length_nil, Option.getD_some, Bool.and_true, Bool.and_self, Option.bind_some, Option.map_some, List.replicate_succ, List.replicate_zero, decide_eq_true_eq, Bool.not_true, Bool.not_false, Bool.not_eq_true', if_true, if_false, reduceIte, reduceCtorEq, Nat.reduceAdd, Nat.reduceSub, Nat.reduceLeDiff, true_and, and_true, sR]
        rw [ne_nil (dat_cd (hg.cd r hr))]
        simp only [W_pure, W_ofO, W_eVar, W_oVar, W_eFrz, W_oE, W_eOp2, W_eChain, W_asB, W_bNot, W_bAnd, W_bOr, W_eNot, W_eAnd, W_eOr, W_eIf, W_eNeg, W_aNil, W_aCons, W_oNil, W_oCons, W_eTup, W_fLst, W_eFz, W_eBox, W_fDic, W_eCall, W_fCall, W_pNo, W_pSome, W_eSliceU, W_fSlice, W_fRev, W_eLst, W_eLst0, W_mVar, W_mRef, W_eMeth, W_eFn, W_cSeq, W_cRet, W_cExpr, W_cIf, W_cSet, W_cOwn, W_cUnp, W_cSetIx, W_cPut, W_iU, W_iVar, W_iRange, W_iEnumU, W_iZipU, W_cFor, W_bYes, Op_some, Op_none, Op_ite, Op_map, Op_bind, Op_rdAll, rdAll_nil, Bw_bl, rVar, peekS, peekT, pVar, pRef, Lw_lst, setS, lstAt_fz, lenO_fz, lenO_str, list_fz, wipe_1, wipe_2, rest_1, rest_2, List.all_cons, List.all_nil, notOwn, W_fComp, asg_2, asg_n, turn_n, turn_c, turn_b, turn_r, List.getElem?_cons_zero, List.getElem?_cons_succ, List.getElem?_nil, List.set_cons_zero, List.set_cons_succ, List.map_cons, List.map_nil, List.cons_append, List.nil_append, List.length_cons, List.length_nil, Option.getD_some, Bool.and_true, Bool.and_self, Option.bind_some, Option.map_some, List.replicate_succ, List.replicate_zero, decide_eq_true_eq, Bool.not_true, Bool.not_false, Bool.not_eq_true', if_true, if_false, reduceIte, reduceCtorEq, Nat.reduceAdd, Nat.reduceSub, Nat.reduceLeDiff, true_and, and_true, List.isEmpty_map]
        exact ⟨rfl, fun _ => trivial⟩
      · simp only [List.getElem?_cons_zero, List.getElem?_cons_succ, List.getElem?_nil, List.set_cons_zero, List.set_cons_succ, List.map_cons, List.map_nil, List.cons_append, List.nil_append, List.length_cons, List.length_nil, Option.getD_some, Bool.and_true, Bool.and_self, Option.bind_some, Option.map_some, List.replicate_succ, List.replicate_zero, decide_eq_true_eq, Bool.not_true, Bool.not_false, Bool.not_eq_true', if_true, if_false, reduceIte, reduceCtorEq, Nat.reduceAdd, Nat.reduceSub, Nat.reduceLeDiff, true_and, and_true]
        refine (head_ok (fun r hr => ⟨hg.full.2 r hr, (List.mem_filter.mp hr).2⟩) hg.full.1).mono fun t S' q => ?_
        obtain ⟨rfl, rfl⟩ := q
        rw [hdOf_full]
        exact ⟨rfl, rfl⟩
    rintro _ rfl
    refine W_seq_r (fun st1 => (∃ n0, hdOf R' = some n0) ∧ st1 = ⟨[.val (.fz (R.map sR)), .val (.fz (R'.map sR)), .emp, .own (.lst (line.map .str)), .val (optT (hdOf R'))], S⟩) ?_ ?_
    · refine W_if (hdOf R').isNone ?_ ?_ ?_
      · have hp : peekT S (optT (hdOf R')) = some (optT (hdOf R')) := by cases hdOf R' <;> rfl
        simp only [W_asB, W_eOp2, W_oVar, W_oE, W_pure, rVar, peekS, List.getElem?_cons_zero, List.getElem?_cons_succ, List.getElem?_nil, List.set_cons_zero, List.set_cons_succ, List.map_cons, List.map_nil, List.cons_append, List.nil_append, List.length_cons, List.length_nil, Option.getD_some, Bool.and_true, Bool.and_self, Option.bind_some, Option.map_some, List.replicate_succ, List.replicate_zero, decide_eq_true_eq, Bool.not_true, Bool.not_false, Bool.not_eq_true', if_true, if_false, reduceIte, reduceCtorEq, Nat.reduceAdd, Nat.reduceSub, Nat.reduceLeDiff, true_and, and_true, Op_some, hp, Option.bind_some]
        simp only [peekT, Op_some, isN_opt, Bw_bl, and_self]
      · intro hno
        have hno : hdOf R' = none := by simpa using hno
        rw [runs_ring hno] at e1 e2
        simp only [W_pure, W_ofO, W_eVar, W_oVar, W_eFrz, W_oE, W_eOp2, W_eChain, W_asB, W_bNot, W_bAnd, W_bOr, W_eNot, W_eAnd, W_eOr, W_eIf, W_eNeg, W_aNil, W_aCons, W_oNil, W_oCons, W_eTup, W_fLst, W_eFz, W_eBox, W_fDic, W_eCall, W_fCall, W_pNo, W_pSome, W_eSliceU, W_fSlice, W_fRev, W_eLst, W_eLst0, W_mVar, W_mRef, W_eMeth, W_eFn, W_cSeq, W_cRet, W_cExpr, W_cIf, W_cSet, W_cOwn, W_cUnp, W_cSetIx, W_cPut, W_iU, W_iVar, W_iRange, W_iEnumU, W_iZipU, W_cFor, W_bYes, Op_some, Op_none, Op_ite, Op_map, Op_bind, Op_rdAll, rdAll_nil, Bw_bl, rVar, peekS, peekT, pVar, pRef, Lw_lst, setS, lstAt_fz, lenO_fz, lenO_str, list_fz, wipe_1, wipe_2, rest_1, rest_2, List.all_cons, List.all_nil, notOwn, W_fComp, asg_2, asg_n, turn_n, turn_c, turn_b, turn_r, List.getElem?_cons_zero, List.getElem?_cons_succ, List.getElem?_nil, List.set_cons_zero, List.set_cons_succ, List.map_cons, List.map_nil, List.cons_append, List.nil_append, List.length_cons, List.length_nil, Option.getD_some, Bool.and_true, Bool.and_self, Option.bind_some, Option.map_some, List.replicate_succ, List.replicate_zero, decide_eq_true_eq, Bool.not_true, Bool.not_false, Bool.not_eq_true', if_true, if_false, reduceIte, reduceCtorEq, Nat.reduceAdd, Nat.reduceSub, Nat.reduceLeDiff, true_and, and_true]
        refine (ring_ok hg hv hno).mono fun t S' q => ?_
        obtain ⟨ring, rfl, rfl, hr⟩ := q
        refine ⟨rfl, .inr ?_⟩
        rw [← e2]
        exact ⟨hv, ring, rfl, hr⟩
      · intro hso
        simp only [W_pure, W_ofO, W_eVar, W_oVar, W_eFrz, W_oE, W_eOp2, W_eChain, W_asB, W_bNot, W_bAnd, W_bOr, W_eNot, W_eAnd, W_eOr, W_eIf, W_eNeg, W_aNil, W_aCons, W_oNil, W_oCons, W_eTup, W_fLst, W_eFz, W_eBox, W_fDic, W_eCall, W_fCall, W_pNo, W_pSome, W_eSliceU, W_fSlice, W_fRev, W_eLst, W_eLst0, W_mVar, W_mRef, W_eMeth, W_eFn, W_cSeq, W_cRet, W_cExpr, W_cIf, W_cSet, W_cOwn, W_cUnp, W_cSetIx, W_cPut, W_iU, W_iVar, W_iRange, W_iEnumU, W_iZipU, W_cFor, W_bYes, Op_some, Op_none, Op_ite, Op_map, Op_bind, Op_rdAll, rdAll_nil, Bw_bl, rVar, peekS, peekT, pVar, pRef, Lw_lst, setS, lstAt_fz, lenO_fz, lenO_str, list_fz, wipe_1, wipe_2, rest_1, rest_2, List.all_cons, List.all_nil, notOwn, W_fComp, asg_2, asg_n, turn_n, turn_c, turn_b, turn_r, List.getElem?_cons_zero, List.getElem?_cons_succ, List.getElem?_nil, List.set_cons_zero, List.set_cons_succ, List.map_cons, List.map_nil, List.cons_append, List.nil_append, List.length_cons, List.length_nil, Option.getD_some, Bool.and_true, Bool.and_self, Option.bind_some, Option.map_some, List.replicate_succ, List.replicate_zero, decide_eq_true_eq, Bool.not_true, Bool.not_false, Bool.not_eq_true', if_true, if_false, reduceIte, reduceCtorEq, Nat.reduceAdd, Nat.reduceSub, Nat.reduceLeDiff, true_and, and_true]
        cases hd : hdOf R' with
        | none => rw [hd] at hso; cases hso
        | some n0 => exact ⟨n0, rfl⟩
    rintro _ ⟨⟨n0, hno⟩, rfl⟩
    rw [hno]
    rw [runs_step hno hv] at e1 e2
    have hn0 : n0.all (· < 0x110000) = true := by
      obtain ⟨r, hr⟩ := hdW_some hno
      exact hg.cd _ hr n0 List.mem_cons_self
    refine W_seq (fun st1 => st1 = ⟨[.val (.fz (R.map sR)), .val (.fz (R'.map sR)), .emp, .own (.lst ((line ++ [n0]).map .str)), .val (.str n0)], S⟩) ?_ ?_
    · simp only [W_pure, W_ofO, W_eVar, W_oVar, W_eFrz, W_oE, W_eOp2, W_eChain, W_asB, W_bNot, W_bAnd, W_bOr, W_eNot, W_eAnd, W_eOr, W_eIf, W_eNeg, W_aNil, W_aCons, W_oNil, W_oCons, W_eTup, W_fLst, W_eFz, W_eBox, W_fDic, W_eCall, W_fCall, W_pNo, W_pSome, W_eSliceU, W_fSlice, W_fRev, W_eLst, W_eLst0, W_mVar, W_mRef, W_eMeth, W_eFn, W_cSeq, W_cRet, W_cExpr, W_cIf, W_cSet, W_cOwn, W_cUnp, W_cSetIx, W_cPut, W_iU, W_iVar, W_iRange, W_iEnumU, W_iZipU, W_cFor, W_bYes, Op_some, Op_none, Op_ite, Op_map, Op_bind, Op_rdAll, rdAll_nil, Bw_bl, rVar, peekS, peekT, pVar, pRef, Lw_lst, setS, lstAt_fz, lenO_fz, lenO_str, list_fz, wipe_1, wipe_2, rest_1, rest_2, List.all_cons, List.all_nil, notOwn, W_fComp, asg_2, asg_n, turn_n, turn_c, turn_b, turn_r, List.getElem?_cons_zero, List.getElem?_cons_succ, List.getElem?_nil, List.set_cons_zero, List.set_cons_succ, List.map_cons, List.map_nil, List.cons_append, List.nil_append, List.length_cons, List.length_nil, Option.getD_some, Bool.and_true, Bool.and_self, Option.bind_some, Option.map_some, List.replicate_succ, List.replicate_zero, decide_eq_true_eq, Bool.not_true, Bool.not_false, Bool.not_eq_true', if_true, if_false, reduceIte, reduceCtorEq, Nat.reduceAdd, Nat.reduceSub, Nat.reduceLeDiff, true_and, and_true, at_last, optT]
      rw [append_i (by rw [List.length_map]; unfold KK at hl; omega)]
      simp only [W_pure, W_ofO, W_eVar, W_oVar, W_eFrz, W_oE, W_eOp2, W_eChain, W_asB, W_bNot, W_bAnd, W_bOr, W_eNot, W_eAnd, W_eOr, W_eIf, W_eNeg, W_aNil, W_aCons, W_oNil, W_oCons, W_eTup, W_fLst, W_eFz, W_eBox, W_fDic, W_eCall, W_fCall, W_pNo, W_pSome, W_eSliceU, W_fSlice, W_fRev, W_eLst, W_eLst0, W_mVar, W_mRef, W_eMeth, W_eFn, W_cSeq, W_cRet, W_cExpr, W_cIf, W_cSet, W_cOwn, W_cUnp, W_cSetIx, W_cPut, W_iU, W_iVar, W_iRange, W_iEnumU, W_iZipU, W_cFor, W_bYes, Op_some, Op_none, Op_ite, Op_map, Op_bind, Op_rdAll, rdAll_nil, Bw_bl, rVar, peekS, peekT, pVar, pRef, Lw_lst, setS, lstAt_fz, lenO_fz, lenO_str, list_fz, wipe_1, wipe_2, rest_1, rest_2, List.all_cons, List.all_nil, notOwn, W_fComp, asg_2, asg_n, turn_n, turn_c, turn_b, turn_r, List.getElem?_cons_zero, List.getElem?_cons_succ, List.getElem?_nil, List.set_cons_zero, List.set_cons_succ, List.map_cons, List.map_nil, List.cons_append, List.nil_append, List.length_cons, List.length_nil, Option.getD_some, Bool.and_true, Bool.and_self, Option.bind_some, Option.map_some, List.replicate_succ, List.replicate_zero, decide_eq_true_eq, Bool.not_true, Bool.not_false, Bool.not_eq_true', if_true, if_false, reduceIte, reduceCtorEq, Nat.reduceAdd, Nat.reduceSub, Nat.reduceLeDiff, true_and, and_true, List.map_append, set_last]
    rintro _ rfl
    simp only [W_cSet, W_eFz, W_fComp, W_iU, W_eVar, List.getElem?_cons_zero, List.getElem?_cons_succ, List.getElem?_nil, List.set_cons_zero, List.set_cons_succ, List.map_cons, List.map_nil, List.cons_append, List.nil_append, List.length_cons, List.length_nil, Option.getD_some, Bool.and_true, Bool.and_self, Option.bind_some, Option.map_some, List.replicate_succ, List.replicate_zero, decide_eq_true_eq, Bool.not_true, Bool.not_false, Bool.not_eq_true', if_true, if_false, reduceIte, reduceCtorEq, Nat.reduceAdd, Nat.reduceSub, Nat.reduceLeDiff, true_and, and_true, lst_sR, wipe_1, rest_1, notOwn, List.all_cons, List.all_nil]
    refine ⟨by rw [List.length_map]; omega, ?_⟩
    refine Op_lcR (fun _ => true) (fun r => sR (stepR n0 r)) rfl ?_ ?_
    · intro r hr
      have hq := @eq_cd (r.take 1) [n0] (fun s hs => hg.cd r hr s (List.mem_of_mem_take hs)) (fun s hs => by rw [List.mem_singleton.mp hs]; exact hn0)
      simp only [W_pure, W_ofO, W_eVar, W_oVar, W_eFrz, W_oE, W_eOp2, W_eChain, W_asB, W_bNot, W_bAnd, W_bOr, W_eNot, W_eAnd, W_eOr, W_eIf, W_eNeg, W_aNil, W_aCons, W_oNil, W_oCons, W_eTup, W_fLst, W_eFz, W_eBox, W_fDic, W_eCall, W_fCall, W_pNo, W_pSome, W_eSliceU, W_fSlice, W_fRev, W_eLst, W_eLst0, W_mVar, W_mRef, W_eMeth, W_eFn, W_cSeq, W_cRet, W_cExpr, W_cIf, W_cSet, W_cOwn, W_cUnp, W_cSetIx, W_cPut, W_iU, W_iVar, W_iRange, W_iEnumU, W_iZipU, W_cFor, W_bYes, Op_some, Op_none, Op_ite, Op_map, Op_bind, Op_rdAll, rdAll_nil, Bw_bl, rVar, peekS, peekT, pVar, pRef, Lw_lst, setS, lstAt_fz, lenO_fz, lenO_str, list_fz, wipe_1, wipe_2, rest_1, rest_2, List.all_cons, List.all_nil, notOwn, W_fComp, asg_2, asg_n, turn_n, turn_c, turn_b, turn_r, List.getElem?_cons_zero, List.getElem?_cons_succ, List.getElem?_nil, List.set_cons_zero, List.set_cons_succ, List.map_cons, List.map_nil, List.cons_append, List.nil_append, List.length_cons, List.length_nil, Option.getD_some, Bool.and_true, Bool.and_self, Option.bind_some, Option.map_some, List.replicate_succ, List.replicate_zero, decide_eq_true_eq, Bool.not_true, Bool.not_false, Bool.not_eq_true', if_true, if_false, reduceIte, reduceCtorEq, Nat.reduceAdd, Nat.reduceSub, Nat.reduceLeDiff, true_and, and_true, sR, cut_t1] at hq ⊢
      intro _
      rw [hq]
      simp only [W_pure, W_ofO, W_eVar, W_oVar, W_eFrz, W_oE, W_eOp2, W_eChain, W_asB, W_bNot, W_bAnd, W_bOr, W_eNot, W_eAnd, W_eOr, W_eIf, W_eNeg, W_aNil, W_aCons, W_oNil, W_oCons, W_eTup, W_fLst, W_eFz, W_eBox, W_fDic, W_eCall, W_fCall, W_pNo, W_pSome, W_eSliceU, W_fSlice, W_fRev, W_eLst, W_eLst0, W_mVar, W_mRef, W_eMeth, W_eFn, W_cSeq, W_cRet, W_cExpr, W_cIf, W_cSet, W_cOwn, W_cUnp, W_cSetIx, W_cPut, W_iU, W_iVar, W_iRange, W_iEnumU, W_iZipU, W_cFor, W_bYes, Op_some, Op_none, Op_ite, Op_map, Op_bind, Op_rdAll, rdAll_nil, Bw_bl, rVar, peekS, peekT, pVar, pRef, Lw_lst, setS, lstAt_fz, lenO_fz, lenO_str, list_fz, wipe_1, wipe_2, rest_1, rest_2, List.all_cons, List.all_nil, notOwn, W_fComp, asg_2, asg_n, turn_n, turn_c, turn_b, turn_r, List.getElem?_cons_zero, List.getElem?_cons_succ, List.getElem?_nil, List.set_cons_zero, List.set_cons_succ, List.map_cons, List.map_nil, List.cons_append, List.nil_append, List.length_cons, List.length_nil, Option.getD_some, Bool.and_true, Bool.and_self, Option.bind_some, Option.map_some, List.replicate_succ, List.replicate_zero, decide_eq_true_eq, Bool.not_true, Bool.not_false, Bool.not_eq_true', if_true, if_false, reduceIte, reduceCtorEq, Nat.reduceAdd, Nat.reduceSub, Nat.reduceLeDiff, true_and, and_true, int_b, cut_if]
      rfl
    · rw [List.filter_eq_self.mpr (fun _ _ => rfl)]
      simp only [W_pure, W_ofO, W_eVar, W_oVar, W_eFrz, W_oE, W_eOp2, W_eChain, W_asB, W_bNot, W_bAnd, W_bOr, W_eNot, W_eAnd, W_eOr, W_eIf, W_eNeg, W_aNil, W_aCons, W_oNil, W_oCons, W_eTup, W_fLst, W_eFz, W_eBox, W_fDic, W_eCall, W_fCall, W_pNo, W_pSome, W_eSliceU, W_fSlice, W_fRev, W_eLst, W_eLst0, W_mVar, W_mRef, W_eMeth, W_eFn, W_cSeq, W_cRet, W_cExpr, W_cIf, W_cSet, W_cOwn, W_cUnp, W_cSetIx, W_cPut, W_iU, W_iVar, W_iRange, W_iEnumU, W_iZipU, W_cFor, W_bYes, Op_some, Op_none, Op_ite, Op_map, Op_bind, Op_rdAll, rdAll_nil, Bw_bl, rVar, peekS, peekT, pVar, pRef, Lw_lst, setS, lstAt_fz, lenO_fz, lenO_str, list_fz, wipe_1, wipe_2, rest_1, rest_2, List.all_cons, List.all_nil, notOwn, W_fComp, asg_2, asg_n, turn_n, turn_c, turn_b, turn_r, List.getElem?_cons_zero, List.getElem?_cons_succ, List.getElem?_nil, List.set_cons_zero, List.set_cons_succ, List.map_cons, List.map_nil, List.cons_append, List.nil_append, List.length_cons, List.length_nil, Option.getD_some, Bool.and_true, Bool.and_self, Option.bind_some, Option.map_some, List.replicate_succ, List.replicate_zero, decide_eq_true_eq, Bool.not_true, Bool.not_false, Bool.not_eq_true', if_true, if_false, reduceIte, reduceCtorEq, Nat.reduceAdd, Nat.reduceSub, Nat.reduceLeDiff, true_and, and_true]
      refine ⟨m, by omega, line ++ [n0], R'.map (stepR n0), .val (.str n0), hg.step n0, ?_, ?_, e2, ?_, ?_⟩
      · obtain ⟨r, hr⟩ := hdW_some hno
        have := tot_step hr
        omega
      · rw [List.append_assoc]
        exact e1
      · rw [List.length_append, List.length_cons, List.length_nil]
        omega
      · rw [List.map_map]
        rfl
  · rename_i hv
    have hv : live R' = false := by simpa using hv
    rw [runs_dead hv] at e1 e2
    simp only [W_pure, W_ofO, W_eVar, W_oVar, W_eFrz, W_oE, W_eOp2, W_eChain, W_asB, W_bNot, W_bAnd, W_bOr, W_eNot, W_eAnd, W_eOr, W_eIf, W_eNeg, W_aNil, W_aCons, W_oNil, W_oCons, W_eTup, W_fLst, W_eFz, W_eBox, W_fDic, W_eCall, W_fCall, W_pNo, W_pSome, W_eSliceU, W_fSlice, W_fRev, W_eLst, W_eLst0, W_mVar, W_mRef, W_eMeth, W_eFn, W_cSeq, W_cRet, W_cExpr, W_cIf, W_cSet, W_cOwn, W_cUnp, W_cSetIx, W_cPut, W_iU, W_iVar, W_iRange, W_iEnumU, W_iZipU, W_cFor, W_bYes, Op_some, Op_none, Op_ite, Op_map, Op_bind, Op_rdAll, rdAll_nil, Bw_bl, rVar, peekS, peekT, pVar, pRef, Lw_lst, setS, lstAt_fz, lenO_fz, lenO_str, list_fz, wipe_1, wipe_2, rest_1, rest_2, List.all_cons, List.all_nil, notOwn, W_fComp, asg_2, asg_n, turn_n, turn_c, turn_b, turn_r, List.getElem?_cons_zero, List.getElem?_cons_succ, List.getElem?_nil, List.set_cons_zero, List.set_cons_succ, List.map_cons, List.map_nil, List.cons_append, List.nil_append, List.length_cons, List.length_nil, Option.getD_some, Bool.and_true, Bool.and_self, Option.bind_some, Option.map_some, List.replicate_succ, List.replicate_zero, decide_eq_true_eq, Bool.not_true, Bool.not_false, Bool.not_eq_true', if_true, if_false, reduceIte, reduceCtorEq, Nat.reduceAdd, Nat.reduceSub, Nat.reduceLeDiff, true_and, and_true]
    refine .inl ?_
    rw [← e2, ← e1, hv]
    simp [lineS]
end Lw
namespace Lw
open PySem PySem.Spec PyProof.Rows L2 Sw Classical
theorem isi_of {t : T} {n c : String} {b : Bool} (h : t.tyOf = some n) (k : kitB n c = some b) : isiO [t, .ty c] = some (.bl b) := by
  rw [isiO_v, h]
  simp only [k, Option.map_some]
theorem is_s_bool {a : List Nat} : isiO [.str a, .ty "bool"] = some (.bl false) := isi_of rfl (by decide +kernel : kitB "str" "bool" = some false)
theorem is_s_str {a : List Nat} : isiO [.str a, .ty "str"] = some (.bl true) := isi_of rfl (by decide +kernel : kitB "str" "str" = some true)
theorem is_s_int {a : List Nat} : isiO [.str a, .ty "int"] = some (.bl false) := isi_of rfl (by decide +kernel : kitB "str" "int" = some false)
theorem is_s_tuple {a : List Nat} : isiO [.str a, .ty "tuple"] = some (.bl false) := isi_of rfl (by decide +kernel : kitB "str" "tuple" = some false)
theorem is_s_list {a : List Nat} : isiO [.str a, .ty "list"] = some (.bl false) := isi_of rfl (by decide +kernel : kitB "str" "list" = some false)
theorem is_f_bool {l : List T} : isiO [.fz l, .ty "bool"] = some (.bl false) := isi_of rfl (by decide +kernel : kitB "list" "bool" = some false)
theorem is_f_str {l : List T} : isiO [.fz l, .ty "str"] = some (.bl false) := isi_of rfl (by decide +kernel : kitB "list" "str" = some false)
theorem is_f_int {l : List T} : isiO [.fz l, .ty "int"] = some (.bl false) := isi_of rfl (by decide +kernel : kitB "list" "int" = some false)
theorem is_f_tuple {l : List T} : isiO [.fz l, .ty "tuple"] = some (.bl false) := isi_of rfl (by decide +kernel : kitB "list" "tuple" = some false)
theorem is_f_list {l : List T} : isiO [.fz l, .ty "list"] = some (.bl true) := isi_of rfl (by decide +kernel : kitB "list" "list" = some true)
theorem is_t_bool {l : List T} : isiO [.tup l, .ty "bool"] = some (.bl false) := isi_of rfl (by decide +kernel : kitB "tuple" "bool" = some false)
theorem is_t_str {l : List T} : isiO [.tup l, .ty "str"] = some (.bl false) := isi_of rfl (by decide +kernel : kitB "tuple" "str" = some false)
theorem is_t_int {l : List T} : isiO [.tup l, .ty "int"] = some (.bl false) := isi_of rfl (by decide +kernel : kitB "tuple" "int" = some false)
theorem is_t_tuple {l : List T} : isiO [.tup l, .ty "tuple"] = some (.bl true) := isi_of rfl (by decide +kernel : kitB "tuple" "tuple" = some true)
theorem is_t_list {l : List T} : isiO [.tup l, .ty "list"] = some (.bl false) := isi_of rfl (by decide +kernel : kitB "tuple" "list" = some false)
theorem is_i_bool {z : Int} : isiO [.int z, .ty "bool"] = some (.bl false) := isi_of rfl (by decide +kernel : kitB "int" "bool" = some false)
theorem is_i_str {z : Int} : isiO [.int z, .ty "str"] = some (.bl false) := isi_of rfl (by decide +kernel : kitB "int" "str" = some false)
theorem is_i_int {z : Int} : isiO [.int z, .ty "int"] = some (.bl true) := isi_of rfl (by decide +kernel : kitB "int" "int" = some true)
theorem is_i_tuple {z : Int} : isiO [.int z, .ty "tuple"] = some (.bl false) := isi_of rfl (by decide +kernel : kitB "int" "tuple" = some false)
theorem is_i_list {z : Int} : isiO [.int z, .ty "list"] = some (.bl false) := isi_of rfl (by decide +kernel : kitB "int" "list" = some false)
theorem iN_s {a : List Nat} : isNO (.str a) .non = some (.bl false) := rfl
theorem iN_f {a : List T} : isNO (.fz a) .non = some (.bl false) := rfl
theorem iN_t {a : List T} : isNO (.tup a) .non = some (.bl false) := rfl
theorem nN_f {a : List T} : notNO (.fz a) .non = some (.bl true) := rfl
theorem nN_t {a : List T} : notNO (.tup a) .non = some (.bl true) := rfl
theorem nN_n : notNO .non .non = some (.bl false) := rfl
theorem dat_bl {n : Nat} {b : Bool} : (T.bl b).dat n = true := by cases n <;> rfl
theorem ne_b {a b : Bool} : Sw.neT (.bl a) (.bl b) = some (.bl (!(a == b))) := by
  unfold Sw.neT Sw.neO
  simp only [dat_bl, Bool.and_self, if_true, Option.map_some, T.eqv]
theorem eq_s {a b : List Nat} (ha : a.all (· < 0x110000) = true) (hb : b.all (· < 0x110000) = true) : Sw.eqT (.str a) (.str b) = some (.bl (a == b)) := by
  unfold Sw.eqT Sw.eqO
  simp only [dat_str ha, dat_str hb, Bool.and_self, if_true, Option.map_some, T.eqv]
theorem ne_s {a b : List Nat} (ha : a.all (· < 0x110000) = true) (hb : b.all (· < 0x110000) = true) : Sw.neT (.str a) (.str b) = some (.bl (!(a == b))) := by
  unfold Sw.neT Sw.neO
  simp only [dat_str ha, dat_str hb, Bool.and_self, if_true, Option.map_some, T.eqv]
theorem ty_s {a : List Nat} : (T.str a).tyOf = some "str" := rfl
theorem ty_f {a : List T} : (T.fz a).tyOf = some "list" := rfl
theorem ty_t {a : List T} : (T.tup a).tyOf = some "tuple" := rfl
theorem ty_i {a : Int} : (T.int a).tyOf = some "int" := rfl
theorem len_t {ts : List T} : lenO [.tup ts] = some (.int ts.length) := rfl
theorem all_true {ts : List T} : allO [.fz (ts.map fun _ => .bl true)] = some (.bl true) := by
  have e : (ts.map fun _ => T.bl true) = (ts.map fun _ => true).map .bl := by rw [List.map_map]; rfl
  show (blsOf (ts.map fun _ => T.bl true)).map (fun bs => T.bl (bs.all id)) = _
  rw [e, bls_map]
  simp
def Yes (S : List Ob) (t : T) (S' : List Ob) : Prop := t = .bl true ∧ S' = S
end Lw
namespace Lw
open PySem PySem.Spec PyProof.Rows L2 Sw Classical
/-- each row of Z is an end of R's -/
def Suf (R Z : List Row) : Prop := Z.length = R.length ∧ ∀ (i : Nat) (r : Row), Z[i]? = some r → ∃ (q : Row) (j : Nat), R[i]? = some q ∧ r = q.drop j
theorem Suf.refl (R : List Row) : Suf R R := ⟨rfl, fun i r h => ⟨r, 0, h, rfl⟩⟩
theorem Suf.step {R Z : List Row} (h : Suf R Z) (n : List Nat) : Suf R (Z.map (stepR n)) := by
  refine ⟨by rw [List.length_map]; exact h.1, fun i r hr => ?_⟩
  rw [List.getElem?_map] at hr
  obtain ⟨z, hz, rfl⟩ := Option.map_eq_some_iff.mp hr
  obtain ⟨q, j, hq, rfl⟩ := h.2 i z hz
  unfold stepR
  split
  · exact ⟨q, j + 1, hq, by rw [List.drop_drop]⟩
  · exact ⟨q, j, hq, rfl⟩
theorem runs_suf {R : List Row} : ∀ (k : Nat) (Z : List Row), Suf R Z → Suf R (runs k Z).2
  | 0, Z, h => h
  | k + 1, Z, h => by
    unfold runs
    split
    · cases hdOf Z with
      | none => exact h
      | some n => exact runs_suf k _ (h.step n)
    · exact h
theorem runs_cd {R : List Row} : ∀ (k : Nat) (Z : List Row), (∀ r ∈ Z, CdR r) → CdR (runs k Z).1
  | 0, Z, h => fun s hs => by cases hs
  | k + 1, Z, h => by
    unfold runs
    split
    · cases hd : hdOf Z with
      | none => exact fun s hs => by cases hs
      | some n =>
        obtain ⟨r, hr⟩ := hdW_some hd
        intro s hs
        rcases List.mem_cons.mp hs with rfl | hs
        · exact h _ hr _ List.mem_cons_self
        · refine runs_cd (R := R) k _ (fun q hq => ?_) s hs
          obtain ⟨z, hz, rfl⟩ := List.mem_map.mp hq
          exact fun s hs => h z hz s ((stepR_sub n z).subset hs)
    · exact fun s hs => by cases hs
theorem runs_len : ∀ (k : Nat) (Z : List Row), (runs k Z).1.length ≤ k
  | 0, Z => Nat.le_refl _
  | k + 1, Z => by
    unfold runs
    split
    · cases hdOf Z with
      | none => exact Nat.zero_le _
      | some n =>
        have := runs_len k (Z.map (stepR n))
        show (runs k (Z.map (stepR n))).1.length + 1 ≤ k + 1
        omega
    · exact Nat.zero_le _
theorem findIdx_at {r : Row} {a : List Nat} {x : Nat} (h : r.Nodup) (hx : r[x]? = some a) : r.findIdx? (· == a) = some x := by
  obtain ⟨hl, he⟩ := List.getElem?_eq_some_iff.mp hx
  rw [List.findIdx?_eq_some_iff_getElem]
  refine ⟨hl, by simp [he], fun j hj => ?_⟩
  intro e
  have e : r[j]'(by omega) = a := by simpa using e
  have := (List.getElem?_inj (by omega) h).mp (show r[j]? = r[x]? by rw [hx, List.getElem?_eq_getElem (by omega), e])
  omega
theorem findIdx_str {r : Row} {a : List Nat} : ((r.map T.str).findIdx? fun z => T.eqv z (.str a)) = r.findIdx? (· == a) := by
  induction r with
  | nil => rfl
  | cons b r ih =>
    rw [List.map_cons, List.findIdx?_cons, List.findIdx?_cons, ih]
    rfl
theorem index_row {r : Row} {a : List Nat} {x : Nat} (h : NmL r) (hx : r[x]? = some a) : indexF (.fz (r.map .str)) [.str a] = some (.int x) := by
  have ha := h.2 a (List.mem_of_getElem? hx)
  show (if (T.str a).dat 60 && T.dats 59 (r.map .str) then ((r.map T.str).findIdx? fun z => T.eqv z (.str a)).map fun j => T.int (j : Nat) else none) = _
  rw [dat_str ha, dats_cd h.2, findIdx_str, findIdx_at h.1 hx]
  rfl
theorem asg_d {i : Nat} {d : Dem} {σ : List Sl} : asgT (.tu [.nm 2, .tu [.nm 3, .nm 4, .nm 5]]) (.tup [.int (i : Nat), dT d]) σ = some ((((σ.set 2 (.val (.int i))).set 3 (.val (.str d.1))).set 4 (.val (.str d.2.1))).set 5 (.val (.int d.2.2))) := rfl
theorem tyl {l : List T} : tyOk "list" (.fz l) = true := by
  show ("list" == "list") = true
  decide
end Lw
namespace Lw
open PySem PySem.Spec PyProof.Rows L2 Sw Classical
/-! ### the law of rows merged, plainly -/
inductive Lin : List Row → Row → Prop
  | nil {R : List Row} (h : live R = false) : Lin R []
  | cons {R : List Row} {n : List Nat} {L : Row} (hl : live R = true) (hd : hdOf R = some n) (h : Lin (R.map (stepR n)) L) : Lin R (n :: L)
theorem lin_runs : ∀ {k : Nat} {R : List Row}, tot R ≤ k → live (runs k R).2 = false → Lin R (runs k R).1
  | 0, R, ht, h => .nil h
  | k + 1, R, ht, h => by
    cases hv : live R with
    | false => rw [runs_dead hv]; exact .nil hv
    | true =>
      cases hd : hdOf R with
      | none =>
        rw [runs_ring hd] at h
        rw [hv] at h
        cases h
      | some n =>
        rw [runs_step hd hv] at h ⊢
        obtain ⟨r, hr⟩ := hdW_some hd
        have := tot_step hr
        exact .cons hv hd (lin_runs (by omega) h)
theorem runs_lin : ∀ {R : List Row} {L : Row}, Lin R L → ∀ {k : Nat}, tot R ≤ k → runs k R = (L, (runs k R).2) ∧ live (runs k R).2 = false := by
  intro R L h
  induction h with
  | nil h => intro k _; rw [runs_dead h]; exact ⟨rfl, h⟩
  | cons hl hd h ih =>
    intro k hk
    rename_i R n L
    have h0 := live_tot hl
    obtain ⟨m, rfl⟩ : ∃ m, k = m + 1 := ⟨k - 1, by omega⟩
    rw [runs_step hd hl]
    obtain ⟨r, hr⟩ := hdW_some hd
    have := tot_step hr
    obtain ⟨h1, h2⟩ := ih (k := m) (by omega)
    exact ⟨by rw [h1], h2⟩
theorem hd_not {R : List Row} {n : List Nat} (h : hdOf R = some n) : inTl R n = false := by
  have gen : ∀ {P : List Nat → Bool} {R : List Row}, hdW P R = some n → P n = false := by
    intro P R
    induction R with
    | nil => intro h; cases h
    | cons r R ih =>
      intro h
      cases r with
      | nil => exact ih h
      | cons a q =>
        have h : (if P a then hdW P R else some a) = some n := h
        split at h
        · exact ih h
        · cases h
          rename_i hp
          simpa using hp
  exact gen h
theorem not_tl {R : List Row} {n : List Nat} (h : inTl R n = false) {r : Row} (hr : r ∈ R) : n ∉ r.drop 1 := fun hm => by
  have : inTl R n = true := List.any_eq_true.mpr ⟨r, hr, by simpa using hm⟩
  rw [h] at this
  cases this
/-- each row is kept -/
theorem lin_sub {R : List Row} {L : Row} (h : Lin R L) : (∀ r ∈ R, r.Sublist L) ∧ (∀ a ∈ L, ∃ r ∈ R, a ∈ r) := by
  induction h with
  | nil h =>
    refine ⟨fun r hr => ?_, fun a ha => by cases ha⟩
    have : full r = false := by
      cases hf : full r with
      | false => rfl
      | true =>
        rename_i R
        have : live R = true := List.any_eq_true.mpr ⟨r, hr, hf⟩
        rw [h] at this
        cases this
    cases r with
    | nil => exact List.Sublist.refl _
    | cons a q => cases this
  | cons hl hd h ih =>
    rename_i R n L
    obtain ⟨i1, i2⟩ := ih
    refine ⟨fun r hr => ?_, fun a ha => ?_⟩
    · have hs := i1 (stepR n r) (List.mem_map.mpr ⟨r, hr, rfl⟩)
      cases r with
      | nil => exact List.nil_sublist _
      | cons a q =>
        unfold stepR at hs
        by_cases e : a = n
        · subst e
          simp at hs
          exact hs.cons_cons a
        · have : (([a] : Row) == [n]) = false := by
            rw [beq_eq_false_iff_ne]
            exact fun z => e (List.cons.inj z).1
          simp only [List.take_succ_cons, List.take_zero, this] at hs
          exact List.Sublist.cons _ (by simpa using hs)
    · rcases List.mem_cons.mp ha with rfl | ha
      · obtain ⟨q, hq⟩ := hdW_some hd
        exact ⟨_, hq, List.mem_cons_self⟩
      · obtain ⟨r, hr, har⟩ := i2 a ha
        obtain ⟨z, hz, rfl⟩ := List.mem_map.mp hr
        exact ⟨z, hz, (stepR_sub n z).subset har⟩
/-- a name told is gone from all rows -/
theorem step_gone {R : List Row} {n : List Nat} (hd : hdOf R = some n) : ∀ r ∈ R.map (stepR n), n ∉ r := by
  intro r hr hm
  obtain ⟨z, hz, rfl⟩ := List.mem_map.mp hr
  have hn := not_tl (hd_not hd) hz
  unfold stepR at hm
  split at hm
  · exact hn hm
  · rename_i hne
    cases z with
    | nil => cases hm
    | cons a q =>
      rcases List.mem_cons.mp hm with e | hm
      · subst e
        simp at hne
      · exact hn hm
theorem lin_nodup {R : List Row} {L : Row} (h : Lin R L) : L.Nodup := by
  induction h with
  | nil h => exact List.nodup_nil
  | cons hl hd h ih =>
    rw [List.nodup_cons]
    refine ⟨fun hm => ?_, ih⟩
    obtain ⟨r, hr, har⟩ := (lin_sub h).2 _ hm
    exact step_gone hd r hr har
theorem sub_filter : ∀ {r L : Row}, L.Nodup → r.Sublist L → L.filter (fun a => r.contains a) = r := by
  intro r L hn hs
  induction hs with
  | slnil => rfl
  | cons a hs ih =>
    rename_i r L
    rw [List.nodup_cons] at hn
    have hna : r.contains a = false := by
      simpa using fun z => hn.1 (hs.subset z)
    rw [List.filter_cons_of_neg (by rw [hna]; simp)]
    exact ih hn.2
  | cons_cons a hs ih =>
    rename_i r L
    rw [List.nodup_cons] at hn
    rw [List.filter_cons_of_pos (by simp)]
    congr 1
    rw [← ih hn.2]
    refine List.filter_congr fun x hx => ?_
    have hxa : x ≠ a := fun e => hn.1 (e ▸ hx)
    have hfr := ih hn.2
    rw [hfr]
    simp [hxa]
end Lw
namespace Lw
open PySem PySem.Spec PyProof.Rows L2 Sw Classical
/-- the first name of a list is in no tail of an end of it -/
theorem tail_not {n : List Nat} {L r : Row} (hn : (n :: L).Nodup) (hs : r.Sublist (n :: L)) : n ∉ r.drop 1 := by
  rw [List.nodup_cons] at hn
  intro hm
  cases hs with
  | cons _ hs => exact hn.1 (hs.subset (List.mem_of_mem_drop hm))
  | cons_cons _ hs => exact hn.1 (hs.subset (by simpa using hm))
theorem step_sub {n : List Nat} {L r : Row} (hn : (n :: L).Nodup) (hs : r.Sublist (n :: L)) : (stepR n r).Sublist L := by
  rw [List.nodup_cons] at hn
  cases hs with
  | cons _ hs =>
    unfold stepR
    split
    · exact (List.drop_sublist _ _).trans hs
    · exact hs
  | cons_cons _ hs =>
    rename_i q
    have : stepR n (n :: q) = q := by simp [stepR]
    rw [this]
    exact hs
theorem hdW_of {P : List Nat → Bool} {n : List Nat} : ∀ {R : List Row}, (∃ q, (n :: q) ∈ R) → P n = false → (∀ a q, (a :: q) ∈ R → a ≠ n → P a = true) → hdW P R = some n
  | [], h, _, _ => by obtain ⟨q, hq⟩ := h; cases hq
  | [] :: R, h, hp, k => by
    obtain ⟨q, hq⟩ := h
    exact hdW_of (R := R) ⟨q, by simpa using hq⟩ hp fun a q hq => k a q (List.mem_cons_of_mem _ hq)
  | (a :: r) :: R, h, hp, k => by
    show (if P a then hdW P R else some a) = some n
    by_cases e : a = n
    · subst e
      rw [hp]
      rfl
    · rw [k a r List.mem_cons_self e, if_pos rfl]
      obtain ⟨q, hq⟩ := h
      refine hdW_of ⟨q, ?_⟩ hp fun a q hq => k a q (List.mem_cons_of_mem _ hq)
      rcases List.mem_cons.mp hq with z | hq
      · exact absurd (List.cons.inj z).1.symm e
      · exact hq
theorem inTl_false {R : List Row} {n : List Nat} (h : ∀ r ∈ R, n ∉ r.drop 1) : inTl R n = false := by
  cases e : inTl R n with
  | false => rfl
  | true =>
    obtain ⟨r, hr, hc⟩ := List.any_eq_true.mp e
    exact absurd (by simpa using hc) (h r hr)
theorem live_of {R : List Row} {a : List Nat} {q : Row} (h : (a :: q) ∈ R) : live R = true := List.any_eq_true.mpr ⟨_, h, rfl⟩
theorem dead_of {R : List Row} (h : ∀ r ∈ R, r = []) : live R = false := by
  cases e : live R with
  | false => rfl
  | true =>
    obtain ⟨r, hr, hf⟩ := List.any_eq_true.mp e
    rw [h r hr] at hf
    cases hf
/-- A: the line itself among rows that it keeps -/
theorem lin_among : ∀ {L : Row} {R : List Row}, L.Nodup → L ∈ R → (∀ r ∈ R, r.Sublist L) → Lin R L
  | [], R, _, _, hs => .nil (dead_of fun r hr => List.eq_nil_of_sublist_nil (hs r hr))
  | n :: L, R, hn, hm, hs => by
    have ht : inTl R n = false := inTl_false fun r hr => tail_not hn (hs r hr)
    refine .cons (live_of hm) (hdW_of ⟨L, hm⟩ ht fun a q hq hne => ?_) (lin_among (List.nodup_cons.mp hn).2 ?_ ?_)
    · have ha : a ∈ n :: L := (hs _ hq).subset List.mem_cons_self
      have ha : a ∈ L := by
        rcases List.mem_cons.mp ha with e | ha
        · exact absurd e hne
        · exact ha
      exact List.any_eq_true.mpr ⟨_, hm, by simpa using ha⟩
    · refine List.mem_map.mpr ⟨_, hm, ?_⟩
      simp [stepR]
    · intro r hr
      obtain ⟨z, hz, rfl⟩ := List.mem_map.mp hr
      exact step_sub hn (hs z hz)
theorem inTl_app {R Q : List Row} {a : List Nat} : inTl (R ++ Q) a = (inTl R a || inTl Q a) := List.any_append
/-- C: one row more that the line keeps -/
theorem lin_more {R : List Row} {L : Row} (h : Lin R L) : ∀ {q : Row}, q.Sublist L → Lin (R ++ [q]) L := by
  induction h with
  | nil h =>
    rename_i R
    intro q hq
    refine .nil ?_
    have := List.eq_nil_of_sublist_nil hq
    subst this
    unfold live at h ⊢
    rw [List.any_append, h]
    rfl
  | cons hl hd h ih =>
    rename_i R n L
    intro q hq
    have hL : Lin R (n :: L) := .cons hl hd h
    have hn := lin_nodup hL
    have ht := tail_not hn hq
    refine .cons ?_ ?_ ?_
    · unfold live at hl ⊢
      rw [List.any_append, hl]
      rfl
    · have hnf : inTl (R ++ [q]) n = false := by
        rw [inTl_app, hd_not hd]
        exact inTl_false fun r hr => by rw [List.mem_singleton.mp hr]; exact ht
      have gen : ∀ {S : List Row}, hdW (inTl R) S = some n → hdW (inTl (R ++ [q])) (S ++ [q]) = some n := by
        intro S
        induction S with
        | nil => intro h; cases h
        | cons s S ihS =>
          intro h
          cases s with
          | nil => exact ihS h
          | cons a z =>
            have h : (if inTl R a then hdW (inTl R) S else some a) = some n := h
            show (if inTl (R ++ [q]) a then hdW (inTl (R ++ [q])) (S ++ [q]) else some a) = some n
            by_cases ha : inTl R a = true
            · rw [if_pos ha] at h
              rw [inTl_app, ha]
              simpa using ihS h
            · rw [if_neg ha] at h
              cases h
              rw [hnf]
              rfl
      exact gen hd
    · rw [List.map_append]
      exact ih (step_sub hn hq)
/-- D: an empty row put in -/
theorem lin_empty {L : Row} : ∀ {T : List Row}, Lin T L → ∀ {A B : List Row}, T = A ++ B → Lin (A ++ [[]] ++ B) L := by
  intro T h
  induction h with
  | nil h =>
    intro A B e
    subst e
    refine .nil ?_
    unfold live at h ⊢
    simp only [List.any_append, List.any_cons, List.any_nil] at h ⊢
    simpa [full] using h
  | cons hl hd h ih =>
    rename_i R n L
    intro A B e
    subst e
    refine .cons ?_ ?_ ?_
    · unfold live at hl ⊢
      simp only [List.any_append, List.any_cons, List.any_nil] at hl ⊢
      simpa [full] using hl
    · have hP : inTl (A ++ [[]] ++ B) = inTl (A ++ B) := by
        funext a
        rw [inTl_app, inTl_app, inTl_app]
        simp [inTl]
      unfold hdOf at hd ⊢
      rw [hP]
      generalize inTl (A ++ B) = P at hd
      clear h ih hl hP
      induction A with
      | nil => exact hd
      | cons s A ihA =>
        cases s with
        | nil => exact ihA hd
        | cons a z =>
          have hd : (if P a then hdW P (A ++ B) else some a) = some n := hd
          show (if P a then hdW P (A ++ [[]] ++ B) else some a) = some n
          split
          · rename_i hp
            rw [if_pos hp] at hd
            exact ihA hd
          · rename_i hp
            rw [if_neg hp] at hd
            exact hd
    · have := ih (A := A.map (stepR n)) (B := B.map (stepR n)) (by rw [List.map_append])
      rw [List.map_append, List.map_append]
      have e : [([] : Row)].map (stepR n) = [[]] := by simp [stepR]
      rw [e]
      exact this
/-- E: the first name left out of all rows -/
theorem lin_fewer {R : List Row} {n : List Nat} {L : Row} (h : Lin R (n :: L)) (hn : ∀ r ∈ R, r.Nodup) : Lin (R.map fun r => r.filter fun a => !(a == n)) L := by
  have hs := (lin_sub h).1
  have hnd := lin_nodup h
  cases h with
  | cons hl hd h =>
    have e : (R.map fun r => r.filter fun a => !(a == n)) = R.map (stepR n) := by
      refine List.map_congr_left fun r hr => ?_
      have ht := tail_not hnd (hs r hr)
      cases r with
      | nil => simp [stepR]
      | cons a q =>
        have hq : q.filter (fun a => !(a == n)) = q := List.filter_eq_self.mpr fun x hx => by
          have : x ≠ n := fun z => ht (by simpa using z ▸ hx)
          simp [this]
        by_cases ha : a = n
        · subst ha
          simp [stepR, hq]
        · simp [stepR, ha, hq]
    rw [e]
    exact h
/-- G: two names the other way about -/
theorem two_ways {a b : List Nat} {L : Row} (hn : L.Nodup) (h1 : [a, b].Sublist L) (h2 : [b, a].Sublist L) : False := by
  have hab : a ≠ b := by
    have := hn.sublist h1
    intro e
    subst e
    simp at this
  have e1 := sub_filter hn h1
  have e2 := sub_filter hn h2
  have : L.filter (fun x => ([a, b] : Row).contains x) = L.filter (fun x => ([b, a] : Row).contains x) := List.filter_congr fun x hx => by
    simp only [List.contains_cons, List.contains_nil, Bool.or_false]
    rw [Bool.or_comm]
  rw [e1, e2] at this
  exact hab (List.cons.inj this).1
/-- H: no ring of ever greater numbers -/
theorem no_round {n : Nat} {f : Nat → Nat} (h0 : 0 < n) (h : ∀ i, i < n → f i < f ((i + 1) % n)) : False := by
  have up : ∀ i, i < n → f 0 + i ≤ f i := by
    intro i
    induction i with
    | zero => intro _; exact Nat.le_refl _
    | succ i ih =>
      intro hi
      have h1 := ih (by omega)
      have h2 := h i (by omega)
      rw [Nat.mod_eq_of_lt hi] at h2
      omega
  have h1 := up (n - 1) (by omega)
  have h2 := h (n - 1) (by omega)
  rw [show n - 1 + 1 = n by omega, Nat.mod_self] at h2
  omega
end Lw
namespace Lw
open PySem PySem.Spec PyProof.Rows L2 Sw Classical
abbrev DemI := List Nat × List Nat × Int
def dI (d : DemI) : T := .tup [.str d.1, .str d.2.1, .int d.2.2]
def CdD (ds : List DemI) : Prop := ∀ d ∈ ds, d.1.all (· < 0x110000) = true ∧ d.2.1.all (· < 0x110000) = true
theorem dat_dI {d : DemI} {n : Nat} (h : d.1.all (· < 0x110000) = true ∧ d.2.1.all (· < 0x110000) = true) : (dI d).dat (n + 1) = true := by
  show T.dats n [.str d.1, .str d.2.1, .int d.2.2] = true
  refine dats_all fun t ht => ?_
  simp only [List.mem_cons, List.not_mem_nil, or_false] at ht
  rcases ht with rfl | rfl | rfl
  · exact dat_str h.1
  · exact dat_str h.2
  · exact dat_int
theorem dat_ds {ds : List DemI} {n : Nat} (h : CdD ds) : (T.fz (ds.map dI)).dat (n + 2) = true := dat_fz fun t ht => by
  obtain ⟨d, hd, rfl⟩ := List.mem_map.mp ht
  exact dat_dI (h d hd)
/-- a demand that the rows have -/
def IsDem (R : List Row) (d : DemI) : Prop := 0 ≤ d.2.2 ∧ ∃ (r : Row) (x y : Nat), R[d.2.2.toNat]? = some r ∧ r[x]? = some d.1 ∧ r[y]? = some d.2.1 ∧ x < y
def Ring (R : List Row) (ds : List DemI) : Prop := ds ≠ [] ∧ (∀ d ∈ ds, IsDem R d) ∧ ∀ (i : Nat) (d e : DemI), ds[i]? = some d → ds[(i + 1) % ds.length]? = some e → e.1 = d.2.1
def Tells (p : Prop) [Decidable p] (S : List Ob) (t : T) (S' : List Ob) : Prop := t = .bl (decide p) ∧ S' = S
theorem asg_3 {i j k : Nat} {t u w : T} {σ : List Sl} : asgT (.tu [.nm i, .nm j, .nm k]) (.tup [t, u, w]) σ = some (((σ.set i (.val t)).set j (.val u)).set k (.val w)) := rfl
theorem asg_e {i : Nat} {d : DemI} {σ : List Sl} : asgT (.tu [.nm 2, .tu [.nm 3, .nm 4, .nm 5]]) (.tup [.int (i : Nat), dI d]) σ = some ((((σ.set 2 (.val (.int i))).set 3 (.val (.str d.1))).set 4 (.val (.str d.2.1))).set 5 (.val (.int d.2.2))) := rfl
theorem row_at {R : List Row} {k : Int} (h0 : 0 ≤ k) (h : k < (R.length : Nat)) : ∃ r, R[k.toNat]? = some r ∧ r ∈ R ∧ ixU (.fz (R.map sR)) (.int k) = some (.fz (r.map .str)) := by
  have hk : k.toNat < R.length := by omega
  refine ⟨R[k.toNat], List.getElem?_eq_getElem hk, List.getElem_mem _, ?_⟩
  rw [ix_i h0, List.getElem?_map, List.getElem?_eq_getElem hk]
  rfl
theorem mem_at {r : Row} {a : List Nat} (h : r.contains a = true) : ∃ x : Nat, r[x]? = some a := List.getElem?_of_mem (by simpa using h)
theorem isDem_iff {R : List Row} {d : DemI} {r : Row} {x y : Nat} (hn : r.Nodup) (h0 : 0 ≤ d.2.2) (hr : R[d.2.2.toNat]? = some r) (hx : r[x]? = some d.1) (hy : r[y]? = some d.2.1) : IsDem R d ↔ x < y := by
  refine ⟨fun ⟨_, r', x', y', h1, h2, h3, h4⟩ => ?_, fun h => ⟨h0, r, x, y, hr, hx, hy, h⟩⟩
  rw [hr] at h1
  cases h1
  have e1 := (List.getElem?_inj (List.getElem?_eq_some_iff.mp hx).1 hn).mp (hx.trans h2.symm)
  have e2 := (List.getElem?_inj (List.getElem?_eq_some_iff.mp hy).1 hn).mp (hy.trans h3.symm)
  omega
theorem is_demand_ok {S : List Ob} {R : List Row} {d : DemI} (hg : GdRs R) (hc : d.1.all (· < 0x110000) = true ∧ d.2.1.all (· < 0x110000) = true) : Fw m_is_demand [.fz (R.map sR), dI d] S (Tells (IsDem R d) S) := by
  unfold m_is_demand
  rw [Fw_fnM]
  unfold b_is_demand
  refine W_seq (fun st1 => st1 = ⟨[.val (.fz (R.map sR)), .val (dI d), .val (.str d.1), .val (.str d.2.1), .val (.int d.2.2)], S⟩) ?_ ?_
  · simp only [W_pure, W_ofO, W_eVar, W_oVar, W_eFrz, W_oE, W_eOp2, W_eChain, W_asB, W_bNot, W_bAnd, W_bOr, W_eNot, W_eAnd, W_eOr, W_eIf, W_eNeg, W_aNil, W_aCons, W_oNil, W_oCons, W_eTup, W_fLst, W_eFz, W_eBox, W_fDic, W_eCall, W_fCall, W_pNo, W_pSome, W_eSliceU, W_fSlice, W_fRev, W_eLst, W_eLst0, W_mVar, W_mRef, W_eMeth, W_eFn, W_cSeq, W_cRet, W_cExpr, W_cIf, W_cSet, W_cOwn, W_cUnp, W_cSetIx, W_cPut, W_iU, W_iVar, W_iRange, W_iEnumU, W_iZipU, W_cFor, W_bYes, Op_some, Op_none, Op_ite, Op_map, Op_bind, Op_rdAll, rdAll_nil, Bw_bl, rVar, peekS, peekT, pVar, pRef, Lw_lst, setS, lstAt_fz, lenO_fz, lenO_str, list_fz, wipe_1, wipe_2, rest_1, rest_2, List.all_cons, List.all_nil, notOwn, W_fComp, asg_2, asg_n, turn_n, turn_c, turn_b, turn_r, List.getElem?_cons_zero, List.getElem?_cons_succ, List.getElem?_nil, List.set_cons_zero, List.set_cons_succ, List.map_cons, List.map_nil, List.cons_append, List.nil_append, List.length_cons, List.length_nil, Option.getD_some, Bool.and_true, Bool.and_self, Option.bind_some, Option.map_some, List.replicate_succ, List.replicate_zero, decide_eq_true_eq, Bool.not_true, Bool.not_false, Bool.not_eq_true', if_true, if_false, reduceIte, reduceCtorEq, Nat.reduceAdd, Nat.reduceSub, Nat.reduceLeDiff, true_and, and_true]
    exact Op.of asg_3 rfl
  rintro _ rfl
  by_cases h : 0 ≤ d.2.2 ∧ d.2.2 < (R.length : Nat)
  · obtain ⟨h0, h1⟩ := h
    obtain ⟨r, hr, hm, hix⟩ := row_at h0 h1
    have hn := (hg.2 r hm).1
    by_cases hb : r.contains d.1 = true ∧ r.contains d.2.1 = true
    · obtain ⟨x, hx⟩ := mem_at hb.1
      obtain ⟨y, hy⟩ := mem_at hb.2
      refine W_seq (fun st1 => st1 = ⟨[.val (.fz (R.map sR)), .val (dI d), .val (.str d.1), .val (.str d.2.1), .val (.int d.2.2)], S⟩) ?_ ?_
      · refine W_if false ?_ (fun h => by cases h) ?_
        · simp only [W_pure, W_ofO, W_eVar, W_oVar, W_eFrz, W_oE, W_eOp2, W_eChain, W_asB, W_bNot, W_bAnd, W_bOr, W_eNot, W_eAnd, W_eOr, W_eIf, W_eNeg, W_aNil, W_aCons, W_oNil, W_oCons, W_eTup, W_fLst, W_eFz, W_eBox, W_fDic, W_eCall, W_fCall, W_pNo, W_pSome, W_eSliceU, W_fSlice, W_fRev, W_eLst, W_eLst0, W_mVar, W_mRef, W_eMeth, W_eFn, W_cSeq, W_cRet, W_cExpr, W_cIf, W_cSet, W_cOwn, W_cUnp, W_cSetIx, W_cPut, W_iU, W_iVar, W_iRange, W_iEnumU, W_iZipU, W_cFor, W_bYes, Op_some, Op_none, Op_ite, Op_map, Op_bind, Op_rdAll, rdAll_nil, Bw_bl, rVar, peekS, peekT, pVar, pRef, Lw_lst, setS, lstAt_fz, lenO_fz, lenO_str, list_fz, wipe_1, wipe_2, rest_1, rest_2, List.all_cons, List.all_nil, notOwn, W_fComp, asg_2, asg_n, turn_n, turn_c, turn_b, turn_r, List.getElem?_cons_zero, List.getElem?_cons_succ, List.getElem?_nil, List.set_cons_zero, List.set_cons_succ, List.map_cons, List.map_nil, List.cons_append, List.nil_append, List.length_cons, List.length_nil, Option.getD_some, Bool.and_true, Bool.and_self, Option.bind_some, Option.map_some, List.replicate_succ, List.replicate_zero, decide_eq_true_eq, Bool.not_true, Bool.not_false, Bool.not_eq_true', if_true, if_false, reduceIte, reduceCtorEq, Nat.reduceAdd, Nat.reduceSub, Nat.reduceLeDiff, true_and, and_true, List.length_map, le_i, lt_i, h0, h1, decide_true, hix, nin_cd hn.2 hc.1, nin_cd hn.2 hc.2, hb.1, hb.2, Bool.false_eq_true]
        · intro _
          simp only [W_pure, W_ofO, W_eVar, W_oVar, W_eFrz, W_oE, W_eOp2, W_eChain, W_asB, W_bNot, W_bAnd, W_bOr, W_eNot, W_eAnd, W_eOr, W_eIf, W_eNeg, W_aNil, W_aCons, W_oNil, W_oCons, W_eTup, W_fLst, W_eFz, W_eBox, W_fDic, W_eCall, W_fCall, W_pNo, W_pSome, W_eSliceU, W_fSlice, W_fRev, W_eLst, W_eLst0, W_mVar, W_mRef, W_eMeth, W_eFn, W_cSeq, W_cRet, W_cExpr, W_cIf, W_cSet, W_cOwn, W_cUnp, W_cSetIx, W_cPut, W_iU, W_iVar, W_iRange, W_iEnumU, W_iZipU, W_cFor, W_bYes, Op_some, Op_none, Op_ite, Op_map, Op_bind, Op_rdAll, rdAll_nil, Bw_bl, rVar, peekS, peekT, pVar, pRef, Lw_lst, setS, lstAt_fz, lenO_fz, lenO_str, list_fz, wipe_1, wipe_2, rest_1, rest_2, List.all_cons, List.all_nil, notOwn, W_fComp, asg_2, asg_n, turn_n, turn_c, turn_b, turn_r, List.getElem?_cons_zero, List.getElem?_cons_succ, List.getElem?_nil, List.set_cons_zero, List.set_cons_succ, List.map_cons, List.map_nil, List.cons_append, List.nil_append, List.length_cons, List.length_nil, Option.getD_some, Bool.and_true, Bool.and_self, Option.bind_some, Option.map_some, List.replicate_succ, List.replicate_zero, decide_eq_true_eq, Bool.not_true, Bool.not_false, Bool.not_eq_true', if_true, if_false, reduceIte, reduceCtorEq, Nat.reduceAdd, Nat.reduceSub, Nat.reduceLeDiff, true_and, and_true]
      rintro _ rfl
      simp only [W_pure, W_ofO, W_eVar, W_oVar, W_eFrz, W_oE, W_eOp2, W_eChain, W_asB, W_bNot, W_bAnd, W_bOr, W_eNot, W_eAnd, W_eOr, W_eIf, W_eNeg, W_aNil, W_aCons, W_oNil, W_oCons, W_eTup, W_fLst, W_eFz, W_eBox, W_fDic, W_eCall, W_fCall, W_pNo, W_pSome, W_eSliceU, W_fSlice, W_fRev, W_eLst, W_eLst0, W_mVar, W_mRef, W_eMeth, W_eFn, W_cSeq, W_cRet, W_cExpr, W_cIf, W_cSet, W_cOwn, W_cUnp, W_cSetIx, W_cPut, W_iU, W_iVar, W_iRange, W_iEnumU, W_iZipU, W_cFor, W_bYes, Op_some, Op_none, Op_ite, Op_map, Op_bind, Op_rdAll, rdAll_nil, Bw_bl, rVar, peekS, peekT, pVar, pRef, Lw_lst, setS, lstAt_fz, lenO_fz, lenO_str, list_fz, wipe_1, wipe_2, rest_1, rest_2, List.all_cons, List.all_nil, notOwn, W_fComp, asg_2, asg_n, turn_n, turn_c, turn_b, turn_r, List.getElem?_cons_zero, List.getElem?_cons_succ, List.getElem?_nil, List.set_cons_zero, List.set_cons_succ, List.map_cons, List.map_nil, List.cons_append, List.nil_append, List.length_cons, List.length_nil, Option.getD_some, Bool.and_true, Bool.and_self, Option.bind_some, Option.map_some, List.replicate_succ, List.replicate_zero, decide_eq_true_eq, Bool.not_true, Bool.not_false, Bool.not_eq_true', if_true, if_false, reduceIte, reduceCtorEq, Nat.reduceAdd, Nat.reduceSub, Nat.reduceLeDiff, true_and, and_true, hix, tyl, index_row hn hx, index_row hn hy, lt_i]
      refine ⟨?_, rfl⟩
      congr 1
      rw [decide_eq_decide, isDem_iff hn.1 h0 hr hx hy]
      omega
    · rw [W_cSeq]
      refine W_if true ?_ ?_ (fun h => by cases h)
      · simp only [W_pure, W_ofO, W_eVar, W_oVar, W_eFrz, W_oE, W_eOp2, W_eChain, W_asB, W_bNot, W_bAnd, W_bOr, W_eNot, W_eAnd, W_eOr, W_eIf, W_eNeg, W_aNil, W_aCons, W_oNil, W_oCons, W_eTup, W_fLst, W_eFz, W_eBox, W_fDic, W_eCall, W_fCall, W_pNo, W_pSome, W_eSliceU, W_fSlice, W_fRev, W_eLst, W_eLst0, W_mVar, W_mRef, W_eMeth, W_eFn, W_cSeq, W_cRet, W_cExpr, W_cIf, W_cSet, W_cOwn, W_cUnp, W_cSetIx, W_cPut, W_iU, W_iVar, W_iRange, W_iEnumU, W_iZipU, W_cFor, W_bYes, Op_some, Op_none, Op_ite, Op_map, Op_bind, Op_rdAll, rdAll_nil, Bw_bl, rVar, peekS, peekT, pVar, pRef, Lw_lst, setS, lstAt_fz, lenO_fz, lenO_str, list_fz, wipe_1, wipe_2, rest_1, rest_2, List.all_cons, List.all_nil, notOwn, W_fComp, asg_2, asg_n, turn_n, turn_c, turn_b, turn_r, List.getElem?_cons_zero, List.getElem?_cons_succ, List.getElem?_nil, List.set_cons_zero, List.set_cons_succ, List.map_cons, List.map_nil, List.cons_append, List.nil_append, List.length_cons, List.length_nil, Option.getD_some, Bool.and_true, Bool.and_self, Option.bind_some, Option.map_some, List.replicate_succ, List.replicate_zero, decide_eq_true_eq, Bool.not_true, Bool.not_false, Bool.not_eq_true', if_true, if_false, reduceIte, reduceCtorEq, Nat.reduceAdd, Nat.reduceSub, Nat.reduceLeDiff, true_and, and_true, List.length_map, le_i, lt_i, h0, h1, decide_true, hix, nin_cd hn.2 hc.1, nin_cd hn.2 hc.2, Bool.false_eq_true]
        cases c1 : r.contains d.1 <;> cases c2 : r.contains d.2.1 <;> simp_all
      · intro _
        simp only [W_pure, W_ofO, W_eVar, W_oVar, W_eFrz, W_oE, W_eOp2, W_eChain, W_asB, W_bNot, W_bAnd, W_bOr, W_eNot, W_eAnd, W_eOr, W_eIf, W_eNeg, W_aNil, W_aCons, W_oNil, W_oCons, W_eTup, W_fLst, W_eFz, W_eBox, W_fDic, W_eCall, W_fCall, W_pNo, W_pSome, W_eSliceU, W_fSlice, W_fRev, W_eLst, W_eLst0, W_mVar, W_mRef, W_eMeth, W_eFn, W_cSeq, W_cRet, W_cExpr, W_cIf, W_cSet, W_cOwn, W_cUnp, W_cSetIx, W_cPut, W_iU, W_iVar, W_iRange, W_iEnumU, W_iZipU, W_cFor, W_bYes, Op_some, Op_none, Op_ite, Op_map, Op_bind, Op_rdAll, rdAll_nil, Bw_bl, rVar, peekS, peekT, pVar, pRef, Lw_lst, setS, lstAt_fz, lenO_fz, lenO_str, list_fz, wipe_1, wipe_2, rest_1, rest_2, List.all_cons, List.all_nil, notOwn, W_fComp, asg_2, asg_n, turn_n, turn_c, turn_b, turn_r, List.getElem?_cons_zero, List.getElem?_cons_succ, List.getElem?_nil, List.set_cons_zero, List.set_cons_succ, List.map_cons, List.map_nil, List.cons_append, List.nil_append, List.length_cons, List.length_nil, Option.getD_some, Bool.and_true, Bool.and_self, Option.bind_some, Option.map_some, List.replicate_succ, List.replicate_zero, decide_eq_true_eq, Bool.not_true, Bool.not_false, Bool.not_eq_true', if_true, if_false, reduceIte, reduceCtorEq, Nat.reduceAdd, Nat.reduceSub, Nat.reduceLeDiff, true_and, and_true]
        refine ⟨?_, rfl⟩
        congr 1
        symm
        rw [decide_eq_false_iff_not]
        rintro ⟨_, r', x', y', h1, h2, h3, h4⟩
        rw [hr] at h1
        cases h1
        exact hb ⟨by simpa using List.mem_of_getElem? h2, by simpa using List.mem_of_getElem? h3⟩
  · rw [W_cSeq]
    refine W_if true ?_ ?_ (fun h => by cases h)
    · simp only [W_pure, W_ofO, W_eVar, W_oVar, W_eFrz, W_oE, W_eOp2, W_eChain, W_asB, W_bNot, W_bAnd, W_bOr, W_eNot, W_eAnd, W_eOr, W_eIf, W_eNeg, W_aNil, W_aCons, W_oNil, W_oCons, W_eTup, W_fLst, W_eFz, W_eBox, W_fDic, W_eCall, W_fCall, W_pNo, W_pSome, W_eSliceU, W_fSlice, W_fRev, W_eLst, W_eLst0, W_mVar, W_mRef, W_eMeth, W_eFn, W_cSeq, W_cRet, W_cExpr, W_cIf, W_cSet, W_cOwn, W_cUnp, W_cSetIx, W_cPut, W_iU, W_iVar, W_iRange, W_iEnumU, W_iZipU, W_cFor, W_bYes, Op_some, Op_none, Op_ite, Op_map, Op_bind, Op_rdAll, rdAll_nil, Bw_bl, rVar, peekS, peekT, pVar, pRef, Lw_lst, setS, lstAt_fz, lenO_fz, lenO_str, list_fz, wipe_1, wipe_2, rest_1, rest_2, List.all_cons, List.all_nil, notOwn, W_fComp, asg_2, asg_n, turn_n, turn_c, turn_b, turn_r, List.getElem?_cons_zero, List.getElem?_cons_succ, List.getElem?_nil, List.set_cons_zero, List.set_cons_succ, List.map_cons, List.map_nil, List.cons_append, List.nil_append, List.length_cons, List.length_nil, Option.getD_some, Bool.and_true, Bool.and_self, Option.bind_some, Option.map_some, List.replicate_succ, List.replicate_zero, decide_eq_true_eq, Bool.not_true, Bool.not_false, Bool.not_eq_true', if_true, if_false, reduceIte, reduceCtorEq, Nat.reduceAdd, Nat.reduceSub, Nat.reduceLeDiff, true_and, and_true, List.length_map, le_i, lt_i]
      by_cases h0 : 0 ≤ d.2.2
      · have h1 : ¬ d.2.2 < (R.length : Nat) := fun z => h ⟨h0, z⟩
        simp [h0, h1, W_pure, W_oE, W_eCall, W_oCons, W_oNil, W_oVar, Op_rdAll, rdAll_nil, Op_some, peekT, rVar, peekS, lenO_fz, lt_i, Bw_bl]
      · simp [h0, Bw_bl]
    · intro _
      simp only [W_pure, W_ofO, W_eVar, W_oVar, W_eFrz, W_oE, W_eOp2, W_eChain, W_asB, W_bNot, W_bAnd, W_bOr, W_eNot, W_eAnd, W_eOr, W_eIf, W_eNeg, W_aNil, W_aCons, W_oNil, W_oCons, W_eTup, W_fLst, W_eFz, W_eBox, W_fDic, W_eCall, W_fCall, W_pNo, W_pSome, W_eSliceU, W_fSlice, W_fRev, W_eLst, W_eLst0, W_mVar, W_mRef, W_eMeth, W_eFn, W_cSeq, W_cRet, W_cExpr, W_cIf, W_cSet, W_cOwn, W_cUnp, W_cSetIx, W_cPut, W_iU, W_iVar, W_iRange, W_iEnumU, W_iZipU, W_cFor, W_bYes, Op_some, Op_none, Op_ite, Op_map, Op_bind, Op_rdAll, rdAll_nil, Bw_bl, rVar, peekS, peekT, pVar, pRef, Lw_lst, setS, lstAt_fz, lenO_fz, lenO_str, list_fz, wipe_1, wipe_2, rest_1, rest_2, List.all_cons, List.all_nil, notOwn, W_fComp, asg_2, asg_n, turn_n, turn_c, turn_b, turn_r, List.getElem?_cons_zero, List.getElem?_cons_succ, List.getElem?_nil, List.set_cons_zero, List.set_cons_succ, List.map_cons, List.map_nil, List.cons_append, List.nil_append, List.length_cons, List.length_nil, Option.getD_some, Bool.and_true, Bool.and_self, Option.bind_some, Option.map_some, List.replicate_succ, List.replicate_zero, decide_eq_true_eq, Bool.not_true, Bool.not_false, Bool.not_eq_true', if_true, if_false, reduceIte, reduceCtorEq, Nat.reduceAdd, Nat.reduceSub, Nat.reduceLeDiff, true_and, and_true]
      refine ⟨?_, rfl⟩
      congr 1
      symm
      rw [decide_eq_false_iff_not]
      rintro ⟨h0, r', x', y', h1, h2, h3, h4⟩
      have := (List.getElem?_eq_some_iff.mp h1).1
      exact h ⟨h0, by omega⟩
end Lw
namespace Lw
open PySem PySem.Spec PyProof.Rows L2 Sw Classical
def prev (j n : Nat) : Nat := if j = 0 then n - 1 else j - 1
def RingP (R : List Row) (ds : List DemI) (j : Nat) : Prop := ∀ d e, ds[j]? = some d → ds[prev j ds.length]? = some e → IsDem R d ∧ e.2.1 = d.1
def RingN (R : List Row) (ds : List DemI) (j : Nat) : Prop := ∀ d e, ds[j]? = some d → ds[(j + 1) % ds.length]? = some e → IsDem R d ∧ e.1 = d.2.1
theorem prev_lt {j n : Nat} (h : j < n) : prev j n < n := by unfold prev; split <;> omega
theorem next_lt {j n : Nat} (h : j < n) : (j + 1) % n < n := Nat.mod_lt _ (by omega)
theorem prev_next {j n : Nat} (h : j < n) : prev ((j + 1) % n) n = j := by
  by_cases e : j + 1 = n
  · rw [e, Nat.mod_self]; unfold prev; rw [if_pos rfl]; omega
  · rw [Nat.mod_eq_of_lt (by omega)]; unfold prev; rw [if_neg (by omega)]; omega
theorem next_prev {j n : Nat} (h : j < n) : (prev j n + 1) % n = j := by
  unfold prev
  split
  · rw [show n - 1 + 1 = n by omega, Nat.mod_self]; omega
  · rw [show j - 1 + 1 = j by omega, Nat.mod_eq_of_lt h]
theorem ring_n {R : List Row} {ds : List DemI} (h : ds ≠ []) : Ring R ds ↔ ∀ j, RingN R ds j := by
  refine ⟨fun ⟨_, h1, h2⟩ j d e hd he => ⟨h1 d (List.mem_of_getElem? hd), h2 j d e hd he⟩, fun k => ⟨h, fun d hd => ?_, fun i d e hd he => (k i d e hd he).2⟩⟩
  obtain ⟨j, hj⟩ := List.getElem?_of_mem hd
  have hl := (List.getElem?_eq_some_iff.mp hj).1
  exact (k j d _ hj (List.getElem?_eq_getElem (next_lt hl))).1
theorem ring_p {R : List Row} {ds : List DemI} (h : ds ≠ []) : Ring R ds ↔ ∀ j, RingP R ds j := by
  rw [ring_n h]
  refine ⟨fun k j d e hd he => ?_, fun k j d e hd he => ?_⟩
  · have hl := (List.getElem?_eq_some_iff.mp hd).1
    have hp := prev_lt hl
    have h1 := k (prev j ds.length) e d he (by rw [next_prev hl]; exact hd)
    exact ⟨(k j d _ hd (List.getElem?_eq_getElem (next_lt hl))).1, h1.2.symm⟩
  · have hl := (List.getElem?_eq_some_iff.mp hd).1
    have h1 := k ((j + 1) % ds.length) e d he (by rw [prev_next hl]; exact hd)
    exact ⟨(k j d _ hd (List.getElem?_eq_getElem (prev_lt hl))).1, h1.2.symm⟩
theorem ix_last {ts : List T} : ixU (.fz ts) (.int (-1)) = ts[ts.length - 1]? := by
  show atI ts (-1) = _
  unfold atI ixN
  rw [if_neg (by decide)]
  by_cases h : 0 < ts.length
  · rw [if_pos (by omega)]
    show ts[((-1 : Int) + (ts.length : Nat)).toNat]? = _
    congr 1
    omega
  · rw [if_neg (by omega), List.getElem?_eq_none (by omega)]
    rfl
theorem ix_prev {ts : List T} {j : Nat} : ixU (.fz ts) (.int ((j : Int) - 1)) = ts[prev j ts.length]? := by
  unfold prev
  by_cases h : j = 0
  · subst h
    rw [if_pos rfl]
    exact ix_last
  · rw [if_neg h, show (j : Int) - 1 = ((j - 1 : Nat) : Int) by omega]
    exact ix_n
theorem is_ring_p {S : List Ob} {R : List Row} {ds : List DemI} (hg : GdRs R) (hc : CdD ds) : Fw m_is_ring [.fz (R.map sR), .fz (ds.map dI)] S (Tells (Ring R ds) S) := by
  unfold m_is_ring
  rw [Fw_fnM]
  unfold b_is_ring
  by_cases hne : ds = []
  · subst hne
    rw [W_cSeq]
    refine W_if true ?_ ?_ (fun h => by cases h)
    · simp only [W_pure, W_ofO, W_eVar, W_oVar, W_eFrz, W_oE, W_eOp2, W_eChain, W_asB, W_bNot, W_bAnd, W_bOr, W_eNot, W_eAnd, W_eOr, W_eIf, W_eNeg, W_aNil, W_aCons, W_oNil, W_oCons, W_eTup, W_fLst, W_eFz, W_eBox, W_fDic, W_eCall, W_fCall, W_pNo, W_pSome, W_eSliceU, W_fSlice, W_fRev, W_eLst, W_eLst0, W_mVar, W_mRef, W_eMeth, W_eFn, W_cSeq, W_cRet, W_cExpr, W_cIf, W_cSet, W_cOwn, W_cUnp, W_cSetIx, W_cPut, W_iU, W_iVar, W_iRange, W_iEnumU, W_iZipU, W_cFor, W_bYes, Op_some, Op_none, Op_ite, Op_map, Op_bind, Op_rdAll, rdAll_nil, Bw_bl, rVar, peekS, peekT, pVar, pRef, Lw_lst, setS, lstAt_fz, lenO_fz, lenO_str, list_fz, wipe_1, wipe_2, rest_1, rest_2, List.all_cons, List.all_nil, notOwn, W_fComp, asg_2, asg_n, turn_n, turn_c, turn_b, turn_r, List.getElem?_cons_zero, List.getElem?_cons_succ, List.getElem?_nil, List.set_cons_zero, List.set_cons_succ, List.map_cons, List.map_nil, List.cons_append, List.nil_append, List.length_cons, List.length_nil, Option.getD_some, Bool.and_true, Bool.and_self, Option.bind_some, Option.map_some, List.replicate_succ, List.replicate_zero, decide_eq_true_eq, Bool.not_true, Bool.not_false, Bool.not_eq_true', if_true, if_false, reduceIte, reduceCtorEq, Nat.reduceAdd, Nat.reduceSub, Nat.reduceLeDiff, true_and, and_true, eq_i]
      decide
    · intro _
      simp only [W_pure, W_ofO, W_eVar, W_oVar, W_eFrz, W_oE, W_eOp2, W_eChain, W_asB, W_bNot, W_bAnd, W_bOr, W_eNot, W_eAnd, W_eOr, W_eIf, W_eNeg, W_aNil, W_aCons, W_oNil, W_oCons, W_eTup, W_fLst, W_eFz, W_eBox, W_fDic, W_eCall, W_fCall, W_pNo, W_pSome, W_eSliceU, W_fSlice, W_fRev, W_eLst, W_eLst0, W_mVar, W_mRef, W_eMeth, W_eFn, W_cSeq, W_cRet, W_cExpr, W_cIf, W_cSet, W_cOwn, W_cUnp, W_cSetIx, W_cPut, W_iU, W_iVar, W_iRange, W_iEnumU, W_iZipU, W_cFor, W_bYes, Op_some, Op_none, Op_ite, Op_map, Op_bind, Op_rdAll, rdAll_nil, Bw_bl, rVar, peekS, peekT, pVar, pRef, Lw_lst, setS, lstAt_fz, lenO_fz, lenO_str, list_fz, wipe_1, wipe_2, rest_1, rest_2, List.all_cons, List.all_nil, notOwn, W_fComp, asg_2, asg_n, turn_n, turn_c, turn_b, turn_r, List.getElem?_cons_zero, List.getElem?_cons_succ, List.getElem?_nil, List.set_cons_zero, List.set_cons_succ, List.map_cons, List.map_nil, List.cons_append, List.nil_append, List.length_cons, List.length_nil, Option.getD_some, Bool.and_true, Bool.and_self, Option.bind_some, Option.map_some, List.replicate_succ, List.replicate_zero, decide_eq_true_eq, Bool.not_true, Bool.not_false, Bool.not_eq_true', if_true, if_false, reduceIte, reduceCtorEq, Nat.reduceAdd, Nat.reduceSub, Nat.reduceLeDiff, true_and, and_true]
      exact ⟨by congr 1; symm; rw [decide_eq_false_iff_not]; exact fun z => z.1 rfl, rfl⟩
  have hl0 : 0 < ds.length := List.length_pos_iff.mpr hne
  refine W_seq (fun st1 => st1 = ⟨[.val (.fz (R.map sR)), .val (.fz (ds.map dI)), .emp, .emp], S⟩) ?_ ?_
  · refine W_if false ?_ (fun h => by cases h) ?_
    · simp only [W_pure, W_ofO, W_eVar, W_oVar, W_eFrz, W_oE, W_eOp2, W_eChain, W_asB, W_bNot, W_bAnd, W_bOr, W_eNot, W_eAnd, W_eOr, W_eIf, W_eNeg, W_aNil, W_aCons, W_oNil, W_oCons, W_eTup, W_fLst, W_eFz, W_eBox, W_fDic, W_eCall, W_fCall, W_pNo, W_pSome, W_eSliceU, W_fSlice, W_fRev, W_eLst, W_eLst0, W_mVar, W_mRef, W_eMeth, W_eFn, W_cSeq, W_cRet, W_cExpr, W_cIf, W_cSet, W_cOwn, W_cUnp, W_cSetIx, W_cPut, W_iU, W_iVar, W_iRange, W_iEnumU, W_iZipU, W_cFor, W_bYes, Op_some, Op_none, Op_ite, Op_map, Op_bind, Op_rdAll, rdAll_nil, Bw_bl, rVar, peekS, peekT, pVar, pRef, Lw_lst, setS, lstAt_fz, lenO_fz, lenO_str, list_fz, wipe_1, wipe_2, rest_1, rest_2, List.all_cons, List.all_nil, notOwn, W_fComp, asg_2, asg_n, turn_n, turn_c, turn_b, turn_r, List.getElem?_cons_zero, List.getElem?_cons_succ, List.getElem?_nil, List.set_cons_zero, List.set_cons_succ, List.map_cons, List.map_nil, List.cons_append, List.nil_append, List.length_cons, List.length_nil, Option.getD_some, Bool.and_true, Bool.and_self, Option.bind_some, Option.map_some, List.replicate_succ, List.replicate_zero, decide_eq_true_eq, Bool.not_true, Bool.not_false, Bool.not_eq_true', if_true, if_false, reduceIte, reduceCtorEq, Nat.reduceAdd, Nat.reduceSub, Nat.reduceLeDiff, true_and, and_true, eq_i, List.length_map]
      simpa using hne
    · intro _
      simp only [W_pure, W_ofO, W_eVar, W_oVar, W_eFrz, W_oE, W_eOp2, W_eChain, W_asB, W_bNot, W_bAnd, W_bOr, W_eNot, W_eAnd, W_eOr, W_eIf, W_eNeg, W_aNil, W_aCons, W_oNil, W_oCons, W_eTup, W_fLst, W_eFz, W_eBox, W_fDic, W_eCall, W_fCall, W_pNo, W_pSome, W_eSliceU, W_fSlice, W_fRev, W_eLst, W_eLst0, W_mVar, W_mRef, W_eMeth, W_eFn, W_cSeq, W_cRet, W_cExpr, W_cIf, W_cSet, W_cOwn, W_cUnp, W_cSetIx, W_cPut, W_iU, W_iVar, W_iRange, W_iEnumU, W_iZipU, W_cFor, W_bYes, Op_some, Op_none, Op_ite, Op_map, Op_bind, Op_rdAll, rdAll_nil, Bw_bl, rVar, peekS, peekT, pVar, pRef, Lw_lst, setS, lstAt_fz, lenO_fz, lenO_str, list_fz, wipe_1, wipe_2, rest_1, rest_2, List.all_cons, List.all_nil, notOwn, W_fComp, asg_2, asg_n, turn_n, turn_c, turn_b, turn_r, List.getElem?_cons_zero, List.getElem?_cons_succ, List.getElem?_nil, List.set_cons_zero, List.set_cons_succ, List.map_cons, List.map_nil, List.cons_append, List.nil_append, List.length_cons, List.length_nil, Option.getD_some, Bool.and_true, Bool.and_self, Option.bind_some, Option.map_some, List.replicate_succ, List.replicate_zero, decide_eq_true_eq, Bool.not_true, Bool.not_false, Bool.not_eq_true', if_true, if_false, reduceIte, reduceCtorEq, Nat.reduceAdd, Nat.reduceSub, Nat.reduceLeDiff, true_and, and_true]
  rintro _ rfl
  rw [W_cSeq, W_cFor]
  have hla : lstAt S (.fz (ds.map dI)) = some (ds.map dI) := rfl
  simp only [W_iEnumU, W_aCons, W_aNil, W_eVar, List.getElem?_cons_zero, List.getElem?_cons_succ, List.getElem?_nil, List.set_cons_zero, List.set_cons_succ, List.map_cons, List.map_nil, List.cons_append, List.nil_append, List.length_cons, List.length_nil, Option.getD_some, Bool.and_true, Bool.and_self, Option.bind_some, Option.map_some, List.replicate_succ, List.replicate_zero, decide_eq_true_eq, Bool.not_true, Bool.not_false, Bool.not_eq_true', if_true, if_false, reduceIte, reduceCtorEq, Nat.reduceAdd, Nat.reduceSub, Nat.reduceLeDiff, true_and, and_true, hla, Op_some]
  refine W_forL (fun i st1 => (∀ j, j < i → RingP R ds j) ∧ ∃ s2 s3, st1 = ⟨[.val (.fz (R.map sR)), .val (.fz (ds.map dI)), s2, s3], S⟩) _ 0 _ ⟨fun j h => absurd h (by omega), _, _, rfl⟩ ?_ ?_
  · rintro i t _ ht ⟨hI, s2, s3, rfl⟩
    rw [Nat.zero_add] at hI ⊢
    obtain ⟨u, hu, rfl⟩ := enum_get ht
    rw [List.getElem?_map] at hu
    obtain ⟨d, hd, rfl⟩ := Option.map_eq_some_iff.mp hu
    have hil := (List.getElem?_eq_some_iff.mp hd).1
    have hpl := prev_lt hil
    have he : ds[prev i ds.length]? = some ds[prev i ds.length] := List.getElem?_eq_getElem hpl
    generalize ds[prev i ds.length] = e at he
    have hcd := hc d (List.mem_of_getElem? hd)
    have hce := hc e (List.mem_of_getElem? he)
    have hix : (ds.map dI)[prev i (ds.map dI).length]? = some (dI e) := by rw [List.length_map, List.getElem?_map, he]; rfl
    have hgood : RingP R ds i ↔ IsDem R d ∧ e.2.1 = d.1 := by
      refine ⟨fun k => k d e hd he, fun k d' e' hd' he' => ?_⟩
      rw [hd] at hd'
      rw [he] at he'
      cases hd'
      cases he'
      exact k
    refine ⟨rfl, Op.of asg_2 ?_⟩
    simp only [List.getElem?_cons_zero, List.getElem?_cons_succ, List.getElem?_nil, List.set_cons_zero, List.set_cons_succ, List.map_cons, List.map_nil, List.cons_append, List.nil_append, List.length_cons, List.length_nil, Option.getD_some, Bool.and_true, Bool.and_self, Option.bind_some, Option.map_some, List.replicate_succ, List.replicate_zero, decide_eq_true_eq, Bool.not_true, Bool.not_false, Bool.not_eq_true', if_true, if_false, reduceIte, reduceCtorEq, Nat.reduceAdd, Nat.reduceSub, Nat.reduceLeDiff, true_and, and_true]
    refine W_if (!decide (IsDem R d ∧ e.2.1 = d.1)) ?_ ?_ ?_
    · simp only [W_pure, W_ofO, W_eVar, W_oVar, W_eFrz, W_oE, W_eOp2, W_eChain, W_asB, W_bNot, W_bAnd, W_bOr, W_eNot, W_eAnd, W_eOr, W_eIf, W_eNeg, W_aNil, W_aCons, W_oNil, W_oCons, W_eTup, W_fLst, W_eFz, W_eBox, W_fDic, W_eCall, W_fCall, W_pNo, W_pSome, W_eSliceU, W_fSlice, W_fRev, W_eLst, W_eLst0, W_mVar, W_mRef, W_eMeth, W_eFn, W_cSeq, W_cRet, W_cExpr, W_cIf, W_cSet, W_cOwn, W_cUnp, W_cSetIx, W_cPut, W_iU, W_iVar, W_iRange, W_iEnumU, W_iZipU, W_cFor, W_bYes, Op_some, Op_none, Op_ite, Op_map, Op_bind, Op_rdAll, rdAll_nil, Bw_bl, rVar, peekS, peekT, pVar, pRef, Lw_lst, setS, lstAt_fz, lenO_fz, lenO_str, list_fz, wipe_1, wipe_2, rest_1, rest_2, List.all_cons, List.all_nil, notOwn, W_fComp, asg_2, asg_n, turn_n, turn_c, turn_b, turn_r, List.getElem?_cons_zero, List.getElem?_cons_succ, List.getElem?_nil, List.set_cons_zero, List.set_cons_succ, List.map_cons, List.map_nil, List.cons_append, List.nil_append, List.length_cons, List.length_nil, Option.getD_some, Bool.and_true, Bool.and_self, Option.bind_some, Option.map_some, List.replicate_succ, List.replicate_zero, decide_eq_true_eq, Bool.not_true, Bool.not_false, Bool.not_eq_true', if_true, if_false, reduceIte, reduceCtorEq, Nat.reduceAdd, Nat.reduceSub, Nat.reduceLeDiff, true_and, and_true]
      refine (is_demand_ok hg hcd).mono fun t S' q => ?_
      obtain ⟨rfl, rfl⟩ := q
      simp only [Bw_bl, List.getElem?_cons_zero, List.getElem?_cons_succ, List.getElem?_nil, List.set_cons_zero, List.set_cons_succ, List.map_cons, List.map_nil, List.cons_append, List.nil_append, List.length_cons, List.length_nil, Option.getD_some, Bool.and_true, Bool.and_self, Option.bind_some, Option.map_some, List.replicate_succ, List.replicate_zero, decide_eq_true_eq, Bool.not_true, Bool.not_false, Bool.not_eq_true', if_true, if_false, reduceIte, reduceCtorEq, Nat.reduceAdd, Nat.reduceSub, Nat.reduceLeDiff, true_and, and_true]
      split
      · rename_i hn
        have hn : ¬ IsDem R d := by simpa using hn
        simp [hn]
      · rename_i hn
        have hn : IsDem R d := by simpa using hn
        simp only [W_pure, W_ofO, W_eVar, W_oVar, W_eFrz, W_oE, W_eOp2, W_eChain, W_asB, W_bNot, W_bAnd, W_bOr, W_eNot, W_eAnd, W_eOr, W_eIf, W_eNeg, W_aNil, W_aCons, W_oNil, W_oCons, W_eTup, W_fLst, W_eFz, W_eBox, W_fDic, W_eCall, W_fCall, W_pNo, W_pSome, W_eSliceU, W_fSlice, W_fRev, W_eLst, W_eLst0, W_mVar, W_mRef, W_eMeth, W_eFn, W_cSeq, W_cRet, W_cExpr, W_cIf, W_cSet, W_cOwn, W_cUnp, W_cSetIx, W_cPut, W_iU, W_iVar, W_iRange, W_iEnumU, W_iZipU, W_cFor, W_bYes, Op_some, Op_none, Op_ite, Op_map, Op_bind, Op_rdAll, rdAll_nil, Bw_bl, rVar, peekS, peekT, pVar, pRef, Lw_lst, setS, lstAt_fz, lenO_fz, lenO_str, list_fz, wipe_1, wipe_2, rest_1, rest_2, List.all_cons, List.all_nil, notOwn, W_fComp, asg_2, asg_n, turn_n, turn_c, turn_b, turn_r, List.getElem?_cons_zero, List.getElem?_cons_succ, List.getElem?_nil, List.set_cons_zero, List.set_cons_succ, List.map_cons, List.map_nil, List.cons_append, List.nil_append, List.length_cons, List.length_nil, Option.getD_some, Bool.and_true, Bool.and_self, Option.bind_some, Option.map_some, List.replicate_succ, List.replicate_zero, decide_eq_true_eq, Bool.not_true, Bool.not_false, Bool.not_eq_true', if_true, if_false, reduceIte, reduceCtorEq, Nat.reduceAdd, Nat.reduceSub, Nat.reduceLeDiff, true_and, and_true, sub_i, ix_prev, hix]
        simp only [dI, peekT, Op_some, ix_t0, ix_t1, List.getElem?_cons_zero, List.getElem?_cons_succ, List.getElem?_nil, List.set_cons_zero, List.set_cons_succ, List.map_cons, List.map_nil, List.cons_append, List.nil_append, List.length_cons, List.length_nil, Option.getD_some, Bool.and_true, Bool.and_self, Option.bind_some, Option.map_some, List.replicate_succ, List.replicate_zero, decide_eq_true_eq, Bool.not_true, Bool.not_false, Bool.not_eq_true', if_true, if_false, reduceIte, reduceCtorEq, Nat.reduceAdd, Nat.reduceSub, Nat.reduceLeDiff, true_and, and_true, ne_s hce.2 hcd.1, Bw_bl, hn]
        by_cases hq : e.2.1 = d.1 <;> simp [hq]
    · intro hb
      have hb : ¬ (IsDem R d ∧ e.2.1 = d.1) := fun ⟨a, b⟩ => by simp [a, b] at hb
      simp only [W_pure, W_ofO, W_eVar, W_oVar, W_eFrz, W_oE, W_eOp2, W_eChain, W_asB, W_bNot, W_bAnd, W_bOr, W_eNot, W_eAnd, W_eOr, W_eIf, W_eNeg, W_aNil, W_aCons, W_oNil, W_oCons, W_eTup, W_fLst, W_eFz, W_eBox, W_fDic, W_eCall, W_fCall, W_pNo, W_pSome, W_eSliceU, W_fSlice, W_fRev, W_eLst, W_eLst0, W_mVar, W_mRef, W_eMeth, W_eFn, W_cSeq, W_cRet, W_cExpr, W_cIf, W_cSet, W_cOwn, W_cUnp, W_cSetIx, W_cPut, W_iU, W_iVar, W_iRange, W_iEnumU, W_iZipU, W_cFor, W_bYes, Op_some, Op_none, Op_ite, Op_map, Op_bind, Op_rdAll, rdAll_nil, Bw_bl, rVar, peekS, peekT, pVar, pRef, Lw_lst, setS, lstAt_fz, lenO_fz, lenO_str, list_fz, wipe_1, wipe_2, rest_1, rest_2, List.all_cons, List.all_nil, notOwn, W_fComp, asg_2, asg_n, turn_n, turn_c, turn_b, turn_r, List.getElem?_cons_zero, List.getElem?_cons_succ, List.getElem?_nil, List.set_cons_zero, List.set_cons_succ, List.map_cons, List.map_nil, List.cons_append, List.nil_append, List.length_cons, List.length_nil, Option.getD_some, Bool.and_true, Bool.and_self, Option.bind_some, Option.map_some, List.replicate_succ, List.replicate_zero, decide_eq_true_eq, Bool.not_true, Bool.not_false, Bool.not_eq_true', if_true, if_false, reduceIte, reduceCtorEq, Nat.reduceAdd, Nat.reduceSub, Nat.reduceLeDiff, true_and, and_true]
      refine ⟨?_, rfl⟩
      congr 1
      symm
      rw [decide_eq_false_iff_not, ring_p hne]
      exact fun k => hb (hgood.mp (k i))
    · intro hb
      have hb : IsDem R d ∧ e.2.1 = d.1 := by simpa using hb
      simp only [W_pure, W_ofO, W_eVar, W_oVar, W_eFrz, W_oE, W_eOp2, W_eChain, W_asB, W_bNot, W_bAnd, W_bOr, W_eNot, W_eAnd, W_eOr, W_eIf, W_eNeg, W_aNil, W_aCons, W_oNil, W_oCons, W_eTup, W_fLst, W_eFz, W_eBox, W_fDic, W_eCall, W_fCall, W_pNo, W_pSome, W_eSliceU, W_fSlice, W_fRev, W_eLst, W_eLst0, W_mVar, W_mRef, W_eMeth, W_eFn, W_cSeq, W_cRet, W_cExpr, W_cIf, W_cSet, W_cOwn, W_cUnp, W_cSetIx, W_cPut, W_iU, W_iVar, W_iRange, W_iEnumU, W_iZipU, W_cFor, W_bYes, Op_some, Op_none, Op_ite, Op_map, Op_bind, Op_rdAll, rdAll_nil, Bw_bl, rVar, peekS, peekT, pVar, pRef, Lw_lst, setS, lstAt_fz, lenO_fz, lenO_str, list_fz, wipe_1, wipe_2, rest_1, rest_2, List.all_cons, List.all_nil, notOwn, W_fComp, asg_2, asg_n, turn_n, turn_c, turn_b, turn_r, List.getElem?_cons_zero, List.getElem?_cons_succ, List.getElem?_nil, List.set_cons_zero, List.set_cons_succ, List.map_cons, List.map_nil, List.cons_append, List.nil_append, List.length_cons, List.length_nil, Option.getD_some, Bool.and_true, Bool.and_self, Option.bind_some, Option.map_some, List.replicate_succ, List.replicate_zero, decide_eq_true_eq, Bool.not_true, Bool.not_false, Bool.not_eq_true', if_true, if_false, reduceIte, reduceCtorEq, Nat.reduceAdd, Nat.reduceSub, Nat.reduceLeDiff, true_and, and_true]
      refine ⟨fun j hj => ?_, _, _, rfl⟩
      by_cases hji : j = i
      · subst hji
        exact hgood.mpr hb
      · exact hI j (by omega)
  · rintro _ ⟨hI, s2, s3, rfl⟩
    refine ⟨rfl, ?_⟩
    simp only [W_pure, W_ofO, W_eVar, W_oVar, W_eFrz, W_oE, W_eOp2, W_eChain, W_asB, W_bNot, W_bAnd, W_bOr, W_eNot, W_eAnd, W_eOr, W_eIf, W_eNeg, W_aNil, W_aCons, W_oNil, W_oCons, W_eTup, W_fLst, W_eFz, W_eBox, W_fDic, W_eCall, W_fCall, W_pNo, W_pSome, W_eSliceU, W_fSlice, W_fRev, W_eLst, W_eLst0, W_mVar, W_mRef, W_eMeth, W_eFn, W_cSeq, W_cRet, W_cExpr, W_cIf, W_cSet, W_cOwn, W_cUnp, W_cSetIx, W_cPut, W_iU, W_iVar, W_iRange, W_iEnumU, W_iZipU, W_cFor, W_bYes, Op_some, Op_none, Op_ite, Op_map, Op_bind, Op_rdAll, rdAll_nil, Bw_bl, rVar, peekS, peekT, pVar, pRef, Lw_lst, setS, lstAt_fz, lenO_fz, lenO_str, list_fz, wipe_1, wipe_2, rest_1, rest_2, List.all_cons, List.all_nil, notOwn, W_fComp, asg_2, asg_n, turn_n, turn_c, turn_b, turn_r, List.getElem?_cons_zero, List.getElem?_cons_succ, List.getElem?_nil, List.set_cons_zero, List.set_cons_succ, List.map_cons, List.map_nil, List.cons_append, List.nil_append, List.length_cons, List.length_nil, Option.getD_some, Bool.and_true, Bool.and_self, Option.bind_some, Option.map_some, List.replicate_succ, List.replicate_zero, decide_eq_true_eq, Bool.not_true, Bool.not_false, Bool.not_eq_true', if_true, if_false, reduceIte, reduceCtorEq, Nat.reduceAdd, Nat.reduceSub, Nat.reduceLeDiff, true_and, and_true]
    refine ⟨?_, rfl⟩
    congr 1
    symm
    rw [decide_eq_true_iff, ring_p hne]
    intro j
    by_cases hj : j < ds.length
    · exact hI j (by simpa [enumT] using hj)
    · intro d e hd he
      exact absurd (List.getElem?_eq_some_iff.mp hd).1 hj
end Lw
namespace Lw
open PySem PySem.Spec PyProof.Rows L2 Sw Classical
theorem two_sub {r : Row} {x y : Nat} {a b : List Nat} (hx : r[x]? = some a) (hy : r[y]? = some b) (h : x < y) : [a, b].Sublist r := by
  have e : r = r.take y ++ r.drop y := (List.take_append_drop y r).symm
  have hyl := (List.getElem?_eq_some_iff.mp hy).1
  have h1 : a ∈ r.take y := List.mem_of_getElem? (i := x) (by rw [List.getElem?_take, if_pos h]; exact hx)
  have h2 : b ∈ r.drop y := List.mem_of_getElem? (i := 0) (by rw [List.getElem?_drop]; exact hy)
  rw [e]
  exact (List.singleton_sublist.mpr h1).append (List.singleton_sublist.mpr h2)
/-- no line where there is a ring -/
theorem ring_no_line {R : List Row} {ds : List DemI} {L : Row} (h : Ring R ds) (hl : Lin R L) : False := by
  obtain ⟨hne, hd, hc⟩ := h
  have hn := lin_nodup hl
  have hs := (lin_sub hl).1
  have key : ∀ d ∈ ds, L.findIdx (· == d.1) < L.findIdx (· == d.2.1) := by
    intro d hm
    obtain ⟨_, r, x, y, h1, h2, h3, h4⟩ := hd d hm
    have h5 := (two_sub h2 h3 h4).trans (hs r (List.mem_of_getElem? h1))
    have hf := sub_filter hn h5
    obtain ⟨i, hi⟩ := List.getElem?_of_mem (h5.subset (List.mem_cons_self))
    obtain ⟨j, hj⟩ := List.getElem?_of_mem (h5.subset (List.mem_cons_of_mem _ List.mem_cons_self))
    have ei : L.findIdx (· == d.1) = i := by
      have := findIdx_at hn hi
      rw [List.findIdx?_eq_some_iff_findIdx_eq] at this
      exact this.2
    have ej : L.findIdx (· == d.2.1) = j := by
      have := findIdx_at hn hj
      rw [List.findIdx?_eq_some_iff_findIdx_eq] at this
      exact this.2
    rw [ei, ej]
    by_cases hij : i < j
    · exact hij
    · exfalso
      by_cases he : i = j
      · subst he
        rw [hi] at hj
        have hj := Option.some.inj hj
        have := hn.sublist h5
        rw [hj] at this
        simp at this
      · exact two_ways hn h5 (two_sub hj hi (by omega))
  have h0 : 0 < ds.length := List.length_pos_iff.mpr hne
  refine no_round (n := ds.length) (f := fun i => if h : i < ds.length then L.findIdx (· == (ds[i]).1) else 0) h0 fun i hi => ?_
  have hm : (i + 1) % ds.length < ds.length := Nat.mod_lt _ h0
  simp only [hi, hm, dif_pos]
  have e := hc i ds[i] ds[(i + 1) % ds.length] (List.getElem?_eq_getElem hi) (List.getElem?_eq_getElem hm)
  rw [e]
  exact key _ (List.getElem_mem _)
/-- no line where a row turned about stands beside a row of two names -/
theorem turned_no_line {R : List Row} {L L2 : Row} (hl : Lin R L) {r : Row} (hr : r ∈ R) (hw : 1 < r.length) (h : Lin (R ++ [L.reverse]) L2) : False := by
  match r, hw with
  | a :: b :: q, _ =>
    have h1 : [a, b].Sublist (a :: b :: q) := by simp
    have h2 := h1.trans ((lin_sub hl).1 _ hr)
    have h3 : [b, a].Sublist L.reverse := by
      have := h2.reverse
      simpa using this
    have h4 := h1.trans ((lin_sub h).1 _ (List.mem_append_left _ hr))
    have h5 := h3.trans ((lin_sub h).1 _ (List.mem_append_right _ (List.mem_singleton.mpr rfl)))
    exact two_ways (lin_nodup h) h4 h5
end Lw
namespace Lw
open PySem PySem.Spec PyProof.Rows L2 Sw Classical
def toI (d : Dem) : DemI := (d.1, d.2.1, (d.2.2 : Int))
theorem dT_toI {ring : List Dem} : ring.map dT = (ring.map toI).map dI := by
  rw [List.map_map]
  rfl
theorem ring_of_ok {R Z : List Row} {ring : List Dem} (hs : Suf R Z) (h : RingOk Z ring) : Ring R (ring.map toI) := by
  obtain ⟨⟨hne, _⟩, hok, hch⟩ := h
  refine ⟨fun e => hne (List.map_eq_nil_iff.mp e), fun d hd => ?_, fun i d e hd he => ?_⟩
  · obtain ⟨d', hd', rfl⟩ := List.mem_map.mp hd
    obtain ⟨q', h1, h2⟩ := hok d' hd'
    obtain ⟨r, j, h3, h4⟩ := hs.2 _ _ h1
    obtain ⟨m, hm⟩ := List.getElem?_of_mem h2
    refine ⟨by show (0 : Int) ≤ (d'.2.2 : Nat); omega, r, j, j + (m + 1), h3, ?_, ?_, by omega⟩
    · have : (r.drop j)[0]? = some d'.1 := by rw [← h4]; rfl
      rw [List.getElem?_drop] at this
      exact this
    · have : (r.drop j)[m + 1]? = some d'.2.1 := by rw [← h4, List.getElem?_cons_succ]; exact hm
      rw [List.getElem?_drop] at this
      exact this
  · rw [List.getElem?_map] at hd
    obtain ⟨d', hd', rfl⟩ := Option.map_eq_some_iff.mp hd
    rw [List.length_map, List.getElem?_map] at he
    obtain ⟨e', he', rfl⟩ := Option.map_eq_some_iff.mp he
    obtain ⟨e2, h1, h2⟩ := hch i d' hd'
    rw [h1] at he'
    cases he'
    exact h2
theorem ring_cd {R : List Row} {ds : List DemI} (hg : GdRs R) (h : Ring R ds) : CdD ds := fun d hd => by
  obtain ⟨_, r, x, y, h1, h2, h3, _⟩ := h.2.1 d hd
  have hc := hg.cd r (List.mem_of_getElem? h1)
  exact ⟨hc _ (List.mem_of_getElem? h2), hc _ (List.mem_of_getElem? h3)⟩
def few (R : List Row) (ds : List DemI) : List Row := R.mapIdx fun i r => if (ds.map (·.2.2)).contains (i : Int) then r else []
end Lw
namespace Lw
open PySem PySem.Spec PyProof.Rows L2 Sw Classical
/-! ### all orders, plainly -/
def ins (name : List Nat) (o : Row) : List Row := (List.range (o.length + 1)).map fun k => o.take k ++ [name] ++ o.drop k
def allO (names : Row) : List Row := names.foldl (fun found name => found.flatMap (ins name)) [[]]
theorem allO_snoc {ns : Row} {n : List Nat} : allO (ns ++ [n]) = (allO ns).flatMap (ins n) := by
  unfold allO
  rw [List.foldl_append]
  rfl
theorem mem_ins {n : List Nat} {o x : Row} (h : x ∈ ins n o) : x.Perm (o ++ [n]) := by
  obtain ⟨k, _, rfl⟩ := List.mem_map.mp h
  have e : o.take k ++ [n] ++ o.drop k = o.take k ++ n :: o.drop k := by simp
  rw [e]
  refine List.perm_middle.trans ?_
  rw [List.take_append_drop]
  exact (List.perm_append_comm (l₁ := [n]) (l₂ := o))
theorem snoc_ind {P : Row → Prop} (h0 : P []) (hs : ∀ ns n, P ns → P (ns ++ [n])) : ∀ ns, P ns := fun ns => by
  have : ∀ l : Row, P l.reverse := fun l => by
    induction l with
    | nil => exact h0
    | cons a l ih => rw [List.reverse_cons]; exact hs _ _ ih
  have h := this ns.reverse
  rw [List.reverse_reverse] at h
  exact h
theorem allO_perm : ∀ {ns o : Row}, o ∈ allO ns → o.Perm ns := by
  intro ns
  refine snoc_ind (P := fun ns => ∀ {o : Row}, o ∈ allO ns → o.Perm ns) ?_ (fun ns n ih => ?_) ns
  · intro o h
    have : o ∈ [([] : Row)] := h
    rw [List.mem_singleton.mp this]
  · intro o h
    rw [allO_snoc] at h
    obtain ⟨o0, h0, h1⟩ := List.mem_flatMap.mp h
    exact (mem_ins h1).trans ((ih h0).append_right [n])
theorem perm_allO : ∀ {ns o : Row}, o.Perm ns → o ∈ allO ns := by
  intro ns
  refine snoc_ind (P := fun ns => ∀ {o : Row}, o.Perm ns → o ∈ allO ns) ?_ (fun ns n ih => ?_) ns
  · intro o h
    rw [List.perm_nil.mp h]
    exact List.mem_singleton.mpr rfl
  · intro o h
    have hn : n ∈ o := h.mem_iff.mpr (by simp)
    obtain ⟨A, B, rfl⟩ := List.append_of_mem hn
    have h1 : (A ++ B).Perm ns := by
      have h2 : (n :: (A ++ B)).Perm (n :: ns) := (List.perm_middle.symm.trans h).trans (List.perm_append_comm (l₁ := ns) (l₂ := [n]))
      exact h2.cons_inv
    rw [allO_snoc]
    refine List.mem_flatMap.mpr ⟨A ++ B, ih h1, List.mem_map.mpr ⟨A.length, List.mem_range.mpr (by simp; omega), ?_⟩⟩
    simp
theorem fm_len {α β : Type} {f : α → List β} {b : Nat} : ∀ {l : List α}, (∀ x ∈ l, (f x).length ≤ b) → (l.flatMap f).length ≤ l.length * b
  | [], _ => by simp
  | x :: l, h => by
    rw [List.flatMap_cons, List.length_append, List.length_cons]
    have h1 := h x List.mem_cons_self
    have h2 := fm_len fun y hy => h y (List.mem_cons_of_mem _ hy)
    have e : (l.length + 1) * b = l.length * b + b := by rw [Nat.add_mul]; omega
    omega
def keepsB (o : Row) (R : List Row) : Bool := R.all fun r => o.filter (fun a => r.contains a) == r
theorem keeps_sub {o : Row} {R : List Row} (h : keepsB o R = true) : ∀ r ∈ R, r.Sublist o := fun r hr => by
  have := List.all_eq_true.mp h r hr
  simp only [beq_iff_eq] at this
  rw [← this]
  exact List.filter_sublist
theorem sub_keeps {o : Row} {R : List Row} (hn : o.Nodup) (h : ∀ r ∈ R, r.Sublist o) : keepsB o R = true := by
  refine List.all_eq_true.mpr fun r hr => ?_
  simp only [beq_iff_eq]
  exact sub_filter hn (h r hr)
theorem ring_app {R Q : List Row} {ds : List DemI} (h : Ring R ds) : Ring (R ++ Q) ds := by
  obtain ⟨h1, h2, h3⟩ := h
  refine ⟨h1, fun d hd => ?_, h3⟩
  obtain ⟨h0, r, x, y, e1, e2⟩ := h2 d hd
  refine ⟨h0, r, x, y, ?_, e2⟩
  rw [List.getElem?_append_left (List.getElem?_eq_some_iff.mp e1).1]
  exact e1
/-- an order that keeps all rows: no ring -/
theorem ring_no_order {R : List Row} {ds : List DemI} {o : Row} (h : Ring R ds) (hn : o.Nodup) (hk : ∀ r ∈ R, r.Sublist o) : False :=
  ring_no_line (ring_app (Q := [o]) h) (lin_among hn (List.mem_append_right _ (List.mem_singleton.mpr rfl)) fun r hr => by
    rcases List.mem_append.mp hr with hr | hr
    · exact hk r hr
    · rw [List.mem_singleton.mp hr]; exact List.Sublist.refl _)
/-- the names of rows, each once -/
def unio (R : List Row) : Row := R.foldl (fun ns r => ns ++ r.filter fun a => !(ns.contains a)) []
theorem unio_from : ∀ {R : List Row} {ns : Row}, ns.Nodup → (∀ r ∈ R, r.Nodup) → (R.foldl (fun ns r => ns ++ r.filter fun a => !(ns.contains a)) ns).Nodup ∧ ∀ a, a ∈ R.foldl (fun ns r => ns ++ r.filter fun a => !(ns.contains a)) ns ↔ a ∈ ns ∨ ∃ r ∈ R, a ∈ r
  | [], ns, hn, _ => ⟨hn, fun a => by simp⟩
  | r :: R, ns, hn, h => by
    have h1 : (ns ++ r.filter fun a => !(ns.contains a)).Nodup := by
      refine List.nodup_append.mpr ⟨hn, (h r List.mem_cons_self).sublist List.filter_sublist, fun a ha b hb e => ?_⟩
      subst e
      have := (List.mem_filter.mp hb).2
      simp [ha] at this
    obtain ⟨h2, h3⟩ := unio_from h1 fun q hq => h q (List.mem_cons_of_mem _ hq)
    refine ⟨h2, fun a => (h3 a).trans ?_⟩
    simp only [List.mem_append, List.mem_filter, List.mem_cons, exists_eq_or_imp]
    by_cases ha : a ∈ ns
    · simp [ha]
    · simp [ha]
theorem unio_nd {R : List Row} (h : ∀ r ∈ R, r.Nodup) : (unio R).Nodup := (unio_from List.nodup_nil h).1
theorem unio_mem {R : List Row} (h : ∀ r ∈ R, r.Nodup) {a : List Nat} : a ∈ unio R ↔ ∃ r ∈ R, a ∈ r := by
  have := (unio_from (ns := []) List.nodup_nil h).2 a
  unfold unio
  rw [this]
  simp
theorem lin_perm {R : List Row} {L : Row} (h : Lin R L) (hn : ∀ r ∈ R, r.Nodup) : L.Perm (unio R) := by
  refine (List.perm_ext_iff_of_nodup (lin_nodup h) (unio_nd hn)).mpr fun a => ?_
  rw [unio_mem hn]
  obtain ⟨h1, h2⟩ := lin_sub h
  exact ⟨h2 a, fun ⟨r, hr, ha⟩ => (h1 r hr).subset ha⟩
theorem ring_told {R : List Row} (hg : GdRs R) (h : live (runs KK R).2 = true) : ∃ ds, Ring R ds := by
  obtain ⟨t, S', _, _, hm⟩ := (merge_ok (S := []) hg).ex
  rcases hm with ⟨h1, _⟩ | ⟨_, ring, _, hr⟩
  · rw [h] at h1; cases h1
  · exact ⟨_, ring_of_ok (runs_suf KK R (Suf.refl R)) hr⟩
theorem line_of_sub {R : List Row} {o : Row} (hg : GdRs R) (hn : o.Nodup) (hk : ∀ r ∈ R, r.Sublist o) : live (runs KK R).2 = false := by
  cases hv : live (runs KK R).2 with
  | false => rfl
  | true =>
    obtain ⟨ds, hd⟩ := ring_told hg hv
    exact (ring_no_order hd hn hk).elim
/-- a line just where some order keeps all rows -/
theorem orders_iff {R : List Row} (hg : GdRs R) : ((allO (unio R)).filter fun o => keepsB o R) ≠ [] ↔ live (runs KK R).2 = false := by
  have hn : ∀ r ∈ R, r.Nodup := fun r hr => (hg.2 r hr).1.1
  constructor
  · intro h
    obtain ⟨o, ho⟩ := List.exists_mem_of_ne_nil _ h
    obtain ⟨h1, h2⟩ := List.mem_filter.mp ho
    have hp := allO_perm h1
    exact line_of_sub hg (hp.nodup_iff.mpr (unio_nd hn)) (keeps_sub h2)
  · intro h
    have hl := lin_runs hg.tot h
    refine List.ne_nil_of_mem (a := (runs KK R).1) (List.mem_filter.mpr ⟨perm_allO (lin_perm hl hn), ?_⟩)
    exact sub_keeps (lin_nodup hl) (lin_sub hl).1
end Lw
namespace Lw
open PySem PySem.Spec PyProof.Rows L2 Sw Classical
theorem CdD.app {a b : List DemI} (h : CdD a) (k : CdD b) : CdD (a ++ b) := fun d hd => by
  rcases List.mem_append.mp hd with hd | hd
  · exact h d hd
  · exact k d hd
theorem CdD.sub {a b : List DemI} (h : CdD b) (s : ∀ d ∈ a, d ∈ b) : CdD a := fun d hd => h d (s d hd)
theorem extend_i {us ts : List T} (h : us.length + ts.length ≤ 1000000) : extendF us [.fz ts] = some (us ++ ts, .non) := by
  unfold extendF
  simp only [h, if_true]
theorem nr_sR {r : Row} : nr (sR r) = true := nr_fz
theorem nr_dI {d : DemI} : nr (dI d) = true := nr_tup
theorem in_cd {r : Row} {a : List Nat} (h : CdR r) (ha : a.all (· < 0x110000) = true) : inU (.str a) (.fz (r.map .str)) = some (.bl (r.contains a)) := by
  show inT _ _ = _
  unfold inT inB
  simp only [dat_str ha, dats_cd h, Bool.and_self, if_true, Option.map_some, any_str]
theorem ne_cd {a b : Row} (ha : CdR a) (hb : CdR b) : Sw.neT (.fz (a.map .str)) (.fz (b.map .str)) = some (.bl (!(a == b))) := by
  unfold Sw.neT Sw.neO
  rw [show (T.fz (a.map .str)).dat 60 = true from dat_cd ha, show (T.fz (b.map .str)).dat 60 = true from dat_cd hb]
  simp only [Bool.and_self, if_true, Option.map_some, T.eqv, eqvs_str]
theorem CdR.sub {a b : Row} (h : CdR b) (s : ∀ x ∈ a, x ∈ b) : CdR a := fun x hx => h x (s x hx)
theorem CdR.app {a b : Row} (h : CdR a) (k : CdR b) : CdR (a ++ b) := fun x hx => by
  rcases List.mem_append.mp hx with hx | hx
  · exact h x hx
  · exact k x hx
theorem CdR.fil {a : Row} {p : List Nat → Bool} (h : CdR a) : CdR (a.filter p) := h.sub fun x hx => (List.mem_filter.mp hx).1
theorem cut_toN {α : Type} {xs : List α} {k : Nat} : cutL xs none (some (k : Int)) = xs.take k := by
  rw [cut_to (by omega)]
  simp
theorem cut_fromN {α : Type} {xs : List α} {k : Nat} : cutL xs (some (k : Int)) none = xs.drop k := by
  rw [cut_from (by omega)]
  simp
theorem keeps_q {o : Row} {R : List Row} (ho : CdR o) (hl : o.length ≤ 1000000) (hR : ∀ r ∈ R, CdR r) : m__law_keeps [sR o, .fz (R.map sR)] = qP (.bl (keepsB o R)) := by
  refine fn_pure (q := q__law_keeps _ _) qs__law_keeps ?_
  unfold q__law_keeps qb__law_keeps
  simp only [qIt_f, qB_P]
  rw [qFor_findM (p := fun r => !(o.filter (fun a => r.contains a) == r)) (r := fun _ => .bl false)]
  · unfold keepsB
    cases e : R.find? fun r => !(o.filter (fun a => r.contains a) == r) with
    | none =>
      rw [List.find?_eq_none] at e
      have : (R.all fun r => o.filter (fun a => r.contains a) == r) = true := List.all_eq_true.mpr fun r hr => by simpa using e r hr
      rw [this]
      rfl
    | some r =>
      have h1 := List.find?_some e
      have h2 := List.mem_of_find?_eq_some e
      have : (R.all fun r => o.filter (fun a => r.contains a) == r) = false := by
        rw [Bool.eq_false_iff]
        intro h
        have := List.all_eq_true.mp h r h2
        rw [this] at h1
        simp at h1
      rw [this]
      rfl
  · intro r hr
    have hr' := hR r hr
    simp only [sR, qB_P, qB_Z, qB_B, qO_some, qTr_b, qI_i, nr_fz, nr_tup, nr_str, nr_int, nr_bl, nr_non, nr_ty, nr_dic, nr_scr, qOp2_n, qCall_1, qCall_2, qSl_n, qTy_n, qMeth_n, tyOk_f, tyOk_s, qIt_f, qIt_t, qIt_s, qEnum_f, qZip_t, qZip_f, un2_t, un3_t, un4_t, slU_f, slU_t, slL_f, revL_f, qSeq_nxt, qSeq_ret, qSeq_B, qSeq_nx, qFn_ret, qFn_nxt, qFn_B]
    rw [qComp_f (en := T.str) (f := T.str) (p := fun a => r.contains a) hl]
    · simp only [qB_P, qB_Z, qB_B, qO_some, qTr_b, qI_i, nr_fz, nr_tup, nr_str, nr_int, nr_bl, nr_non, nr_ty, nr_dic, nr_scr, qOp2_n, qCall_1, qCall_2, qSl_n, qTy_n, qMeth_n, tyOk_f, tyOk_s, qIt_f, qIt_t, qIt_s, qEnum_f, qZip_t, qZip_f, un2_t, un3_t, un4_t, slU_f, slU_t, slL_f, revL_f, qSeq_nxt, qSeq_ret, qSeq_B, qSeq_nx, qFn_ret, qFn_nxt, qFn_B, ne_cd ho.fil hr']
    · intro a ha
      simp only [qB_P, qB_Z, qB_B, qO_some, qTr_b, qI_i, nr_fz, nr_tup, nr_str, nr_int, nr_bl, nr_non, nr_ty, nr_dic, nr_scr, qOp2_n, qCall_1, qCall_2, qSl_n, qTy_n, qMeth_n, tyOk_f, tyOk_s, qIt_f, qIt_t, qIt_s, qEnum_f, qZip_t, qZip_f, un2_t, un3_t, un4_t, slU_f, slU_t, slL_f, revL_f, qSeq_nxt, qSeq_ret, qSeq_B, qSeq_nx, qFn_ret, qFn_nxt, qFn_B, in_cd hr' (ho a ha)]
      exact qIf_P
theorem pow6 {k : Nat} (h : k ≤ 5) : 6 ^ k ≤ 7776 := Nat.pow_le_pow_right (by decide) h
theorem orders_w {S : List Ob} {ns : Row} (h : ns.length ≤ 5) : Fw m__law_all_orders [.fz (ns.map .str)] S (fun t S' => (t = .fz ((allO ns).map sR) ∧ S' = S) ∧ (allO ns).length ≤ 7776 ∧ ∀ o ∈ allO ns, o.length = ns.length) := by
  refine fw_of (q := q__law_all_orders _) qs__law_all_orders ?_
  unfold q__law_all_orders qb__law_all_orders
  rw [Qw_qFn, Qw_seq]
  simp only [qIt_f, qB_P]
  refine Qw_for (fun k a S1 => S1 = S ∧ a = .fz ((allO (ns.take k)).map sR) ∧ (allO (ns.take k)).length ≤ 6 ^ k ∧ ∀ o ∈ allO (ns.take k), o.length = k) _ 0 _ _ ⟨rfl, rfl, Nat.le_refl _, fun o ho => by rw [List.mem_singleton.mp ho]; rfl⟩ ?_ ?_
  · rintro k t a S1 hk ⟨rfl, rfl, h1, h2⟩
    rw [Nat.zero_add] at h1 h2 ⊢
    rw [List.getElem?_map] at hk
    obtain ⟨n, en, rfl⟩ := Option.map_eq_some_iff.mp hk
    have hk5 : k < ns.length := (List.getElem?_eq_some_iff.mp en).1
    have hF : (allO (ns.take k)).length ≤ 1296 := Nat.le_trans h1 (Nat.le_trans (Nat.pow_le_pow_right (by decide) (show k ≤ 4 by omega)) (by decide))
    have ib : ∀ o ∈ allO (ns.take k), (ins n o).length ≤ 6 := fun o ho => by
      have := h2 o ho
      simp only [ins, List.length_map, List.length_range]
      omega
    have ek : allO (ns.take (k + 1)) = (allO (ns.take k)).flatMap (ins n) := by
      rw [List.take_succ, en]
      exact allO_snoc
    rw [ek]
    generalize allO (ns.take k) = G at h1 h2 hF ib ⊢
    rw [Qw_seq]
    simp only [qIt_f, qB_P]
    refine Qw_for (fun j a S2 => S2 = S1 ∧ a = ((G.take j).flatMap (ins n)).map sR ∧ ((G.take j).flatMap (ins n)).length ≤ j * 6) _ 0 _ _ ⟨rfl, rfl, by simp⟩ ?_ ?_
    · rintro j t a S2 hj ⟨rfl, rfl, h3⟩
      rw [Nat.zero_add] at h3 ⊢
      rw [List.getElem?_map] at hj
      obtain ⟨o, eo, rfl⟩ := Option.map_eq_some_iff.mp hj
      have hjl := (List.getElem?_eq_some_iff.mp eo).1
      have hoG := List.mem_of_getElem? eo
      have hol := h2 o hoG
      have hil := ib o hoG
      have ej : (G.take (j + 1)).flatMap (ins n) = (G.take j).flatMap (ins n) ++ ins n o := by
        rw [List.take_succ, eo, List.flatMap_append]
        simp
      rw [ej]
      generalize (G.take j).flatMap (ins n) = M at h3 ⊢
      simp only [qB_P, qB_Z, qB_B, qO_some, qTr_b, qI_i, nr_fz, nr_tup, nr_str, nr_int, nr_bl, nr_non, nr_ty, nr_dic, nr_scr, qOp2_n, qCall_1, qCall_2, qSl_n, qTy_n, qMeth_n, tyOk_f, tyOk_s, qIt_f, qIt_t, qIt_s, qEnum_f, qZip_t, qZip_f, un2_t, un3_t, un4_t, slU_f, slU_t, slL_f, revL_f, qSeq_nxt, qSeq_ret, qSeq_B, qSeq_nx, qFn_ret, qFn_nxt, qFn_B, nr_sR, sR, lenO_fz, List.length_map, add_i]
      rw [qRange_i (by omega) (by omega)]
      simp only [qB_P, qB_Z, qB_B, qO_some, qTr_b, qI_i, nr_fz, nr_tup, nr_str, nr_int, nr_bl, nr_non, nr_ty, nr_dic, nr_scr, qOp2_n, qCall_1, qCall_2, qSl_n, qTy_n, qMeth_n, tyOk_f, tyOk_s, qIt_f, qIt_t, qIt_s, qEnum_f, qZip_t, qZip_f, un2_t, un3_t, un4_t, slU_f, slU_t, slL_f, revL_f, qSeq_nxt, qSeq_ret, qSeq_B, qSeq_nx, qFn_ret, qFn_nxt, qFn_B, show ((o.length : Int) + 1).toNat = o.length + 1 by omega]
      rw [qComp_a (en := fun k : Nat => T.int (k : Int)) (f := fun k => sR (o.take k ++ [n] ++ o.drop k)) (by rw [List.length_range]; omega)]
      · simp only [qB_P, qB_Z, qB_B, qO_some, qTr_b, qI_i, nr_fz, nr_tup, nr_str, nr_int, nr_bl, nr_non, nr_ty, nr_dic, nr_scr, qOp2_n, qCall_1, qCall_2, qSl_n, qTy_n, qMeth_n, tyOk_f, tyOk_s, qIt_f, qIt_t, qIt_s, qEnum_f, qZip_t, qZip_f, un2_t, un3_t, un4_t, slU_f, slU_t, slL_f, revL_f, qSeq_nxt, qSeq_ret, qSeq_B, qSeq_nx, qFn_ret, qFn_nxt, qFn_B]
        rw [extend_i (by rw [List.length_map, List.length_map, List.length_range]; omega)]
        simp only [qB_P, qB_Z, qB_B, qO_some, qTr_b, qI_i, nr_fz, nr_tup, nr_str, nr_int, nr_bl, nr_non, nr_ty, nr_dic, nr_scr, qOp2_n, qCall_1, qCall_2, qSl_n, qTy_n, qMeth_n, tyOk_f, tyOk_s, qIt_f, qIt_t, qIt_s, qEnum_f, qZip_t, qZip_f, un2_t, un3_t, un4_t, slU_f, slU_t, slL_f, revL_f, qSeq_nxt, qSeq_ret, qSeq_B, qSeq_nx, qFn_ret, qFn_nxt, qFn_B, Qw_P]
        refine ⟨trivial, ?_, ?_⟩
        · rw [List.map_append, ins, List.map_map]
          rfl
        · rw [List.length_append, Nat.add_mul]
          omega
      · intro x hx
        have hx := List.mem_range.mp hx
        simp only [qB_P, qB_Z, qB_B, qO_some, qTr_b, qI_i, nr_fz, nr_tup, nr_str, nr_int, nr_bl, nr_non, nr_ty, nr_dic, nr_scr, qOp2_n, qCall_1, qCall_2, qSl_n, qTy_n, qMeth_n, tyOk_f, tyOk_s, qIt_f, qIt_t, qIt_s, qEnum_f, qZip_t, qZip_f, un2_t, un3_t, un4_t, slU_f, slU_t, slL_f, revL_f, qSeq_nxt, qSeq_ret, qSeq_B, qSeq_nx, qFn_ret, qFn_nxt, qFn_B, cut_toN, cut_fromN]
        rw [fz_add (by simp; omega)]
        simp only [qB_P, qB_Z, qB_B, qO_some, qTr_b, qI_i, nr_fz, nr_tup, nr_str, nr_int, nr_bl, nr_non, nr_ty, nr_dic, nr_scr, qOp2_n, qCall_1, qCall_2, qSl_n, qTy_n, qMeth_n, tyOk_f, tyOk_s, qIt_f, qIt_t, qIt_s, qEnum_f, qZip_t, qZip_f, un2_t, un3_t, un4_t, slU_f, slU_t, slL_f, revL_f, qSeq_nxt, qSeq_ret, qSeq_B, qSeq_nx, qFn_ret, qFn_nxt, qFn_B]
        rw [fz_add (by simp; omega)]
        simp only [qB_P, qB_Z, qB_B, qO_some, qTr_b, qI_i, nr_fz, nr_tup, nr_str, nr_int, nr_bl, nr_non, nr_ty, nr_dic, nr_scr, qOp2_n, qCall_1, qCall_2, qSl_n, qTy_n, qMeth_n, tyOk_f, tyOk_s, qIt_f, qIt_t, qIt_s, qEnum_f, qZip_t, qZip_f, un2_t, un3_t, un4_t, slU_f, slU_t, slL_f, revL_f, qSeq_nxt, qSeq_ret, qSeq_B, qSeq_nx, qFn_ret, qFn_nxt, qFn_B, sR, List.map_append, List.map_take, List.map_drop, List.map_cons, List.map_nil]
    · rintro a S2 ⟨rfl, rfl, h3⟩
      rw [List.length_map, Nat.zero_add, List.take_length]
      simp only [Qw_P]
      refine ⟨trivial, trivial, Nat.le_trans (fm_len ib) ?_, fun o ho => ?_⟩
      · rw [Nat.pow_succ]
        exact Nat.mul_le_mul_right _ h1
      · obtain ⟨o0, h3, h4⟩ := List.mem_flatMap.mp ho
        have := (mem_ins h4).length_eq
        rw [this, List.length_append, h2 o0 h3]
        rfl
  · rintro a S1 ⟨rfl, rfl, h1, h2⟩
    rw [List.length_map, Nat.zero_add] at h1 h2 ⊢
    rw [List.take_length] at h1 h2 ⊢
    simp only [Qw_P]
    exact ⟨⟨trivial, trivial⟩, Nat.le_trans h1 (pow6 h), h2⟩
theorem orders_q {ns : Row} (h : ns.length ≤ 5) : m__law_all_orders [.fz (ns.map .str)] = qP (.fz ((allO ns).map sR)) ∧ (allO ns).length ≤ 7776 ∧ ∀ o ∈ allO ns, o.length = ns.length := by
  refine ⟨fw_pure fun S => (orders_w h).mono fun t S' q => q.1, ?_⟩
  obtain ⟨_, _, _, _, q⟩ := (orders_w (S := []) h).ex
  exact q
end Lw
namespace Lw
open PySem PySem.Spec PyProof.Rows L2 Sw Classical
def demsOf (i : Nat) (r : Row) : List DemI := (List.range (r.length - 1)).map fun k => (r.getD k [], r.getD (k + 1) [], (i : Int))
theorem getD_mem {r : Row} {k : Nat} (h : k < r.length) : r.getD k [] ∈ r := by
  rw [List.getD_eq_getElem?_getD, List.getElem?_eq_getElem h]
  exact List.getElem_mem h
theorem dems_cd {i : Nat} {r : Row} (h : CdR r) : CdD (demsOf i r) := fun d hd => by
  obtain ⟨k, hk, rfl⟩ := List.mem_map.mp hd
  have := List.mem_range.mp hk
  exact ⟨h _ (getD_mem (by omega)), h _ (getD_mem (by omega))⟩
theorem no_ring_w {S : List Ob} {R : List Row} (hg : GdRs R) (h : ∀ ds, ¬ Ring R ds) : Fw m__law_no_ring [.fz (R.map sR)] S (fun t S' => t = .bl true ∧ S' = S) := by
  refine fw_of (q := q__law_no_ring _) qs__law_no_ring ?_
  unfold q__law_no_ring qb__law_no_ring
  simp only [qEnum_f, qB_P, Qw_qFn, Qw_seq]
  rw [enumT_map]
  refine Qw_for (fun j a S1 => S1 = S ∧ ∃ K : List DemI, a = K.map dI ∧ K.length ≤ j * 26 ∧ CdD K) _ 0 _ _ ⟨rfl, [], rfl, by simp, fun d hd => by cases hd⟩ ?_ ?_
  · rintro i t a S1 hi ⟨rfl, K, rfl, h1, h2⟩
    rw [Nat.zero_add] at h1 ⊢
    rw [List.getElem?_map, List.getElem?_mapIdx] at hi
    cases er : R[i]? with
    | none => rw [er] at hi; cases hi
    | some r =>
      rw [er] at hi
      cases hi
      have hr := List.mem_of_getElem? er
      have hgr := hg.2 r hr
      have hi16 : i < 16 := by
        have := (List.getElem?_eq_some_iff.mp er).1
        have := hg.1
        omega
      have hl := hgr.2
      simp only [qB_P, qB_Z, qB_B, qO_some, qTr_b, qI_i, nr_fz, nr_tup, nr_str, nr_int, nr_bl, nr_non, nr_ty, nr_dic, nr_scr, qOp2_n, qCall_1, qCall_2, qSl_n, qTy_n, qMeth_n, tyOk_f, tyOk_s, qIt_f, qIt_t, qIt_s, qEnum_f, qZip_t, qZip_f, un2_t, un3_t, un4_t, slU_f, slU_t, slL_f, revL_f, qSeq_nxt, qSeq_ret, qSeq_B, qSeq_nx, qFn_ret, qFn_nxt, qFn_B, nr_sR, sR, lenO_fz, List.length_map, sub_i]
      rw [qRange_i (by omega) (by omega)]
      simp only [qB_P, qB_Z, qB_B, qO_some, qTr_b, qI_i, nr_fz, nr_tup, nr_str, nr_int, nr_bl, nr_non, nr_ty, nr_dic, nr_scr, qOp2_n, qCall_1, qCall_2, qSl_n, qTy_n, qMeth_n, tyOk_f, tyOk_s, qIt_f, qIt_t, qIt_s, qEnum_f, qZip_t, qZip_f, un2_t, un3_t, un4_t, slU_f, slU_t, slL_f, revL_f, qSeq_nxt, qSeq_ret, qSeq_B, qSeq_nx, qFn_ret, qFn_nxt, qFn_B]
      rw [show ((r.length : Int) - 1).toNat = r.length - 1 by omega, qComp_a (en := fun k : Nat => T.int (k : Int)) (f := fun k => dI (r.getD k [], r.getD (k + 1) [], (i : Int))) (by simp; omega)]
      · simp only [qB_P, qB_Z, qB_B, qO_some, qTr_b, qI_i, nr_fz, nr_tup, nr_str, nr_int, nr_bl, nr_non, nr_ty, nr_dic, nr_scr, qOp2_n, qCall_1, qCall_2, qSl_n, qTy_n, qMeth_n, tyOk_f, tyOk_s, qIt_f, qIt_t, qIt_s, qEnum_f, qZip_t, qZip_f, un2_t, un3_t, un4_t, slU_f, slU_t, slL_f, revL_f, qSeq_nxt, qSeq_ret, qSeq_B, qSeq_nx, qFn_ret, qFn_nxt, qFn_B]
        rw [extend_i (by simp; omega)]
        simp only [qB_P, qB_Z, qB_B, qO_some, qTr_b, qI_i, nr_fz, nr_tup, nr_str, nr_int, nr_bl, nr_non, nr_ty, nr_dic, nr_scr, qOp2_n, qCall_1, qCall_2, qSl_n, qTy_n, qMeth_n, tyOk_f, tyOk_s, qIt_f, qIt_t, qIt_s, qEnum_f, qZip_t, qZip_f, un2_t, un3_t, un4_t, slU_f, slU_t, slL_f, revL_f, qSeq_nxt, qSeq_ret, qSeq_B, qSeq_nx, qFn_ret, qFn_nxt, qFn_B, Qw_P]
        refine ⟨trivial, K ++ demsOf i r, ?_, ?_, h2.app (dems_cd hgr.1.2)⟩
        · rw [List.map_append, demsOf, List.map_map]
          rfl
        · rw [List.length_append, Nat.add_mul, demsOf, List.length_map, List.length_range]
          omega
      · intro k hk
        have hk := List.mem_range.mp hk
        have e1 : ixU (.fz (r.map .str)) (.int (k : Int)) = some (.str (r.getD k [])) := ix_str (by omega)
        have e2 : ixU (.fz (r.map .str)) (.int ((k : Int) + 1)) = some (.str (r.getD (k + 1) [])) := by
          have := @ix_str r (k + 1) (by omega)
          rw [show (((k + 1 : Nat) : Int)) = (k : Int) + 1 by omega] at this
          exact this
        simp only [qB_P, qB_Z, qB_B, qO_some, qTr_b, qI_i, nr_fz, nr_tup, nr_str, nr_int, nr_bl, nr_non, nr_ty, nr_dic, nr_scr, qOp2_n, qCall_1, qCall_2, qSl_n, qTy_n, qMeth_n, tyOk_f, tyOk_s, qIt_f, qIt_t, qIt_s, qEnum_f, qZip_t, qZip_f, un2_t, un3_t, un4_t, slU_f, slU_t, slL_f, revL_f, qSeq_nxt, qSeq_ret, qSeq_B, qSeq_nx, qFn_ret, qFn_nxt, qFn_B, e1, e2, add_i]
        rfl
  · rintro a S1 ⟨rfl, K, rfl, h1, h2⟩
    have hr : ∀ ds, CdD ds → m_is_ring [.fz (R.map sR), .fz (ds.map dI)] = qP (.bl false) := fun ds hc => fw_pure fun S => (is_ring_p hg hc).mono fun t S' ⟨e1, e2⟩ => ⟨by rw [e1, decide_eq_false (h ds)], e2⟩
    simp only [qB_P, qB_Z, qB_B, qO_some, qTr_b, qI_i, nr_fz, nr_tup, nr_str, nr_int, nr_bl, nr_non, nr_ty, nr_dic, nr_scr, qOp2_n, qCall_1, qCall_2, qSl_n, qTy_n, qMeth_n, tyOk_f, tyOk_s, qIt_f, qIt_t, qIt_s, qEnum_f, qZip_t, qZip_f, un2_t, un3_t, un4_t, slU_f, slU_t, slL_f, revL_f, qSeq_nxt, qSeq_ret, qSeq_B, qSeq_nx, qFn_ret, qFn_nxt, qFn_B]
    rw [qFor_skip]
    · simp only [Qw_P]
      exact ⟨trivial, trivial⟩
    · intro t ht
      obtain ⟨d, hd, rfl⟩ := List.mem_map.mp ht
      have hd1 := h2 d hd
      rw [show (T.fz [dI d]) = .fz ([d].map dI) from rfl, hr [d] (fun x hx => by rw [List.mem_singleton.mp hx]; exact hd1)]
      simp only [qB_P, qB_Z, qB_B, qO_some, qTr_b, qI_i, nr_fz, nr_tup, nr_str, nr_int, nr_bl, nr_non, nr_ty, nr_dic, nr_scr, qOp2_n, qCall_1, qCall_2, qSl_n, qTy_n, qMeth_n, tyOk_f, tyOk_s, qIt_f, qIt_t, qIt_s, qEnum_f, qZip_t, qZip_f, un2_t, un3_t, un4_t, slU_f, slU_t, slL_f, revL_f, qSeq_nxt, qSeq_ret, qSeq_B, qSeq_nx, qFn_ret, qFn_nxt, qFn_B, Bool.false_eq_true, if_false]
      rw [qFor_skip]
      · rfl
      · intro t ht
        obtain ⟨e, he, rfl⟩ := List.mem_map.mp ht
        have he1 := h2 e he
        rw [show (T.fz [dI d, dI e]) = .fz ([d, e].map dI) from rfl, hr [d, e] (fun x hx => by
          simp only [List.mem_cons, List.not_mem_nil, or_false] at hx
          rcases hx with rfl | rfl
          · exact hd1
          · exact he1)]
        simp only [qB_P, qB_Z, qB_B, qO_some, qTr_b, qI_i, nr_fz, nr_tup, nr_str, nr_int, nr_bl, nr_non, nr_ty, nr_dic, nr_scr, qOp2_n, qCall_1, qCall_2, qSl_n, qTy_n, qMeth_n, tyOk_f, tyOk_s, qIt_f, qIt_t, qIt_s, qEnum_f, qZip_t, qZip_f, un2_t, un3_t, un4_t, slU_f, slU_t, slL_f, revL_f, qSeq_nxt, qSeq_ret, qSeq_B, qSeq_nx, qFn_ret, qFn_nxt, qFn_B, Bool.false_eq_true, if_false]
        rw [show cutL (K.map dI) none (some 6) = (K.take 6).map dI by rw [cut_to (by decide), List.map_take]; rfl, qFor_skip]
        · rfl
        · intro t ht
          obtain ⟨f, hf, rfl⟩ := List.mem_map.mp ht
          have hf1 := h2 f (List.mem_of_mem_take hf)
          rw [show (T.fz [dI d, dI e, dI f]) = .fz ([d, e, f].map dI) from rfl, hr [d, e, f] (fun x hx => by
            simp only [List.mem_cons, List.not_mem_nil, or_false] at hx
            rcases hx with rfl | rfl | rfl
            · exact hd1
            · exact he1
            · exact hf1)]
          simp only [qB_P, qB_Z, qB_B, qO_some, qTr_b, qI_i, nr_fz, nr_tup, nr_str, nr_int, nr_bl, nr_non, nr_ty, nr_dic, nr_scr, qOp2_n, qCall_1, qCall_2, qSl_n, qTy_n, qMeth_n, tyOk_f, tyOk_s, qIt_f, qIt_t, qIt_s, qEnum_f, qZip_t, qZip_f, un2_t, un3_t, un4_t, slU_f, slU_t, slL_f, revL_f, qSeq_nxt, qSeq_ret, qSeq_B, qSeq_nx, qFn_ret, qFn_nxt, qFn_B, Bool.false_eq_true, if_false]
end Lw
namespace Lw
open PySem PySem.Spec PyProof.Rows L2 Sw Classical
theorem unio_snoc {R : List Row} {r : Row} : unio (R ++ [r]) = unio R ++ r.filter fun a => !((unio R).contains a) := by
  unfold unio
  rw [List.foldl_append]
  rfl
theorem eq_b {a b : Bool} : Sw.eqT (.bl a) (.bl b) = some (.bl (a == b)) := by
  unfold Sw.eqT Sw.eqO
  simp only [T.dat, Bool.and_self, if_true, Option.map_some, T.eqv]
theorem sortC_eq {a b : Row} (h : a.Perm b) : sortC a = sortC b := sorted_uniq ((sortC_perm.trans h).trans sortC_perm.symm) sortC_sorted sortC_sorted
theorem sortC_cd {a : Row} (h : CdR a) : CdR (sortC a) := h.sub fun x hx => sortC_perm.mem_iff.mp hx
structure Few (R : List Row) : Prop where
  g : GdRs R
  n : ∃ ns, NmL ns ∧ ns.length ≤ 17 ∧ ∀ r ∈ R, ∀ s ∈ r, s ∈ ns
theorem Few.u {R : List Row} (h : Few R) (k : Nat) : CdR (unio (R.take k)) ∧ (unio (R.take k)).length ≤ 17 := by
  obtain ⟨ns, h1, h2, h3⟩ := h.n
  have hn : ∀ r ∈ R.take k, r.Nodup := fun r hr => (h.g.2 r (List.mem_of_mem_take hr)).1.1
  have hm : ∀ a ∈ unio (R.take k), a ∈ ns := fun a ha => by
    obtain ⟨r, hr, ha⟩ := (unio_mem hn).mp ha
    exact h3 r (List.mem_of_mem_take hr) a ha
  exact ⟨h1.cd.sub hm, Nat.le_trans (nodup_len (unio_nd hn) hm) h2⟩
theorem right_tail {S : List Ob} {R : List Row} (hf : Few R) {w : List Nat} {x : T} (hw : w.all (· < 0x110000) = true) (hv : (w == lineS) = !live (runs KK R).2) {Φ : F Unit Unit → List Ob → Prop} (hΦ : Φ (.ret (.bl true)) S) :
    Qw (qSeq (qB (qB (qB (qCall lenO [sR (unio R)]) fun t73 => (qOp2 ltO t73 (.int 6))) qTr) fun b76 => if b76 then (qB (qB (qB (qB (m__law_all_orders [sR (unio R)]) qIt) (qComp fun x78 => (qB (qB (m__law_keeps [x78, .fz (R.map sR)]) qTr) fun b79 => if b79 then qP (some x78) else qP none))) fun l80 => qP (.fz l80)) fun orders_81 => (qB (qB (qB (qP (.bl true)) qTr) fun b101 => if b101 then (qB (qOp2 Sw.neT orders_81 (.fz [])) fun t88 => (qB (qB (qOp2 ixU (.tup [.str w, x]) (.int 0)) fun t95 => (qOp2 Sw.eqT t95 (.str [108, 105, 110, 101]))) fun t100 => (qOp2 Sw.eqT t88 t100))) else qP (.bl false)) fun right_102 => (qP (.nxt right_102)))) else (qP (.nxt (.bl true)))) fun a77 => (qP (.ret a77))) S Φ := by
  obtain ⟨hc, hl⟩ := hf.u R.length
  rw [List.take_length] at hc hl
  have hcR := hf.g.cd
  simp only [qB_P, qB_Z, qB_B, qO_some, qTr_b, qI_i, nr_fz, nr_tup, nr_str, nr_int, nr_bl, nr_non, nr_ty, nr_dic, nr_scr, qOp2_n, qCall_1, qCall_2, qSl_n, qTy_n, qMeth_n, tyOk_f, tyOk_s, qIt_f, qIt_t, qIt_s, qEnum_f, qZip_t, qZip_f, un2_t, un3_t, un4_t, slU_f, slU_t, slL_f, revL_f, qSeq_nxt, qSeq_ret, qSeq_B, qSeq_nx, qFn_ret, qFn_nxt, qFn_B, nr_sR, sR, lenO_fz, List.length_map, lt_i]
  by_cases h6 : (unio R).length < 6
  · rw [decide_eq_true (show ((unio R).length : Int) < 6 by omega)]
    have ho := orders_q (ns := unio R) (by omega)
    have hp : ∀ o ∈ allO (unio R), CdR o := fun o h => hc.sub fun a ha => (allO_perm h).mem_iff.mp ha
    have e1 : m__law_all_orders [.fz ((unio R).map .str)] = qP (.fz ((allO (unio R)).map sR)) := ho.1
    simp only [if_true, e1, qB_P, qB_Z, qB_B, qO_some, qTr_b, qI_i, nr_fz, nr_tup, nr_str, nr_int, nr_bl, nr_non, nr_ty, nr_dic, nr_scr, qOp2_n, qCall_1, qCall_2, qSl_n, qTy_n, qMeth_n, tyOk_f, tyOk_s, qIt_f, qIt_t, qIt_s, qEnum_f, qZip_t, qZip_f, un2_t, un3_t, un4_t, slU_f, slU_t, slL_f, revL_f, qSeq_nxt, qSeq_ret, qSeq_B, qSeq_nx, qFn_ret, qFn_nxt, qFn_B]
    rw [qComp_f (en := sR) (f := sR) (p := fun o => keepsB o R) (by have := ho.2.1; omega)]
    · have e2 : Sw.neT (.fz (((allO (unio R)).filter fun o => keepsB o R).map sR)) (.fz []) = some (.bl (!(((allO (unio R)).filter fun o => keepsB o R).map sR).isEmpty)) := ne_nil (dat_rows (n := 58) fun r hr => hp r (List.mem_filter.mp hr).1)
      have e3 : Sw.eqT (.str w) (.str [108, 105, 110, 101]) = some (.bl (w == lineS)) := eq_s hw (by decide)
      have e4 : ixU (.tup [.str w, x]) (.int 0) = some (.str w) := by rw [ix_t0]; rfl
      simp only [qB_P, qB_Z, qB_B, qO_some, qTr_b, qI_i, nr_fz, nr_tup, nr_str, nr_int, nr_bl, nr_non, nr_ty, nr_dic, nr_scr, qOp2_n, qCall_1, qCall_2, qSl_n, qTy_n, qMeth_n, tyOk_f, tyOk_s, qIt_f, qIt_t, qIt_s, qEnum_f, qZip_t, qZip_f, un2_t, un3_t, un4_t, slU_f, slU_t, slL_f, revL_f, qSeq_nxt, qSeq_ret, qSeq_B, qSeq_nx, qFn_ret, qFn_nxt, qFn_B, e2, e3, e4, if_true, eq_b, Qw_P]
      have e5 : ((!(((allO (unio R)).filter fun o => keepsB o R).map sR).isEmpty) == (w == lineS)) = true := by
        rw [hv]
        have := orders_iff hf.g
        cases hq : live (runs KK R).2 with
        | false =>
          have h1 := this.mpr hq
          cases hz : (allO (unio R)).filter fun o => keepsB o R with
          | nil => exact absurd hz h1
          | cons a b => rfl
        | true =>
          cases hz : (allO (unio R)).filter fun o => keepsB o R with
          | nil => rfl
          | cons a b =>
            have h1 := this.mp (by rw [hz]; simp)
            rw [h1] at hq
            cases hq
      rw [e5]
      exact hΦ
    · intro o ho'
      have hco := hp o ho'
      have := ho.2.2 o ho'
      rw [keeps_q hco (by omega) hcR]
      simp only [qB_P, qB_Z, qB_B, qO_some, qTr_b, qI_i, nr_fz, nr_tup, nr_str, nr_int, nr_bl, nr_non, nr_ty, nr_dic, nr_scr, qOp2_n, qCall_1, qCall_2, qSl_n, qTy_n, qMeth_n, tyOk_f, tyOk_s, qIt_f, qIt_t, qIt_s, qEnum_f, qZip_t, qZip_f, un2_t, un3_t, un4_t, slU_f, slU_t, slL_f, revL_f, qSeq_nxt, qSeq_ret, qSeq_B, qSeq_nx, qFn_ret, qFn_nxt, qFn_B]
      exact qIf_P
  · rw [decide_eq_false (show ¬ ((unio R).length : Int) < 6 by omega)]
    simp only [Bool.false_eq_true, if_false, qB_P, qB_Z, qB_B, qO_some, qTr_b, qI_i, nr_fz, nr_tup, nr_str, nr_int, nr_bl, nr_non, nr_ty, nr_dic, nr_scr, qOp2_n, qCall_1, qCall_2, qSl_n, qTy_n, qMeth_n, tyOk_f, tyOk_s, qIt_f, qIt_t, qIt_s, qEnum_f, qZip_t, qZip_f, un2_t, un3_t, un4_t, slU_f, slU_t, slL_f, revL_f, qSeq_nxt, qSeq_ret, qSeq_B, qSeq_nx, qFn_ret, qFn_nxt, qFn_B, Qw_P]
    exact hΦ
theorem right_w {S : List Ob} {R : List Row} (hf : Few R) : Fw m__law_right [.fz (R.map sR)] S (fun t S' => t = .bl true ∧ S' = S) := by
  have hg := hf.g
  have hn : ∀ r ∈ R, r.Nodup := fun r hr => (hg.2 r hr).1.1
  refine fw_of (q := q__law_right _) qs__law_right ?_
  unfold q__law_right qb__law_right
  rw [Qw_qFn, Qw_seq]
  simp only [qIt_f, qB_P]
  refine Qw_for (fun k a S1 => S1 = S ∧ a = sR (unio (R.take k))) _ 0 _ _ ⟨rfl, rfl⟩ ?_ ?_
  · rintro i t a S1 hi ⟨rfl, rfl⟩
    rw [Nat.zero_add]
    rw [List.getElem?_map] at hi
    obtain ⟨r, er, rfl⟩ := Option.map_eq_some_iff.mp hi
    have hr := List.mem_of_getElem? er
    have hgr := hg.2 r hr
    have hl26 := hgr.2
    obtain ⟨hc, hl⟩ := hf.u i
    simp only [qB_P, qB_Z, qB_B, qO_some, qTr_b, qI_i, nr_fz, nr_tup, nr_str, nr_int, nr_bl, nr_non, nr_ty, nr_dic, nr_scr, qOp2_n, qCall_1, qCall_2, qSl_n, qTy_n, qMeth_n, tyOk_f, tyOk_s, qIt_f, qIt_t, qIt_s, qEnum_f, qZip_t, qZip_f, un2_t, un3_t, un4_t, slU_f, slU_t, slL_f, revL_f, qSeq_nxt, qSeq_ret, qSeq_B, qSeq_nx, qFn_ret, qFn_nxt, qFn_B, sR]
    rw [qComp_f (en := T.str) (f := T.str) (p := fun a => !((unio (R.take i)).contains a)) (by omega)]
    · simp only [qB_P, qB_Z, qB_B, qO_some, qTr_b, qI_i, nr_fz, nr_tup, nr_str, nr_int, nr_bl, nr_non, nr_ty, nr_dic, nr_scr, qOp2_n, qCall_1, qCall_2, qSl_n, qTy_n, qMeth_n, tyOk_f, tyOk_s, qIt_f, qIt_t, qIt_s, qEnum_f, qZip_t, qZip_f, un2_t, un3_t, un4_t, slU_f, slU_t, slL_f, revL_f, qSeq_nxt, qSeq_ret, qSeq_B, qSeq_nx, qFn_ret, qFn_nxt, qFn_B]
      have hfl := List.length_filter_le (fun a => !((unio (R.take i)).contains a)) r
      rw [fz_add (by rw [List.length_map, List.length_map]; omega)]
      simp only [qB_P, qB_Z, qB_B, qO_some, qTr_b, qI_i, nr_fz, nr_tup, nr_str, nr_int, nr_bl, nr_non, nr_ty, nr_dic, nr_scr, qOp2_n, qCall_1, qCall_2, qSl_n, qTy_n, qMeth_n, tyOk_f, tyOk_s, qIt_f, qIt_t, qIt_s, qEnum_f, qZip_t, qZip_f, un2_t, un3_t, un4_t, slU_f, slU_t, slL_f, revL_f, qSeq_nxt, qSeq_ret, qSeq_B, qSeq_nx, qFn_ret, qFn_nxt, qFn_B, Qw_P]
      refine ⟨trivial, ?_⟩
      have e : R.take (i + 1) = R.take i ++ [r] := by rw [List.take_succ, er]; rfl
      rw [e, unio_snoc, List.map_append]
    · intro a ha
      simp only [qB_P, qB_Z, qB_B, qO_some, qTr_b, qI_i, nr_fz, nr_tup, nr_str, nr_int, nr_bl, nr_non, nr_ty, nr_dic, nr_scr, qOp2_n, qCall_1, qCall_2, qSl_n, qTy_n, qMeth_n, tyOk_f, tyOk_s, qIt_f, qIt_t, qIt_s, qEnum_f, qZip_t, qZip_f, un2_t, un3_t, un4_t, slU_f, slU_t, slL_f, revL_f, qSeq_nxt, qSeq_ret, qSeq_B, qSeq_nx, qFn_ret, qFn_nxt, qFn_B, nin_cd hc (hgr.1.2 a ha)]
      exact qIf_P
  · rintro a S1 ⟨rfl, rfl⟩
    rw [List.length_map, Nat.zero_add, List.take_length]
    obtain ⟨hc, hl⟩ := hf.u R.length
    rw [List.take_length] at hc hl
    show Qw (qB (m_merge [.fz (R.map sR)]) _) _ _
    rw [Qw_B, Qw_fn]
    refine (merge_ok hg).mono fun found S' hq => ?_
    obtain ⟨rfl, hM⟩ := hq
    rcases hM with ⟨hv, rfl⟩ | ⟨hv, ring, rfl, hr⟩
    · have hL := lin_runs hg.tot hv
      have hp := lin_perm hL hn
      have hcL : CdR (runs KK R).1 := hc.sub fun a ha => hp.mem_iff.mp ha
      have hlL : (runs KK R).1.length ≤ 17 := by rw [hp.length_eq]; exact hl
      have f1 : Sw.eqT (.str lineS) (.str [114, 105, 110, 103]) = some (.bl false) := eq_s (by decide) (by decide)
      have f2 : ixU (.tup [.str lineS, .fz ((runs KK R).1.map .str)]) (.int 0) = some (.str lineS) := by rw [ix_t0]; rfl
      have f3 : ixU (.tup [.str lineS, .fz ((runs KK R).1.map .str)]) (.int 1) = some (.fz ((runs KK R).1.map .str)) := by rw [ix_t1]; rfl
      have f4 : sortO [.fz ((runs KK R).1.map .str)] = some ((sortC (unio R)).map .str) := by rw [sort_O (by omega), sortC_eq hp]
      have f5 : sortO [.fz ((unio R).map .str)] = some ((sortC (unio R)).map .str) := sort_O (by omega)
      have f6 : Sw.eqT (.fz ((sortC (unio R)).map .str)) (.fz ((sortC (unio R)).map .str)) = some (.bl true) := by
        rw [eq_cd (sortC_cd hc) (sortC_cd hc)]
        simp
      have f7 : m__law_keeps [.fz ((runs KK R).1.map .str), .fz (R.map sR)] = qP (.bl true) := by
        have := keeps_q (o := (runs KK R).1) hcL (by omega) hg.cd
        rw [sub_keeps (lin_nodup hL) (lin_sub hL).1] at this
        exact this
      have f8 : cutL (R.map sR) none (some 4) = (R.take 4).map sR := by rw [cut_to (by decide), List.map_take]; rfl
      have f9 : m__law_no_ring [.fz ((R.take 4).map sR)] = qP (.bl true) := fw_pure fun S => no_ring_w ⟨by simp; have := hg.1; omega, fun r hr => hg.2 r (List.mem_of_mem_take hr)⟩ fun ds hd => ring_no_line (by
        have := ring_app (Q := R.drop 4) hd
        rw [List.take_append_drop] at this
        exact this) hL
      refine Qw_seqE (a := .bl true) ?_ ?_
      · simp only [qB_P, qB_Z, qB_B, qO_some, qTr_b, qI_i, nr_fz, nr_tup, nr_str, nr_int, nr_bl, nr_non, nr_ty, nr_dic, nr_scr, qOp2_n, qCall_1, qCall_2, qSl_n, qTy_n, qMeth_n, tyOk_f, tyOk_s, qIt_f, qIt_t, qIt_s, qEnum_f, qZip_t, qZip_f, un2_t, un3_t, un4_t, slU_f, slU_t, slL_f, revL_f, qSeq_nxt, qSeq_ret, qSeq_B, qSeq_nx, qFn_ret, qFn_nxt, qFn_B, f2, f1, Bool.false_eq_true, if_false, f3, f4, sR, f5, f6, if_true, f7, f8, f9]
      refine right_tail hf (w := lineS) (by decide) (by rw [hv]; rfl) ?_
      exact ⟨rfl, rfl⟩
    · have hd := ring_of_ok (runs_suf KK R (Suf.refl R)) hr
      have f1 : Sw.eqT (.str ringS) (.str [114, 105, 110, 103]) = some (.bl true) := eq_s (by decide) (by decide)
      have f2 : ixU (.tup [.str ringS, .fz (ring.map dT)]) (.int 0) = some (.str ringS) := by rw [ix_t0]; rfl
      have f3 : ixU (.tup [.str ringS, .fz (ring.map dT)]) (.int 1) = some (.fz (ring.map dT)) := by rw [ix_t1]; rfl
      have f4 : m_is_ring [.fz (R.map sR), .fz (ring.map dT)] = qP (.bl true) := by
        rw [dT_toI]
        exact fw_pure fun S => (is_ring_p hg (ring_cd hg hd)).mono fun t S' ⟨e1, e2⟩ => ⟨by rw [e1, decide_eq_true hd], e2⟩
      have f5 : isBO (.bl true) (.bl true) = some (.bl true) := rfl
      refine Qw_seqE (a := .bl true) ?_ ?_
      · simp only [qB_P, qB_Z, qB_B, qO_some, qTr_b, qI_i, nr_fz, nr_tup, nr_str, nr_int, nr_bl, nr_non, nr_ty, nr_dic, nr_scr, qOp2_n, qCall_1, qCall_2, qSl_n, qTy_n, qMeth_n, tyOk_f, tyOk_s, qIt_f, qIt_t, qIt_s, qEnum_f, qZip_t, qZip_f, un2_t, un3_t, un4_t, slU_f, slU_t, slL_f, revL_f, qSeq_nxt, qSeq_ret, qSeq_B, qSeq_nx, qFn_ret, qFn_nxt, qFn_B, f2, f1, if_true, f3, f4, f5]
      refine right_tail hf (w := ringS) (by decide) (by rw [hv]; rfl) ?_
      exact ⟨rfl, rfl⟩
end Lw
namespace Lw
open PySem PySem.Spec PyProof.Rows L2 Sw Classical
theorem nin_rows {R : List Row} {r : Row} (hR : ∀ r ∈ R, CdR r) (hr : CdR r) : ninU (.fz (r.map .str)) (.fz (R.map sR)) = some (.bl (!(R.contains r))) := by
  show ninT _ _ = _
  unfold ninT inB
  have e1 : (T.fz (r.map .str)).dat 60 = true := dat_cd hr
  have e2 : T.dats 59 (R.map sR) = true := dats_all fun t ht => by
    obtain ⟨q, hq, rfl⟩ := List.mem_map.mp ht
    exact dat_cd (hR q hq)
  have e3 : ((R.map sR).any fun z => T.eqv z (.fz (r.map .str))) = R.contains r := by
    rw [List.any_map, Bool.eq_iff_iff, List.any_eq_true, List.contains_iff_mem]
    constructor
    · rintro ⟨q, hq, h⟩
      have h : T.eqvs (q.map .str) (r.map .str) = true := h
      rw [eqvs_str] at h
      have := eq_of_beq h
      rw [← this]
      exact hq
    · intro h
      refine ⟨r, h, ?_⟩
      show T.eqvs (r.map .str) (r.map .str) = true
      rw [eqvs_str]
      simp
  simp only [e1, e2, e3, Bool.and_self, if_true, Option.map_some]
theorem ix_rows {R : List Row} {x : Int} (h0 : 0 ≤ x) (h : x < (R.length : Nat)) : ∃ r ∈ R, ixU (.fz (R.map sR)) (.int x) = some (.fz (r.map .str)) := by
  obtain ⟨r, _, h2, h3⟩ := row_at h0 h
  exact ⟨r, h2, h3⟩
theorem turned_w {S : List Ob} {p : Nat} {R : List Row} (hp : IsPot S p) (hg : GdRs R) : Fw m__law_turned_right [.ref p, .fz (R.map sR)] S (fun t S' => t = .bl true ∧ Pt p S S') := by
  refine fw_of (q := q__law_turned_right _ _) qs__law_turned_right ?_
  unfold q__law_turned_right qb__law_turned_right
  rw [Qw_qFn]
  have hRl := hg.1
  simp only [qB_P, qB_Z, qB_B, qO_some, qTr_b, qI_i, nr_fz, nr_tup, nr_str, nr_int, nr_bl, nr_non, nr_ty, nr_dic, nr_scr, qOp2_n, qCall_1, qCall_2, qSl_n, qTy_n, qMeth_n, tyOk_f, tyOk_s, qIt_f, qIt_t, qIt_s, qEnum_f, qZip_t, qZip_f, un2_t, un3_t, un4_t, slU_f, slU_t, slL_f, revL_f, qSeq_nxt, qSeq_ret, qSeq_B, qSeq_nx, qFn_ret, qFn_nxt, qFn_B]
  rw [qComp_f (en := sR) (f := sR) (p := fun r => decide (1 < r.length)) (by omega)]
  rotate_left
  · intro r hr
    simp only [qB_P, qB_Z, qB_B, qO_some, qTr_b, qI_i, nr_fz, nr_tup, nr_str, nr_int, nr_bl, nr_non, nr_ty, nr_dic, nr_scr, qOp2_n, qCall_1, qCall_2, qSl_n, qTy_n, qMeth_n, tyOk_f, tyOk_s, qIt_f, qIt_t, qIt_s, qEnum_f, qZip_t, qZip_f, un2_t, un3_t, un4_t, slU_f, slU_t, slL_f, revL_f, qSeq_nxt, qSeq_ret, qSeq_B, qSeq_nx, qFn_ret, qFn_nxt, qFn_B, nr_sR, sR, lenO_fz, List.length_map, gt_i]
    rw [show decide ((1 : Int) < (r.length : Nat)) = decide (1 < r.length) by rw [decide_eq_decide]; omega]
    exact qIf_P
  have hW16 := List.length_filter_le (fun r => decide (1 < r.length)) R
  have hWg : ∀ r ∈ R.filter (fun r => decide (1 < r.length)), r ∈ R ∧ 1 < r.length := fun r hr => by
    obtain ⟨h1, h2⟩ := List.mem_filter.mp hr
    exact ⟨h1, by simpa using h2⟩
  generalize R.filter (fun r => decide (1 < r.length)) = Wd at hWg hW16
  have e1 : Sw.eqT (.fz (Wd.map sR)) (.fz []) = some (.bl (Wd.map sR).isEmpty) := eq_nil (dat_rows (n := 58) fun r hr => hg.cd r (hWg r hr).1)
  simp only [qB_P, qB_Z, qB_B, qO_some, qTr_b, qI_i, nr_fz, nr_tup, nr_str, nr_int, nr_bl, nr_non, nr_ty, nr_dic, nr_scr, qOp2_n, qCall_1, qCall_2, qSl_n, qTy_n, qMeth_n, tyOk_f, tyOk_s, qIt_f, qIt_t, qIt_s, qEnum_f, qZip_t, qZip_f, un2_t, un3_t, un4_t, slU_f, slU_t, slL_f, revL_f, qSeq_nxt, qSeq_ret, qSeq_B, qSeq_nx, qFn_ret, qFn_nxt, qFn_B, e1]
  cases hW : Wd with
  | nil =>
    simp only [List.map_nil, List.isEmpty_nil, if_true, Qw_P]
    exact ⟨trivial, .refl hp⟩
  | cons w0 Wd' =>
  rw [← hW]
  have hne : (Wd.map sR).isEmpty = false := by rw [hW]; rfl
  have hWl : 0 < Wd.length := by rw [hW]; simp
  have hWl2 : Wd.length ≤ 100000 := by omega
  simp only [hne, Bool.false_eq_true, if_false, lenO_fz, List.length_map, qB_P, qB_Z, qB_B, qO_some, qTr_b, qI_i, nr_fz, nr_tup, nr_str, nr_int, nr_bl, nr_non, nr_ty, nr_dic, nr_scr, qOp2_n, qCall_1, qCall_2, qSl_n, qTy_n, qMeth_n, tyOk_f, tyOk_s, qIt_f, qIt_t, qIt_s, qEnum_f, qZip_t, qZip_f, un2_t, un3_t, un4_t, slU_f, slU_t, slL_f, revL_f, qSeq_nxt, qSeq_ret, qSeq_B, qSeq_nx, qFn_ret, qFn_nxt, qFn_B]
  rw [Qw_B, Qw_fn]
  refine pick_w hp (by omega) (by omega) fun x S1 h1 hx0 hx1 => ?_
  obtain ⟨r, hr, e2⟩ := ix_rows hx0 hx1
  obtain ⟨hrR, hr1⟩ := hWg r hr
  have hgr := hg.2 r hrR
  have hl26 := hgr.2
  simp only [qB_P, qB_Z, qB_B, qO_some, qTr_b, qI_i, nr_fz, nr_tup, nr_str, nr_int, nr_bl, nr_non, nr_ty, nr_dic, nr_scr, qOp2_n, qCall_1, qCall_2, qSl_n, qTy_n, qMeth_n, tyOk_f, tyOk_s, qIt_f, qIt_t, qIt_s, qEnum_f, qZip_t, qZip_f, un2_t, un3_t, un4_t, slU_f, slU_t, slL_f, revL_f, qSeq_nxt, qSeq_ret, qSeq_B, qSeq_nx, qFn_ret, qFn_nxt, qFn_B, e2, lenO_fz, List.length_map, sub_i]
  rw [Qw_B, Qw_fn]
  refine pick_w h1.1 (by omega) (by omega) fun y S2 h2 hy0 hy1 => ?_
  simp only [qB_P, qB_Z, qB_B, qO_some, qTr_b, qI_i, nr_fz, nr_tup, nr_str, nr_int, nr_bl, nr_non, nr_ty, nr_dic, nr_scr, qOp2_n, qCall_1, qCall_2, qSl_n, qTy_n, qMeth_n, tyOk_f, tyOk_s, qIt_f, qIt_t, qIt_s, qEnum_f, qZip_t, qZip_f, un2_t, un3_t, un4_t, slU_f, slU_t, slL_f, revL_f, qSeq_nxt, qSeq_ret, qSeq_B, qSeq_nx, qFn_ret, qFn_nxt, qFn_B, add_i, lenO_fz, List.length_map, sub_i]
  rw [Qw_B, Qw_fn]
  refine pick_w h2.1 (by omega) (by omega) fun z S3 h3 hz0 hz1 => ?_
  obtain ⟨a, rfl⟩ := Int.eq_ofNat_of_zero_le hy0
  obtain ⟨b, rfl⟩ := Int.eq_ofNat_of_zero_le hz0
  have hp3 := (h1.trans h2).trans h3
  have ea : ixU (.fz (r.map .str)) (.int (a : Int)) = some (.str (r.getD a [])) := ix_str (by omega)
  have eb : ixU (.fz (r.map .str)) (.int ((a : Int) + 1 + b)) = some (.str (r.getD (a + 1 + b) [])) := by
    have := @ix_str r (a + 1 + b) (by omega)
    rw [show (((a + 1 + b : Nat) : Int)) = (a : Int) + 1 + b by omega] at this
    exact this
  have ec : cutL (R.map sR) none (some 15) = (R.take 15).map sR := by rw [cut_to (by decide), List.map_take]; rfl
  have ma := getD_mem (r := r) (k := a) (by omega)
  have mb := getD_mem (r := r) (k := a + 1 + b) (by omega)
  have hne2 : r.getD a [] ≠ r.getD (a + 1 + b) [] := fun e => by
    have := get_inj hgr.1.1 (by omega) (by omega) e
    omega
  have ed : addU (.fz ((R.take 15).map sR)) (.fz [.fz [.str (r.getD (a + 1 + b) []), .str (r.getD a [])]]) = some (.fz ((R.take 15 ++ [[r.getD (a + 1 + b) [], r.getD a []]]).map sR)) := by
    rw [fz_add (by simp; omega), List.map_append]
    rfl
  have hcd := hg.cd
  have ee := nin_rows (R := R.take 15) (r := r) (fun q hq => hcd q (List.mem_of_mem_take hq)) hgr.1.2
  simp only [qB_P, qB_Z, qB_B, qO_some, qTr_b, qI_i, nr_fz, nr_tup, nr_str, nr_int, nr_bl, nr_non, nr_ty, nr_dic, nr_scr, qOp2_n, qCall_1, qCall_2, qSl_n, qTy_n, qMeth_n, tyOk_f, tyOk_s, qIt_f, qIt_t, qIt_s, qEnum_f, qZip_t, qZip_f, un2_t, un3_t, un4_t, slU_f, slU_t, slL_f, revL_f, qSeq_nxt, qSeq_ret, qSeq_B, qSeq_nx, qFn_ret, qFn_nxt, qFn_B, ea, eb, add_i, ec, ed, ee]
  cases hc : (R.take 15).contains r with
  | false =>
    simp only [Bool.not_false, if_true, Qw_P]
    exact ⟨trivial, hp3⟩
  | true =>
    have hrm : r ∈ R.take 15 := by simpa using hc
    simp only [Bool.not_true, Bool.false_eq_true, if_false]
    have hgM : GdRs (R.take 15 ++ [[r.getD (a + 1 + b) [], r.getD a []]]) := ⟨by simp; omega, fun q hq => by
      rcases List.mem_append.mp hq with hq | hq
      · exact hg.2 q (List.mem_of_mem_take hq)
      · rw [List.mem_singleton.mp hq]
        refine ⟨⟨List.nodup_cons.mpr ⟨fun h => hne2 (List.mem_singleton.mp h).symm, List.nodup_cons.mpr ⟨List.not_mem_nil, List.nodup_nil⟩⟩, fun s hs => ?_⟩, by simp⟩
        simp only [List.mem_cons, List.not_mem_nil, or_false] at hs
        rcases hs with rfl | rfl
        · exact hgr.1.2 _ mb
        · exact hgr.1.2 _ ma⟩
    rw [Qw_B, Qw_fn]
    refine (merge_ok hgM).mono fun found S' hq => ?_
    obtain ⟨rfl, hM⟩ := hq
    rcases hM with ⟨hv, rfl⟩ | ⟨hv, ring, rfl, hr'⟩
    · exfalso
      have hL := lin_runs hgM.tot hv
      have hs := (lin_sub hL).1
      have xa : r[a]? = some (r.getD a []) := by rw [List.getD_eq_getElem?_getD, List.getElem?_eq_getElem (show a < r.length by omega)]; rfl
      have xb : r[a + 1 + b]? = some (r.getD (a + 1 + b) []) := by rw [List.getD_eq_getElem?_getD, List.getElem?_eq_getElem (show a + 1 + b < r.length by omega)]; rfl
      exact two_ways (lin_nodup hL) ((two_sub xa xb (by omega)).trans (hs r (List.mem_append_left _ hrm))) (hs _ (List.mem_append_right _ (List.mem_singleton.mpr rfl)))
    · have hd := ring_of_ok (runs_suf KK _ (Suf.refl _)) hr'
      have f1 : Sw.eqT (.str ringS) (.str [114, 105, 110, 103]) = some (.bl true) := eq_s (by decide) (by decide)
      have f2 : ixU (.tup [.str ringS, .fz (ring.map dT)]) (.int 0) = some (.str ringS) := by rw [ix_t0]; rfl
      have f3 : ixU (.tup [.str ringS, .fz (ring.map dT)]) (.int 1) = some (.fz (ring.map dT)) := by rw [ix_t1]; rfl
      have f4 : m_is_ring [.fz ((R.take 15 ++ [[r.getD (a + 1 + b) [], r.getD a []]]).map sR), .fz (ring.map dT)] = qP (.bl true) := by
        rw [dT_toI]
        exact fw_pure fun S => (is_ring_p hgM (ring_cd hgM hd)).mono fun t S' ⟨e1, e2⟩ => ⟨by rw [e1, decide_eq_true hd], e2⟩
      have f5 : isBO (.bl true) (.bl true) = some (.bl true) := rfl
      simp only [qB_P, qB_Z, qB_B, qO_some, qTr_b, qI_i, nr_fz, nr_tup, nr_str, nr_int, nr_bl, nr_non, nr_ty, nr_dic, nr_scr, qOp2_n, qCall_1, qCall_2, qSl_n, qTy_n, qMeth_n, tyOk_f, tyOk_s, qIt_f, qIt_t, qIt_s, qEnum_f, qZip_t, qZip_f, un2_t, un3_t, un4_t, slU_f, slU_t, slL_f, revL_f, qSeq_nxt, qSeq_ret, qSeq_B, qSeq_nx, qFn_ret, qFn_nxt, qFn_B, f2, f1, if_true, f3, f4, f5, Qw_P]
      exact ⟨trivial, hp3⟩
end Lw
namespace Lw
open PySem PySem.Spec PyProof.Rows L2 Sw Classical
theorem law_w (ns : List Int) : Fw m_law [.scr ns] [] (fun t _ => t = .bl true) := by
  refine fw_of (q := q_law _) qs_law ?_
  unfold q_law qb_law
  rw [Qw_qFn, Qw_B, Qw_fn]
  refine pot_ok.mono fun t S0 hq => ?_
  obtain ⟨rfl, ob, rfl, hob⟩ := hq
  have hp0 : IsPot [ob] 0 := ⟨ob, rfl, hob⟩
  rw [Qw_seq, Qw_B, qRange_i (by decide) (by decide), Qw_P]
  refine Qw_forI (fun _ S1 => IsPot S1 0) hp0 ?_ ?_
  · intro t a S1 _ hp
    rw [Qw_B]
    rw [Qw_B, Qw_B, Qw_fn]
    refine pick_w hp (by decide) (by decide) fun x S2 h2 hx0 hx1 => ?_
    obtain ⟨n, rfl⟩ := Int.eq_ofNat_of_zero_le hx0
    simp only [qOp2_n nr_int nr_int, add_i, qO_some, Qw_P]
    rw [show (1 : Int) + (n : Nat) = ((1 + n : Nat) : Int) by omega, Qw_fn]
    refine (names_ok h2.1 (by omega)).mono fun t S3 hq => ?_
    obtain ⟨h3, nm, rfl, hn, hnl⟩ := hq
    rw [Qw_B, Qw_P, Qw_seq, Qw_B, Qw_B, Qw_fn]
    refine pick_w h3.1 (by decide) (by decide) fun x S4 h4 hx0 hx1 => ?_
    obtain ⟨m, rfl⟩ := Int.eq_ofNat_of_zero_le hx0
    rw [qRange_n (by omega), Qw_P]
    refine Qw_for (fun k a S1 => IsPot S1 0 ∧ ∃ R : List Row, a = R.map sR ∧ R.length ≤ k ∧ ∀ r ∈ R, GdN nm r) _ 0 _ _ ⟨h4.1, [], rfl, Nat.le_refl _, fun r hr => by cases hr⟩ ?_ ?_
    · rintro i t a S5 hi ⟨hp5, R, rfl, hRl, hR⟩
      have hi7 : i < 7 := by
        have := (List.getElem?_eq_some_iff.mp hi).1
        rw [List.length_map, List.length_range] at this
        omega
      rw [Nat.zero_add] at hRl ⊢
      rw [Qw_B, Qw_B, Qw_B, Qw_B]
      simp only [qCall_1 nr_fz, lenO_fz, List.length_map, qO_some, qB_P]
      rw [Qw_fn]
      refine (order_ok hp5 (by omega)).mono fun t S6 hq => ?_
      obtain ⟨h6, ks, rfl, hkn, hkl, hkk⟩ := hq
      simp only [qIt_f, Qw_P]
      unfold intsL
      rw [qComp_a (en := fun k : Nat => T.int (k : Int)) (f := fun k => T.str (nm.getD k [])) (by omega) (fun k hk => by
        simp only [qB_P, qB_Z, qB_B, qO_some, qTr_b, qI_i, nr_fz, nr_tup, nr_str, nr_int, nr_bl, nr_non, nr_ty, nr_dic, nr_scr, qOp2_n, qCall_1, qCall_2, qSl_n, qTy_n, qMeth_n, tyOk_f, tyOk_s, qIt_f, qIt_t, qIt_s, qEnum_f, qZip_t, qZip_f, un2_t, un3_t, un4_t, slU_f, slU_t, slL_f, revL_f, qSeq_nxt, qSeq_ret, qSeq_B, qSeq_nx, qFn_ret, qFn_nxt, qFn_B, ix_str (hkl k hk)]), Qw_P]
      rw [show (ks.map fun k => T.str (nm.getD k [])) = (ks.map fun k => nm.getD k []).map T.str by rw [List.map_map]; rfl]
      have hrow : NmL (ks.map fun k => nm.getD k []) := hn.pick hkn hkl
      have hrm : ∀ s ∈ (ks.map fun k => nm.getD k []), s ∈ nm := fun s hs => by
        obtain ⟨k, hk, rfl⟩ := List.mem_map.mp hs
        exact getD_mem (hkl k hk)
      have hrl : (ks.map fun k => nm.getD k []).length ≤ 5 := by rw [List.length_map]; omega
      generalize (ks.map fun k => nm.getD k []) = row at hrow hrm hrl
      rw [Qw_B, Qw_B, Qw_fn]
      refine pick_w h6.1 (by decide) (by decide) fun x S7 h7 hx0 hx1 => ?_
      simp only [qOp2_n nr_int nr_int, add_i, qO_some, Qw_P]
      rw [Qw_B, Qw_B, Qw_B, Qw_B, Qw_fn]
      refine pick_w h7.1 (by decide) (by decide) fun y S8 h8 hy0 hy1 => ?_
      simp only [qOp2_n nr_int nr_int, eq_i, qO_some, Qw_P, qTr_b]
      have hsort : ∃ row2 : Row, (if (y == 0) = true then qB (qCall sortO [.fz (row.map .str)]) (fun l => qP (.fz l)) else qP (.fz (row.map .str)) : Q T) = qP (.fz (row2.map .str)) ∧ NmL row2 ∧ (∀ s ∈ row2, s ∈ nm) ∧ row2.length ≤ 5 := by
        split
        · refine ⟨sortC row, ?_, hrow.perm sortC_perm, fun s hs => hrm s (sortC_perm.mem_iff.mp hs), by rw [sortC_perm.length_eq]; exact hrl⟩
          simp only [qCall_1 nr_fz, sort_O (show row.length < 64 by omega), qO_some, qB_P]
        · exact ⟨row, rfl, hrow, hrm, hrl⟩
      obtain ⟨row2, e2, hr2, hm2, hl2⟩ := hsort
      rw [e2, Qw_P]
      simp only [Qw_B, qIt_f, Qw_P]
      refine Qw_comp (fun j done S1 => IsPot S1 0 ∧ ∃ zs : Row, done = zs.map .str ∧ zs.Sublist (row2.take j)) (by rw [List.length_map]; omega) ⟨h8.1, [], rfl, List.nil_sublist _⟩ ?_ ?_
      · rintro j t done S9 hj ⟨hp9, zs, rfl, hz⟩
        rw [List.getElem?_map] at hj
        obtain ⟨s, es, rfl⟩ := Option.map_eq_some_iff.mp hj
        have et : row2.take (j + 1) = row2.take j ++ [s] := by rw [List.take_succ, es]; rfl
        simp only [Qw_B, Qw_fn]
        refine pick_w hp9 (by decide) (by decide) fun z S10 h10 hz0 hz1 => ?_
        simp only [qOp2_n nr_int nr_int, lt_i, qO_some, Qw_P, qTr_b]
        split
        · rw [Qw_P]
          refine ⟨h10.1, zs ++ [s], by simp, ?_⟩
          rw [et]
          exact hz.append (List.Sublist.refl _)
        · rw [Qw_P]
          refine ⟨h10.1, zs, rfl, ?_⟩
          rw [et]
          exact hz.trans (List.sublist_append_left _ _)
      · rintro ys S9 ⟨hp9, zs, rfl, hz⟩
        have hz2 := hz.trans (List.take_sublist _ _)
        have hzl := hz2.length_le
        rw [append_i (by rw [List.length_map]; omega), qO_some, Qw_P]
        refine ⟨hp9, R ++ [zs], by rw [List.map_append]; rfl, by rw [List.length_append, List.length_singleton]; omega, fun r hr => ?_⟩
        rcases List.mem_append.mp hr with hr | hr
        · exact hR r hr
        · rw [List.mem_singleton.mp hr]
          exact ⟨⟨hr2.sub hz2, by omega⟩, fun s hs => hm2 s (hz2.subset hs)⟩
    · rintro a S5 ⟨hp5, R, rfl, hRl, hR⟩
      rw [List.length_map, List.length_range, Nat.zero_add] at hRl
      have hf1 : Few R := ⟨⟨by omega, fun r hr => (hR r hr).1⟩, nm, hn, by omega, fun r hr => (hR r hr).2⟩
      show Qw (qSeq _ _) S5 _
      rw [Qw_seq, Qw_B, Qw_B, Qw_B, Qw_B, Qw_fn]
      refine (rows_ok hp5).mono fun t S6 hq => ?_
      obtain ⟨h6, R2, rfl, hR2l, hR2, ns2, hn2, hn2l, hm2⟩ := hq
      have hf2 : Few R2 := ⟨⟨hR2l, hR2⟩, ns2, hn2, hn2l, hm2⟩
      simp only [Qw_P, qIt_f]
      refine Qw_forI (fun _ S1 => IsPot S1 0) h6.1 ?_ ?_
      · intro t a S7 ht hp7
        have hx : ∃ Q : List Row, t = .fz (Q.map sR) ∧ Few Q := by
          simp only [List.mem_cons, List.not_mem_nil, or_false] at ht
          rcases ht with rfl | rfl
          · exact ⟨R, rfl, hf1⟩
          · exact ⟨R2, rfl, hf2⟩
        obtain ⟨Z, rfl, hf⟩ := hx
        have e1 : m__law_right [.fz (Z.map sR)] = qP (.bl true) := fw_pure fun S => right_w hf
        simp only [e1, qB_P, qTr_b, Bool.not_true, Bool.false_eq_true, if_false]
        rw [Qw_B, Qw_B, Qw_B, Qw_fn]
        refine (turned_w hp7 hf.g).mono fun t S8 hq => ?_
        obtain ⟨rfl, h8⟩ := hq
        simp only [qTr_b, Qw_P, Bool.not_true, Bool.false_eq_true, if_false]
        exact h8.1
      · intro a S7 hp7
        simp only [Qw_P]
        exact hp7
  · intro a S1 hp
    simp only [Qw_P]
theorem law_eq (ns : List Int) (h : ns.length ≤ 63) : ∃ S', m_law [.scr ns] [] = some (.ok (.bl true), S') := by
  obtain ⟨t, S', e, rfl⟩ := (law_w ns).ex
  exact ⟨S', e⟩
end Lw
set_option maxHeartbeats 4000000
namespace Lw
open PySem PySem.Spec PyProof.Rows L2 Sw
open Classical
def topS (i : Nat) : Stmt := PySem.Challenge.pw_swiftkin_k04_whole_line_or_ring.main.body.getD i (.Pass ⟨0, 0, 0, 0⟩)
abbrev s_head_of : Stmt := topS 1
abbrev N_head_of : List Str := ["rows", "row", "other"]
theorem sc_head_of : FnScope N_head_of ["rows"] (defScope s_head_of) := ⟨rfl, rfl, rfl, by decide +kernel, rfl, by decide +kernel, by decide +kernel⟩
abbrev s_ring_of : Stmt := topS 2
abbrev N_ring_of : List Str := ["rows", "name", "row", "met", "demands", "number"]
theorem sc_ring_of : FnScope N_ring_of ["rows"] (defScope s_ring_of) := ⟨rfl, rfl, rfl, by decide +kernel, rfl, by decide +kernel, by decide +kernel⟩
abbrev s_merge : Stmt := topS 3
abbrev N_merge : List Str := ["rows", "left", "row", "line", "name"]
theorem sc_merge : FnScope N_merge ["rows"] (defScope s_merge) := ⟨rfl, rfl, rfl, by decide +kernel, rfl, by decide +kernel, by decide +kernel⟩
abbrev s_is_demand : Stmt := topS 4
abbrev N_is_demand : List Str := ["rows", "demand", "one", "other", "number"]
theorem sc_is_demand : FnScope N_is_demand ["rows", "demand"] (defScope s_is_demand) := ⟨rfl, rfl, rfl, by decide +kernel, rfl, by decide +kernel, by decide +kernel⟩
abbrev s_is_ring : Stmt := topS 5
abbrev N_is_ring : List Str := ["rows", "demands", "at", "demand"]
theorem sc_is_ring : FnScope N_is_ring ["rows", "demands"] (defScope s_is_ring) := ⟨rfl, rfl, rfl, by decide +kernel, rfl, by decide +kernel, by decide +kernel⟩
abbrev s__law_blend : Stmt := topS 7
abbrev N__law_blend : List Str := ["cell", "at", "one", "two", "three"]
theorem sc__law_blend : FnScope N__law_blend ["cell", "at"] (defScope s__law_blend) := ⟨rfl, rfl, rfl, by decide +kernel, rfl, by decide +kernel, by decide +kernel⟩
abbrev s__law_pot : Stmt := topS 8
abbrev N__law_pot : List Str := ["script", "cells", "k", "cell"]
theorem sc__law_pot : FnScope N__law_pot ["script"] (defScope s__law_pot) := ⟨rfl, rfl, rfl, by decide +kernel, rfl, by decide +kernel, by decide +kernel⟩
abbrev s__law_pick : Stmt := topS 9
abbrev N__law_pick : List Str := ["pot", "many", "at", "cell", "found"]
theorem sc__law_pick : FnScope N__law_pick ["pot", "many"] (defScope s__law_pick) := ⟨rfl, rfl, rfl, by decide +kernel, rfl, by decide +kernel, by decide +kernel⟩
abbrev s__law_order : Stmt := topS 10
abbrev N__law_order : List Str := ["pot", "many", "order", "k"]
theorem sc__law_order : FnScope N__law_order ["pot", "many"] (defScope s__law_order) := ⟨rfl, rfl, rfl, by decide +kernel, rfl, by decide +kernel, by decide +kernel⟩
abbrev s__law_letters : Stmt := topS 11
abbrev N__law_letters : List Str := ["pot", "many", "small", "rest", "k", "spot", "turn", "size", "found", "part", "at"]
theorem sc__law_letters : FnScope N__law_letters ["pot", "many"] (defScope s__law_letters) := ⟨rfl, rfl, rfl, by decide +kernel, rfl, by decide +kernel, by decide +kernel⟩
abbrev s__law_names : Stmt := topS 12
abbrev N__law_names : List Str := ["pot", "many", "way", "turn", "small", "found", "k"]
theorem sc__law_names : FnScope N__law_names ["pot", "many"] (defScope s__law_names) := ⟨rfl, rfl, rfl, by decide +kernel, rfl, by decide +kernel, by decide +kernel⟩
abbrev s__law_rows : Stmt := topS 13
abbrev N__law_rows : List Str := ["pot", "shape", "many", "names", "rows", "k", "share", "row", "name", "at"]
theorem sc__law_rows : FnScope N__law_rows ["pot"] (defScope s__law_rows) := ⟨rfl, rfl, rfl, by decide +kernel, rfl, by decide +kernel, by decide +kernel⟩
abbrev s__law_all_orders : Stmt := topS 14
abbrev N__law_all_orders : List Str := ["names", "found", "name", "more", "order", "at"]
theorem sc__law_all_orders : FnScope N__law_all_orders ["names"] (defScope s__law_all_orders) := ⟨rfl, rfl, rfl, by decide +kernel, rfl, by decide +kernel, by decide +kernel⟩
abbrev s__law_keeps : Stmt := topS 15
abbrev N__law_keeps : List Str := ["order", "rows", "row", "name"]
theorem sc__law_keeps : FnScope N__law_keeps ["order", "rows"] (defScope s__law_keeps) := ⟨rfl, rfl, rfl, by decide +kernel, rfl, by decide +kernel, by decide +kernel⟩
abbrev s__law_no_ring : Stmt := topS 16
abbrev N__law_no_ring : List Str := ["rows", "known", "number", "row", "at", "one", "two", "three"]
theorem sc__law_no_ring : FnScope N__law_no_ring ["rows"] (defScope s__law_no_ring) := ⟨rfl, rfl, rfl, by decide +kernel, rfl, by decide +kernel, by decide +kernel⟩
abbrev s__law_right : Stmt := topS 17
abbrev N__law_right : List Str := ["rows", "names", "row", "name", "found", "right", "orders", "order"]
theorem sc__law_right : FnScope N__law_right ["rows"] (defScope s__law_right) := ⟨rfl, rfl, rfl, by decide +kernel, rfl, by decide +kernel, by decide +kernel⟩
abbrev s__law_turned_right : Stmt := topS 18
abbrev N__law_turned_right : List Str := ["pot", "rows", "wide", "row", "at", "other", "more", "found"]
theorem sc__law_turned_right : FnScope N__law_turned_right ["pot", "rows"] (defScope s__law_turned_right) := ⟨rfl, rfl, rfl, by decide +kernel, rfl, by decide +kernel, by decide +kernel⟩
abbrev s_law : Stmt := topS 19
abbrev N_law : List Str := ["script", "pot", "turn", "names", "rows", "k", "row", "at", "share", "name", "some"]
theorem sc_law : FnScope N_law ["script"] (defScope s_law) := ⟨rfl, rfl, rfl, by decide +kernel, rfl, by decide +kernel, by decide +kernel⟩
structure Tx (K : PySem.W.Frag) (mg : Str → Option Value) where
  a_head_of : Addr
  d_head_of : FuncData
  f_head_of : FunD K "head_of" "head_of" (defArgs s_head_of) (defBody s_head_of) (defScope s_head_of) [] [] a_head_of d_head_of
  g_head_of : mg "head_of" = some (.ref a_head_of)
  k_head_of : PySem.W.keepIn K (.ref a_head_of) = true
  b_head_of : Binds K d_head_of ["rows"] []
  a_ring_of : Addr
  d_ring_of : FuncData
  f_ring_of : FunD K "ring_of" "ring_of" (defArgs s_ring_of) (defBody s_ring_of) (defScope s_ring_of) [] [] a_ring_of d_ring_of
  g_ring_of : mg "ring_of" = some (.ref a_ring_of)
  k_ring_of : PySem.W.keepIn K (.ref a_ring_of) = true
  b_ring_of : Binds K d_ring_of ["rows"] []
  a_merge : Addr
  d_merge : FuncData
  f_merge : FunD K "merge" "merge" (defArgs s_merge) (defBody s_merge) (defScope s_merge) [] [] a_merge d_merge
  g_merge : mg "merge" = some (.ref a_merge)
  k_merge : PySem.W.keepIn K (.ref a_merge) = true
  b_merge : Binds K d_merge ["rows"] []
  a_is_demand : Addr
  d_is_demand : FuncData
  f_is_demand : FunD K "is_demand" "is_demand" (defArgs s_is_demand) (defBody s_is_demand) (defScope s_is_demand) [] [] a_is_demand d_is_demand
  g_is_demand : mg "is_demand" = some (.ref a_is_demand)
  k_is_demand : PySem.W.keepIn K (.ref a_is_demand) = true
  b_is_demand : Binds K d_is_demand ["rows", "demand"] []
  a_is_ring : Addr
  d_is_ring : FuncData
  f_is_ring : FunD K "is_ring" "is_ring" (defArgs s_is_ring) (defBody s_is_ring) (defScope s_is_ring) [] [] a_is_ring d_is_ring
  g_is_ring : mg "is_ring" = some (.ref a_is_ring)
  k_is_ring : PySem.W.keepIn K (.ref a_is_ring) = true
  b_is_ring : Binds K d_is_ring ["rows", "demands"] []
  a__law_blend : Addr
  d__law_blend : FuncData
  f__law_blend : FunD K "_law_blend" "_law_blend" (defArgs s__law_blend) (defBody s__law_blend) (defScope s__law_blend) [] [] a__law_blend d__law_blend
  g__law_blend : mg "_law_blend" = some (.ref a__law_blend)
  k__law_blend : PySem.W.keepIn K (.ref a__law_blend) = true
  b__law_blend : Binds K d__law_blend ["cell", "at"] []
  a__law_pot : Addr
  d__law_pot : FuncData
  f__law_pot : FunD K "_law_pot" "_law_pot" (defArgs s__law_pot) (defBody s__law_pot) (defScope s__law_pot) [] [] a__law_pot d__law_pot
  g__law_pot : mg "_law_pot" = some (.ref a__law_pot)
  k__law_pot : PySem.W.keepIn K (.ref a__law_pot) = true
  b__law_pot : Binds K d__law_pot ["script"] []
  a__law_pick : Addr
  d__law_pick : FuncData
  f__law_pick : FunD K "_law_pick" "_law_pick" (defArgs s__law_pick) (defBody s__law_pick) (defScope s__law_pick) [] [] a__law_pick d__law_pick
  g__law_pick : mg "_law_pick" = some (.ref a__law_pick)
  k__law_pick : PySem.W.keepIn K (.ref a__law_pick) = true
  b__law_pick : Binds K d__law_pick ["pot", "many"] []
  a__law_order : Addr
  d__law_order : FuncData
  f__law_order : FunD K "_law_order" "_law_order" (defArgs s__law_order) (defBody s__law_order) (defScope s__law_order) [] [] a__law_order d__law_order
  g__law_order : mg "_law_order" = some (.ref a__law_order)
  k__law_order : PySem.W.keepIn K (.ref a__law_order) = true
  b__law_order : Binds K d__law_order ["pot", "many"] []
  a__law_letters : Addr
  d__law_letters : FuncData
  f__law_letters : FunD K "_law_letters" "_law_letters" (defArgs s__law_letters) (defBody s__law_letters) (defScope s__law_letters) [] [] a__law_letters d__law_letters
  g__law_letters : mg "_law_letters" = some (.ref a__law_letters)
  k__law_letters : PySem.W.keepIn K (.ref a__law_letters) = true
  b__law_letters : Binds K d__law_letters ["pot", "many"] []
  a__law_names : Addr
  d__law_names : FuncData
  f__law_names : FunD K "_law_names" "_law_names" (defArgs s__law_names) (defBody s__law_names) (defScope s__law_names) [] [] a__law_names d__law_names
  g__law_names : mg "_law_names" = some (.ref a__law_names)
  k__law_names : PySem.W.keepIn K (.ref a__law_names) = true
  b__law_names : Binds K d__law_names ["pot", "many"] []
  a__law_rows : Addr
  d__law_rows : FuncData
  f__law_rows : FunD K "_law_rows" "_law_rows" (defArgs s__law_rows) (defBody s__law_rows) (defScope s__law_rows) [] [] a__law_rows d__law_rows
  g__law_rows : mg "_law_rows" = some (.ref a__law_rows)
  k__law_rows : PySem.W.keepIn K (.ref a__law_rows) = true
  b__law_rows : Binds K d__law_rows ["pot"] []
  a__law_all_orders : Addr
  d__law_all_orders : FuncData
  f__law_all_orders : FunD K "_law_all_orders" "_law_all_orders" (defArgs s__law_all_orders) (defBody s__law_all_orders) (defScope s__law_all_orders) [] [] a__law_all_orders d__law_all_orders
  g__law_all_orders : mg "_law_all_orders" = some (.ref a__law_all_orders)
  k__law_all_orders : PySem.W.keepIn K (.ref a__law_all_orders) = true
  b__law_all_orders : Binds K d__law_all_orders ["names"] []
  a__law_keeps : Addr
  d__law_keeps : FuncData
  f__law_keeps : FunD K "_law_keeps" "_law_keeps" (defArgs s__law_keeps) (defBody s__law_keeps) (defScope s__law_keeps) [] [] a__law_keeps d__law_keeps
  g__law_keeps : mg "_law_keeps" = some (.ref a__law_keeps)
  k__law_keeps : PySem.W.keepIn K (.ref a__law_keeps) = true
  b__law_keeps : Binds K d__law_keeps ["order", "rows"] []
  a__law_no_ring : Addr
  d__law_no_ring : FuncData
  f__law_no_ring : FunD K "_law_no_ring" "_law_no_ring" (defArgs s__law_no_ring) (defBody s__law_no_ring) (defScope s__law_no_ring) [] [] a__law_no_ring d__law_no_ring
  g__law_no_ring : mg "_law_no_ring" = some (.ref a__law_no_ring)
  k__law_no_ring : PySem.W.keepIn K (.ref a__law_no_ring) = true
  b__law_no_ring : Binds K d__law_no_ring ["rows"] []
  a__law_right : Addr
  d__law_right : FuncData
  f__law_right : FunD K "_law_right" "_law_right" (defArgs s__law_right) (defBody s__law_right) (defScope s__law_right) [] [] a__law_right d__law_right
  g__law_right : mg "_law_right" = some (.ref a__law_right)
  k__law_right : PySem.W.keepIn K (.ref a__law_right) = true
  b__law_right : Binds K d__law_right ["rows"] []
  a__law_turned_right : Addr
  d__law_turned_right : FuncData
  f__law_turned_right : FunD K "_law_turned_right" "_law_turned_right" (defArgs s__law_turned_right) (defBody s__law_turned_right) (defScope s__law_turned_right) [] [] a__law_turned_right d__law_turned_right
  g__law_turned_right : mg "_law_turned_right" = some (.ref a__law_turned_right)
  k__law_turned_right : PySem.W.keepIn K (.ref a__law_turned_right) = true
  b__law_turned_right : Binds K d__law_turned_right ["pot", "rows"] []
  a_law : Addr
  d_law : FuncData
  f_law : FunD K "law" "law" (defArgs s_law) (defBody s_law) (defScope s_law) [] [] a_law d_law
  g_law : mg "law" = some (.ref a_law)
  k_law : PySem.W.keepIn K (.ref a_law) = true
  b_law : Binds K d_law ["script"] []
  n_any : mg "any" = none
  n_enumerate : mg "enumerate" = none
  n_int : mg "int" = none
  n_len : mg "len" = none
  n_list : mg "list" = none
  n_range : mg "range" = none
  n_sorted : mg "sorted" = none
section
variable {P : Program} {w : World} {K : PySem.W.Frag} {mg : Str → Option Value} {base : Heap}
theorem ok_head_of (T : Tx K mg) : FnOk P w K mg base (L2.CX P w) 1 T.a_head_of T.d_head_of ["rows"] (spM K RXn 1 m_head_of) := by
  refine fn_okD 0 T.f_head_of sc_head_of rxn_ok (fun cdv A outer s H Ex hr G hp => ?_)
  exact (ssm_cons (s_for G hp (im_u G.K (ev 0)) (gn G 1) (ssm_one (sm_if (tm_not (tm_val (x_bi (b_any G) T.n_any (by decide +kernel) (oa_cons (ME.o (FE.fz (x_comp G [] [("other", 2)] (im_u G.K (ev 0)) (fun _ _ _ _ _ => (gn G.blk 2)) (fun _ _ _ _ _ => qm_nil) (fun _ _ _ _ _ => (x_cmp (k_in G.blk) (ME.o (x_ix G.blk (ov 1) (ME.o me_int))) (ME.o (me_sliceU G.blk.K (ov 2) (pm_some me_int) pm_no)))) (blkOk_by (N := N_head_of) (sc := defScope s_head_of) (by decide +kernel))))) oa_nil)))) (ssm_one (sm_ret (x_ix G (ov 1) (ME.o me_int)))) ssm_nil)))
    (ssm_one (sm_ret me_non)))
theorem ok_ring_of (T : Tx K mg) : FnOk P w K mg base (L2.CX P w) 1 T.a_ring_of T.d_ring_of ["rows"] (spM K RXn 1 m_ring_of) := by
  refine fn_okD 0 T.f_ring_of sc_ring_of rxn_ok (fun cdv A outer s H Ex hr G hp => ?_)
  exact (ssm_cons (s_set G 1 (x_ix G (ME.o (FE.fz (x_comp G [] [("row", 2)] (im_u G.K (ev 0)) (fun _ _ _ _ _ => (gn G.blk 2)) (fun _ _ _ _ _ => (qm_one (t_cmp (k_ne G.blk) (ov 2) (ME.o (FE.fz (fe_lst am_nil)))))) (fun _ _ _ _ _ => (x_ix G.blk (ov 2) (ME.o me_int))) (blkOk_by (N := N_ring_of) (sc := defScope s_ring_of) (by decide +kernel))))) (ME.o me_int)))
    (ssm_cons (s_own G 3 fe_dic)
    (ssm_cons (s_own G 4 (fe_lst am_nil))
    (ssm_cons (s_while hp (t_cmp (k_nin G) (ov 1) (ov 3)) (ssm_cons (sm_put (by have := G.hu; omega) (lv 3) (ev 1) (x_bi (b_len G) T.n_len PySem.boot_len (oa_cons (ov 4) oa_nil)))
    (ssm_cons (s_set G 5 (x_ix G (ME.o (FE.fz (x_comp G [] [("number", 5), ("row", 2)] (im_enumU rfl T.n_enumerate (am_cons (ev 0) am_nil)) (fun _ _ _ _ _ => (gm_tup G.blk.calm (gsm_cons (gn G.blk 5) (gsm_cons (gn G.blk 2) gsm_nil)) rfl rfl G.blk.K)) (fun _ _ _ _ _ => (qm_one (t_cmp (k_in G.blk) (ov 1) (ME.o (me_sliceU G.blk.K (ov 2) (pm_some me_int) pm_no))))) (fun _ _ _ _ _ => (ev 5)) (blkOk_by (N := N_ring_of) (sc := defScope s_ring_of) (by decide +kernel))))) (ME.o me_int)))
    (ssm_cons (sm_expr (x_append G (lv 4) (me_tup (am_cons (x_ix G (ME.o (x_ix G (ov 0) (ov 5))) (ME.o me_int)) (am_cons (ev 1) (am_cons (ev 5) am_nil))))))
    (ssm_one (s_set G 1 (x_ix G (ME.o (x_ix G (ov 0) (ov 5))) (ME.o me_int))))))))
    (ssm_one (sm_ret (FE.fz (fe_rev (ME.o (me_sliceU G.K (ov 4) (pm_some (x_ix G (ov 3) (ov 1))) pm_no))))))))))
theorem ok_merge (T : Tx K mg) : FnOk P w K mg base (L2.CX P w) 2 T.a_merge T.d_merge ["rows"] (spM K RXn 1 m_merge) := by
  refine fn_okD 1 T.f_merge sc_merge rxn_ok (fun cdv A outer s H Ex hr G hp => ?_)
  exact (ssm_cons (s_setC G 1 [] [("row", 2)] (im_u G.K (ev 0)) (fun _ _ _ _ _ => (gn G.blk 2)) (fun _ _ _ _ _ => qm_nil) (fun _ _ _ _ _ => (FE.fz (x_list G.blk T.n_list (oa_cons (ov 2) oa_nil)))) (blkOk_by (N := N_merge) (sc := defScope s_merge) (by decide +kernel)) (sw_true rfl rfl rfl (by decide +kernel)))
    (ssm_cons (s_own G 3 (fe_lst am_nil))
    (ssm_cons (s_while hp (tm_val (x_bi (b_any G) T.n_any (by decide +kernel) (oa_cons (ME.o (FE.fz (x_comp G [] [("row", 2)] (im_u G.K (ev 1)) (fun _ _ _ _ _ => (gn G.blk 2)) (fun _ _ _ _ _ => qm_nil) (fun _ _ _ _ _ => (x_cmp (k_ne G.blk) (ov 2) (ME.o (FE.fz (fe_lst am_nil))))) (blkOk_by (N := N_merge) (sc := defScope s_merge) (by decide +kernel))))) oa_nil))) (ssm_cons (s_set G 4 (x_fn G (ok_head_of T) hr (by omega) T.g_head_of T.k_head_of T.b_head_of (am_cons (FE.fz (x_comp G [] [("row", 2)] (im_u G.K (ev 1)) (fun _ _ _ _ _ => (gn G.blk 2)) (fun _ _ _ _ _ => (qm_one (t_cmp (k_ne G.blk) (ov 2) (ME.o (FE.fz (fe_lst am_nil)))))) (fun _ _ _ _ _ => (ev 2)) (blkOk_by (N := N_merge) (sc := defScope s_merge) (by decide +kernel)))) am_nil) (al_cons al_nil)))
    (ssm_cons (sm_if (t_cmp (k_isN G) (ov 4) (ME.o me_non)) (ssm_one (sm_ret (me_tup (am_cons (me_str (by decide +kernel)) (am_cons (x_fn G (ok_ring_of T) hr (by omega) T.g_ring_of T.k_ring_of T.b_ring_of (am_cons (ev 1) am_nil) (al_cons al_nil)) am_nil))))) ssm_nil)
    (ssm_cons (sm_expr (x_append G (lv 3) (ev 4)))
    (ssm_one (s_setC G 1 [] [("row", 2)] (im_u G.K (ev 1)) (fun _ _ _ _ _ => (gn G.blk 2)) (fun _ _ _ _ _ => qm_nil) (fun _ _ _ _ _ => (me_sliceU G.blk.K (ov 2) (pm_some (x_ty (b_int G.blk) T.n_int (by decide +kernel) (oa_cons (ME.o (x_cmp (k_eq G.blk) (ME.o (me_sliceU G.blk.K (ov 2) pm_no (pm_some me_int))) (ME.o (FE.fz (fe_lst (am_cons (ev 4) am_nil)))))) oa_nil))) pm_no)) (blkOk_by (N := N_merge) (sc := defScope s_merge) (by decide +kernel)) (sw_true rfl rfl rfl (by decide +kernel))))))))
    (ssm_one (sm_ret (me_tup (am_cons (me_str (by decide +kernel)) (am_cons (fv 3) am_nil))))))))
theorem ok_is_demand (T : Tx K mg) : FnOk P w K mg base (L2.CX P w) 1 T.a_is_demand T.d_is_demand ["rows", "demand"] (spM K RXn 2 m_is_demand) := by
  refine fn_okD 0 T.f_is_demand sc_is_demand rxn_ok (fun cdv A outer s H Ex hr G hp => ?_)
  exact (ssm_cons (sm_unp (ev 1) (gm_tup G.calm (gsm_cons (gn G 2) (gsm_cons (gn G 3) (gsm_cons (gn G 4) gsm_nil))) rfl rfl G.K))
    (ssm_cons (sm_if (WM.tm (wm_or (tm_not (t_chain (k_le G) (k_lt G) (ME.o me_int) (ov 4) (ME.o (x_bi (b_len G) T.n_len PySem.boot_len (oa_cons (ov 0) oa_nil))))) (wm_or (t_cmp (k_nin G) (ov 2) (ME.o (x_ix G (ov 0) (ov 4)))) (wm_or1 (t_cmp (k_nin G) (ov 3) (ME.o (x_ix G (ov 0) (ov 4)))))))) (ssm_one (sm_ret me_bl)) ssm_nil)
    (ssm_one (sm_ret (x_cmp (k_lt G) (ME.o (x_index G (ME.o (x_ix G (ov 0) (ov 4))) (ev 2))) (ME.o (x_index G (ME.o (x_ix G (ov 0) (ov 4))) (ev 3))))))))
theorem ok_is_ring (T : Tx K mg) : FnOk P w K mg base (L2.CX P w) 2 T.a_is_ring T.d_is_ring ["rows", "demands"] (spM K RXn 2 m_is_ring) := by
  refine fn_okD 1 T.f_is_ring sc_is_ring rxn_ok (fun cdv A outer s H Ex hr G hp => ?_)
  exact (ssm_cons (sm_if (t_cmp (k_eq G) (ME.o (x_bi (b_len G) T.n_len PySem.boot_len (oa_cons (ov 1) oa_nil))) (ME.o me_int)) (ssm_one (sm_ret me_bl)) ssm_nil)
    (ssm_cons (s_for G hp (im_enumU rfl T.n_enumerate (am_cons (ev 1) am_nil)) (gm_tup G.calm (gsm_cons (gn G 2) (gsm_cons (gn G 3) gsm_nil)) rfl rfl G.K) (ssm_one (sm_if (WM.tm (wm_or (tm_not (tm_val (x_fn G (ok_is_demand T) hr (by omega) T.g_is_demand T.k_is_demand T.b_is_demand (am_cons (ev 0) (am_cons (ev 3) am_nil)) (al_cons (al_cons al_nil))))) (wm_or1 (t_cmp (k_ne G) (ME.o (x_ix G (ME.o (x_ix G (ov 1) (ME.o (x_sub (ov 2) (ME.o me_int))))) (ME.o me_int))) (ME.o (x_ix G (ov 3) (ME.o me_int))))))) (ssm_one (sm_ret me_bl)) ssm_nil)))
    (ssm_one (sm_ret me_bl))))
theorem ok__law_blend (T : Tx K mg) : FnOk P w K mg base (L2.CX P w) 1 T.a__law_blend T.d__law_blend ["cell", "at"] (spM K RXn 2 m__law_blend) := by
  refine fn_okD 0 T.f__law_blend sc__law_blend rxn_ok (fun cdv A outer s H Ex hr G hp => ?_)
  exact (ssm_cons (sm_if (t_cmp (k_ge G) (ov 0) (ME.o (x_pow (ME.o me_int) (ME.o me_int)))) (ssm_one (sm_ret (ev 0))) ssm_nil)
    (ssm_cons (s_set G 2 (x_mod (ME.o (x_add G (ME.o (x_add G (ME.o (x_mul (ME.o (x_mod (ov 0) (ME.o me_int))) (ME.o me_int))) (ME.o (x_mul (ov 1) (ME.o me_int))))) (ME.o me_int))) (ME.o me_int)))
    (ssm_cons (s_set G 3 (x_mod (ME.o (x_add G (ME.o (x_add G (ME.o (x_mul (ov 2) (ov 2))) (ME.o (x_mul (ov 1) (ME.o me_int))))) (ME.o (x_mod (ov 0) (ME.o me_int))))) (ME.o me_int)))
    (ssm_cons (s_set G 4 (x_mod (ME.o (x_add G (ME.o (x_add G (ME.o (x_mul (ov 3) (ov 3))) (ME.o (x_mul (ov 2) (ME.o me_int))))) (ME.o me_int))) (ME.o me_int)))
    (ssm_one (sm_ret (x_add G (ME.o (x_mul (ME.o (x_add G (ME.o (x_mul (ov 2) (ME.o me_int))) (ov 3))) (ME.o me_int))) (ov 4))))))))
theorem ok__law_pot (T : Tx K mg) : FnOk P w K mg base (L2.CX P w) 1 T.a__law_pot T.d__law_pot ["script"] (spM K RXn 1 m__law_pot) := by
  refine fn_okD 0 T.f__law_pot sc__law_pot rxn_ok (fun cdv A outer s H Ex hr G hp => ?_)
  exact (ssm_cons (s_own G 1 (x_list G T.n_list (oa_cons (ME.o (me_sliceU G.K (ov 0) pm_no (pm_some me_int))) oa_nil)))
    (ssm_cons (s_for G hp (im_enumU rfl T.n_enumerate (am_cons (me_sliceU G.K (ov 0) (pm_some me_int) (pm_some me_int)) am_nil)) (gm_tup G.calm (gsm_cons (gn G 2) (gsm_cons (gn G 3) gsm_nil)) rfl rfl G.K) (ssm_one (sm_setIx (lv 1) (x_mod (ov 2) (ME.o me_int)) (x_add G (ME.o (x_ix G (ov 1) (ME.o (x_mod (ov 2) (ME.o me_int))))) (ov 3)))))
    (ssm_one (sm_ret (FE.box (fe_lst (am_cons (fv 1) (am_cons me_int (am_cons me_int am_nil)))))))))
theorem ok__law_pick (T : Tx K mg) : FnOk P w K mg base (L2.CX P w) 2 T.a__law_pick T.d__law_pick ["pot", "many"] (spM K RXn 2 m__law_pick) := by
  refine fn_okD 1 T.f__law_pick sc__law_pick rxn_ok (fun cdv A outer s H Ex hr G hp => ?_)
  exact (ssm_cons (sm_if (t_cmp (k_lt G) (ME.o (x_ix G (ov 0) (ME.o me_int))) (ov 1)) (ssm_cons (s_set G 2 (x_ix G (ov 0) (ME.o me_int)))
    (ssm_cons (s_set G 3 (x_mul (ME.o me_int) (ov 2)))
    (ssm_cons (sm_if (t_cmp (k_lt G) (ov 2) (ME.o (x_bi (b_len G) T.n_len PySem.boot_len (oa_cons (ME.o (x_ix G (ov 0) (ME.o me_int))) oa_nil)))) (ssm_one (s_set G 3 (x_ix G (ME.o (x_ix G (ov 0) (ME.o me_int))) (ov 2)))) (ssm_one (sm_if (t_cmp (k_ne G) (ME.o (x_ix G (ov 0) (ME.o me_int))) (ME.o (FE.fz (fe_lst am_nil)))) (ssm_one (s_set G 3 (x_mod (ME.o (x_ix G (ME.o (x_ix G (ov 0) (ME.o me_int))) (ME.o (x_mod (ME.o (x_add G (ME.o (x_mul (ov 2) (ME.o me_int))) (ME.o me_int))) (ME.o (x_bi (b_len G) T.n_len PySem.boot_len (oa_cons (ME.o (x_ix G (ov 0) (ME.o me_int))) oa_nil))))))) (ME.o (x_add G (ME.o (x_pow (ME.o me_int) (ME.o me_int))) (ME.o (x_mul (ME.o me_int) (ov 2)))))))) ssm_nil)))
    (ssm_cons (sm_setIx (lv 0) me_int (x_add G (ov 2) (ME.o me_int)))
    (ssm_one (sm_setIx (lv 0) me_int (x_fn G (ok__law_blend T) hr (by omega) T.g__law_blend T.k__law_blend T.b__law_blend (am_cons (ev 3) (am_cons (ev 2) am_nil)) (al_cons (al_cons al_nil))))))))) ssm_nil)
    (ssm_cons (s_set G 4 (x_mod (ME.o (x_ix G (ov 0) (ME.o me_int))) (ov 1)))
    (ssm_cons (sm_setIx (lv 0) me_int (x_div (ME.o (x_ix G (ov 0) (ME.o me_int))) (ov 1)))
    (ssm_one (sm_ret (ev 4))))))
theorem ok__law_order (T : Tx K mg) : FnOk P w K mg base (L2.CX P w) 3 T.a__law_order T.d__law_order ["pot", "many"] (spM K RXn 2 m__law_order) := by
  refine fn_okD 2 T.f__law_order sc__law_order rxn_ok (fun cdv A outer s H Ex hr G hp => ?_)
  exact (ssm_cons (s_own G 2 (fe_lst am_nil))
    (ssm_cons (s_for G hp (im_range rfl T.n_range (am_cons (ev 1) am_nil)) (gn G 3) (ssm_one (sm_expr (x_insert G (lv 2) (x_fn G (ok__law_pick T) hr (by omega) T.g__law_pick T.k__law_pick T.b__law_pick (am_cons (ev 0) (am_cons (x_add G (ov 3) (ME.o me_int)) am_nil)) (al_cons (al_cons al_nil))) (ev 3)))))
    (ssm_one (sm_ret (fv 2)))))
theorem ok__law_letters (T : Tx K mg) : FnOk P w K mg base (L2.CX P w) 3 T.a__law_letters T.d__law_letters ["pot", "many"] (spM K RXn 2 m__law_letters) := by
  refine fn_okD 2 T.f__law_letters sc__law_letters rxn_ok (fun cdv A outer s H Ex hr G hp => ?_)
  exact (ssm_cons (s_set G 2 (me_str (by decide +kernel)))
    (ssm_cons (s_set G 3 (x_join G (ME.o (me_str (by decide +kernel))) (FE.fz (x_comp G [] [("k", 4)] (im_range rfl T.n_range (am_cons me_int am_nil)) (fun _ _ _ _ _ => (gn G.blk 4)) (fun _ _ _ _ _ => qm_nil) (fun _ _ _ _ _ => (x_ix G.blk (ov 2) (ME.o (x_fn G.blk (ok__law_pick T) hr (by omega) T.g__law_pick T.k__law_pick T.b__law_pick (am_cons (ev 0) (am_cons me_int am_nil)) (al_cons (al_cons al_nil)))))) (blkOk_by (N := N__law_letters) (sc := defScope s__law_letters) (by decide +kernel))))))
    (ssm_cons (s_set G 5 (x_fn G (ok__law_pick T) hr (by omega) T.g__law_pick T.k__law_pick T.b__law_pick (am_cons (ev 0) (am_cons me_int am_nil)) (al_cons (al_cons al_nil))))
    (ssm_cons (s_set G 6 (x_fn G (ok__law_pick T) hr (by omega) T.g__law_pick T.k__law_pick T.b__law_pick (am_cons (ev 0) (am_cons me_int am_nil)) (al_cons (al_cons al_nil))))
    (ssm_cons (s_set G 7 (x_fn G (ok__law_pick T) hr (by omega) T.g__law_pick T.k__law_pick T.b__law_pick (am_cons (ev 0) (am_cons me_int am_nil)) (al_cons (al_cons al_nil))))
    (ssm_cons (s_own G 8 (fe_lst am_nil))
    (ssm_cons (s_for G hp (im_range rfl T.n_range (am_cons (ev 1) am_nil)) (gn G 4) (ssm_cons (s_set G 9 (me_sliceU G.K (ov 3) pm_no (pm_some (x_mod (ME.o (x_add G (ov 7) (ME.o (x_mul (ov 4) (ME.o (x_mod (ov 5) (ME.o me_int))))))) (ME.o me_int)))))
    (ssm_cons (s_set G 10 (x_ix G (ME.o (FE.fz (fe_lst (am_cons me_int (am_cons (x_bi (b_len G) T.n_len PySem.boot_len (oa_cons (ov 9) oa_nil)) (am_cons (x_div (ME.o (x_bi (b_len G) T.n_len PySem.boot_len (oa_cons (ov 9) oa_nil))) (ME.o me_int)) am_nil)))))) (ov 5)))
    (ssm_one (sm_expr (x_append G (lv 8) (x_add G (ME.o (x_add G (ME.o (me_sliceU G.K (ov 9) pm_no (pm_some (ev 10)))) (ME.o (x_ix G (ov 2) (ME.o (x_mod (ME.o (x_add G (ov 6) (ME.o (x_mul (ME.o me_int) (ov 4))))) (ME.o me_int))))))) (ME.o (me_sliceU G.K (ov 9) (pm_some (ev 10)) pm_no)))))))))
    (ssm_one (sm_ret (fv 8))))))))))
theorem ok__law_names (T : Tx K mg) : FnOk P w K mg base (L2.CX P w) 4 T.a__law_names T.d__law_names ["pot", "many"] (spM K RXn 2 m__law_names) := by
  refine fn_okD 3 T.f__law_names sc__law_names rxn_ok (fun cdv A outer s H Ex hr G hp => ?_)
  exact (ssm_cons (s_set G 2 (x_fn G (ok__law_pick T) hr (by omega) T.g__law_pick T.k__law_pick T.b__law_pick (am_cons (ev 0) (am_cons me_int am_nil)) (al_cons (al_cons al_nil))))
    (ssm_cons (s_set G 3 (x_fn G (ok__law_pick T) hr (by omega) T.g__law_pick T.k__law_pick T.b__law_pick (am_cons (ev 0) (am_cons me_int am_nil)) (al_cons (al_cons al_nil))))
    (ssm_cons (s_set G 4 (me_str (by decide +kernel)))
    (ssm_cons (sm_if (t_cmp (k_eq G) (ov 2) (ME.o me_int)) (ssm_one (s_set G 5 (FE.fz (x_comp G [] [("k", 6)] (im_range rfl T.n_range (am_cons (ev 1) am_nil)) (fun _ _ _ _ _ => (gn G.blk 6)) (fun _ _ _ _ _ => qm_nil) (fun _ _ _ _ _ => (x_mul (ME.o (x_ix G.blk (ov 4) (ME.o (x_mod (ME.o (x_add G.blk (ov 3) (ME.o (x_div (ov 6) (ME.o me_int))))) (ME.o me_int))))) (ME.o (x_add G.blk (ME.o me_int) (ME.o (x_mod (ov 6) (ME.o me_int))))))) (blkOk_by (N := N__law_names) (sc := defScope s__law_names) (by decide +kernel)))))) (ssm_one (s_set G 5 (x_fn G (ok__law_letters T) hr (by omega) T.g__law_letters T.k__law_letters T.b__law_letters (am_cons (ev 0) (am_cons (ev 1) am_nil)) (al_cons (al_cons al_nil))))))
    (ssm_one (sm_ret (FE.fz (x_comp G [] [("k", 6)] (im_u G.K (x_fn G (ok__law_order T) hr (by omega) T.g__law_order T.k__law_order T.b__law_order (am_cons (ev 0) (am_cons (ev 1) am_nil)) (al_cons (al_cons al_nil)))) (fun _ _ _ _ _ => (gn G.blk 6)) (fun _ _ _ _ _ => qm_nil) (fun _ _ _ _ _ => (x_ix G.blk (ov 5) (ov 6))) (blkOk_by (N := N__law_names) (sc := defScope s__law_names) (by decide +kernel))))))))))
theorem ok__law_rows (T : Tx K mg) : FnOk P w K mg base (L2.CX P w) 5 T.a__law_rows T.d__law_rows ["pot"] (spM K RXn 1 m__law_rows) := by
  refine fn_okD 4 T.f__law_rows sc__law_rows rxn_ok (fun cdv A outer s H Ex hr G hp => ?_)
  exact (ssm_cons (s_set G 1 (x_fn G (ok__law_pick T) hr (by omega) T.g__law_pick T.k__law_pick T.b__law_pick (am_cons (ev 0) (am_cons me_int am_nil)) (al_cons (al_cons al_nil))))
    (ssm_cons (s_set G 2 (x_add G (ME.o me_int) (ME.o (x_fn G (ok__law_pick T) hr (by omega) T.g__law_pick T.k__law_pick T.b__law_pick (am_cons (ev 0) (am_cons (x_ix G (ME.o (FE.fz (fe_lst (am_cons me_int (am_cons me_int (am_cons me_int (am_cons me_int am_nil))))))) (ME.o (x_fn G (ok__law_pick T) hr (by omega) T.g__law_pick T.k__law_pick T.b__law_pick (am_cons (ev 0) (am_cons me_int am_nil)) (al_cons (al_cons al_nil))))) am_nil)) (al_cons (al_cons al_nil))))))
    (ssm_cons (s_set G 3 (x_fn G (ok__law_names T) hr (by omega) T.g__law_names T.k__law_names T.b__law_names (am_cons (ev 0) (am_cons (ev 2) am_nil)) (al_cons (al_cons al_nil))))
    (ssm_cons (s_own G 4 (fe_lst am_nil))
    (ssm_cons (s_for G hp (im_range rfl T.n_range (am_cons (x_fn G (ok__law_pick T) hr (by omega) T.g__law_pick T.k__law_pick T.b__law_pick (am_cons (ev 0) (am_cons (x_ix G (ME.o (FE.fz (fe_lst (am_cons me_int (am_cons me_int (am_cons me_int (am_cons me_int am_nil))))))) (ME.o (x_fn G (ok__law_pick T) hr (by omega) T.g__law_pick T.k__law_pick T.b__law_pick (am_cons (ev 0) (am_cons me_int am_nil)) (al_cons (al_cons al_nil))))) am_nil)) (al_cons (al_cons al_nil))) am_nil)) (gn G 5) (ssm_cons (s_set G 6 (x_add G (ME.o me_int) (ME.o (x_fn G (ok__law_pick T) hr (by omega) T.g__law_pick T.k__law_pick T.b__law_pick (am_cons (ev 0) (am_cons me_int am_nil)) (al_cons (al_cons al_nil))))))
    (ssm_cons (s_own G 7 (x_comp G [] [("name", 8)] (im_u G.K (ev 3)) (fun _ _ _ _ _ => (gn G.blk 8)) (fun _ _ _ _ _ => (qm_one (t_cmp (k_lt G.blk) (ME.o (x_fn G.blk (ok__law_pick T) hr (by omega) T.g__law_pick T.k__law_pick T.b__law_pick (am_cons (ev 0) (am_cons me_int am_nil)) (al_cons (al_cons al_nil)))) (ov 6)))) (fun _ _ _ _ _ => (ev 8)) (blkOk_by (N := N__law_rows) (sc := defScope s__law_rows) (by decide +kernel))))
    (ssm_cons (sm_if (WM.tm (wm_and (t_cmp (k_gt G) (ov 1) (ME.o me_int)) (wm_and (t_cmp (k_ne G) (ov 7) (ME.o (FE.fz (fe_lst am_nil)))) (wm_and1 (t_cmp (k_lt G) (ME.o (x_fn G (ok__law_pick T) hr (by omega) T.g__law_pick T.k__law_pick T.b__law_pick (am_cons (ev 0) (am_cons me_int am_nil)) (al_cons (al_cons al_nil)))) (ME.o (x_sub (ov 1) (ME.o me_int)))))))) (ssm_cons (s_set G 9 (x_fn G (ok__law_pick T) hr (by omega) T.g__law_pick T.k__law_pick T.b__law_pick (am_cons (ev 0) (am_cons (x_bi (b_len G) T.n_len PySem.boot_len (oa_cons (ov 7) oa_nil)) am_nil)) (al_cons (al_cons al_nil))))
    (ssm_one (sm_expr (x_insert G (lv 7) (x_fn G (ok__law_pick T) hr (by omega) T.g__law_pick T.k__law_pick T.b__law_pick (am_cons (ev 0) (am_cons (x_bi (b_len G) T.n_len PySem.boot_len (oa_cons (ov 7) oa_nil)) am_nil)) (al_cons (al_cons al_nil))) (x_popAt G (lv 7) (ev 9)))))) ssm_nil)
    (ssm_cons (sm_if (WM.tm (wm_and (t_cmp (k_eq G) (ov 1) (ME.o me_int)) (wm_and1 (t_cmp (k_eq G) (ME.o (x_fn G (ok__law_pick T) hr (by omega) T.g__law_pick T.k__law_pick T.b__law_pick (am_cons (ev 0) (am_cons me_int am_nil)) (al_cons (al_cons al_nil)))) (ME.o me_int))))) (ssm_one (s_own G 7 (x_comp G [] [("at", 9)] (im_u G.K (x_fn G (ok__law_order T) hr (by omega) T.g__law_order T.k__law_order T.b__law_order (am_cons (ev 0) (am_cons (x_bi (b_len G) T.n_len PySem.boot_len (oa_cons (ov 7) oa_nil)) am_nil)) (al_cons (al_cons al_nil)))) (fun _ _ _ _ _ => (gn G.blk 9)) (fun _ _ _ _ _ => qm_nil) (fun _ _ _ _ _ => (x_ix G.blk (ov 7) (ov 9))) (blkOk_by (N := N__law_rows) (sc := defScope s__law_rows) (by decide +kernel))))) ssm_nil)
    (ssm_one (sm_expr (x_append G (lv 4) (fv 7)))))))))
    (ssm_one (sm_ret (fv 4))))))))
theorem ok__law_all_orders (T : Tx K mg) : FnOk P w K mg base (L2.CX P w) 1 T.a__law_all_orders T.d__law_all_orders ["names"] (spM K RXn 1 m__law_all_orders) := by
  refine fn_okD 0 T.f__law_all_orders sc__law_all_orders rxn_ok (fun cdv A outer s H Ex hr G hp => ?_)
  exact (ssm_cons (s_set G 1 (FE.fz (fe_lst (am_cons (FE.fz (fe_lst am_nil)) am_nil))))
    (ssm_cons (s_for G hp (im_u G.K (ev 0)) (gn G 2) (ssm_cons (s_own G 3 (fe_lst am_nil))
    (ssm_cons (s_for G hp (im_u G.K (ev 1)) (gn G 4) (ssm_one (sm_expr (x_extend G (lv 3) (FE.fz (x_comp G [] [("at", 5)] (im_range rfl T.n_range (am_cons (x_add G (ME.o (x_bi (b_len G) T.n_len PySem.boot_len (oa_cons (ov 4) oa_nil))) (ME.o me_int)) am_nil)) (fun _ _ _ _ _ => (gn G.blk 5)) (fun _ _ _ _ _ => qm_nil) (fun _ _ _ _ _ => (x_add G.blk (ME.o (x_add G.blk (ME.o (me_sliceU G.blk.K (ov 4) pm_no (pm_some (ev 5)))) (ME.o (FE.fz (fe_lst (am_cons (ev 2) am_nil)))))) (ME.o (me_sliceU G.blk.K (ov 4) (pm_some (ev 5)) pm_no)))) (blkOk_by (N := N__law_all_orders) (sc := defScope s__law_all_orders) (by decide +kernel))))))))
    (ssm_one (s_set G 1 (fv 3))))))
    (ssm_one (sm_ret (ev 1)))))
theorem ok__law_keeps (T : Tx K mg) : FnOk P w K mg base (L2.CX P w) 1 T.a__law_keeps T.d__law_keeps ["order", "rows"] (spM K RXn 2 m__law_keeps) := by
  refine fn_okD 0 T.f__law_keeps sc__law_keeps rxn_ok (fun cdv A outer s H Ex hr G hp => ?_)
  exact (ssm_cons (s_for G hp (im_u G.K (ev 1)) (gn G 2) (ssm_one (sm_if (t_cmp (k_ne G) (ME.o (FE.fz (x_comp G [] [("name", 3)] (im_u G.K (ev 0)) (fun _ _ _ _ _ => (gn G.blk 3)) (fun _ _ _ _ _ => (qm_one (t_cmp (k_in G.blk) (ov 3) (ov 2)))) (fun _ _ _ _ _ => (ev 3)) (blkOk_by (N := N__law_keeps) (sc := defScope s__law_keeps) (by decide +kernel))))) (ov 2)) (ssm_one (sm_ret me_bl)) ssm_nil)))
    (ssm_one (sm_ret me_bl)))
theorem ok__law_no_ring (T : Tx K mg) : FnOk P w K mg base (L2.CX P w) 3 T.a__law_no_ring T.d__law_no_ring ["rows"] (spM K RXn 1 m__law_no_ring) := by
  refine fn_okD 2 T.f__law_no_ring sc__law_no_ring rxn_ok (fun cdv A outer s H Ex hr G hp => ?_)
  exact (ssm_cons (s_own G 1 (fe_lst am_nil))
    (ssm_cons (s_for G hp (im_enumU rfl T.n_enumerate (am_cons (ev 0) am_nil)) (gm_tup G.calm (gsm_cons (gn G 2) (gsm_cons (gn G 3) gsm_nil)) rfl rfl G.K) (ssm_one (sm_expr (x_extend G (lv 1) (FE.fz (x_comp G [] [("at", 4)] (im_range rfl T.n_range (am_cons (x_sub (ME.o (x_bi (b_len G) T.n_len PySem.boot_len (oa_cons (ov 3) oa_nil))) (ME.o me_int)) am_nil)) (fun _ _ _ _ _ => (gn G.blk 4)) (fun _ _ _ _ _ => qm_nil) (fun _ _ _ _ _ => (me_tup (am_cons (x_ix G.blk (ov 3) (ov 4)) (am_cons (x_ix G.blk (ov 3) (ME.o (x_add G.blk (ov 4) (ME.o me_int)))) (am_cons (ev 2) am_nil))))) (blkOk_by (N := N__law_no_ring) (sc := defScope s__law_no_ring) (by decide +kernel))))))))
    (ssm_cons (s_for G hp (im_u G.K (frv 1)) (gn G 5) (ssm_cons (sm_if (tm_val (x_fn G (ok_is_ring T) hr (by omega) T.g_is_ring T.k_is_ring T.b_is_ring (am_cons (ev 0) (am_cons (FE.fz (fe_lst (am_cons (ev 5) am_nil))) am_nil)) (al_cons (al_cons al_nil)))) (ssm_one (sm_ret me_bl)) ssm_nil)
    (ssm_one (s_for G hp (im_u G.K (frv 1)) (gn G 6) (ssm_cons (sm_if (tm_val (x_fn G (ok_is_ring T) hr (by omega) T.g_is_ring T.k_is_ring T.b_is_ring (am_cons (ev 0) (am_cons (FE.fz (fe_lst (am_cons (ev 5) (am_cons (ev 6) am_nil)))) am_nil)) (al_cons (al_cons al_nil)))) (ssm_one (sm_ret me_bl)) ssm_nil)
    (ssm_one (s_for G hp (im_u G.K (me_sliceU G.K (ov 1) pm_no (pm_some me_int))) (gn G 7) (ssm_one (sm_if (tm_val (x_fn G (ok_is_ring T) hr (by omega) T.g_is_ring T.k_is_ring T.b_is_ring (am_cons (ev 0) (am_cons (FE.fz (fe_lst (am_cons (ev 5) (am_cons (ev 6) (am_cons (ev 7) am_nil))))) am_nil)) (al_cons (al_cons al_nil)))) (ssm_one (sm_ret me_bl)) ssm_nil)))))))))
    (ssm_one (sm_ret me_bl)))))
theorem ok__law_right (T : Tx K mg) : FnOk P w K mg base (L2.CX P w) 4 T.a__law_right T.d__law_right ["rows"] (spM K RXn 1 m__law_right) := by
  refine fn_okD 3 T.f__law_right sc__law_right rxn_ok (fun cdv A outer s H Ex hr G hp => ?_)
  exact (ssm_cons (s_set G 1 (FE.fz (fe_lst am_nil)))
    (ssm_cons (s_for G hp (im_u G.K (ev 0)) (gn G 2) (ssm_one (s_set G 1 (x_add G (ov 1) (ME.o (FE.fz (x_comp G [] [("name", 3)] (im_u G.K (ev 2)) (fun _ _ _ _ _ => (gn G.blk 3)) (fun _ _ _ _ _ => (qm_one (t_cmp (k_nin G.blk) (ov 3) (ov 1)))) (fun _ _ _ _ _ => (ev 3)) (blkOk_by (N := N__law_right) (sc := defScope s__law_right) (by decide +kernel)))))))))
    (ssm_cons (s_set G 4 (x_fn G (ok_merge T) hr (by omega) T.g_merge T.k_merge T.b_merge (am_cons (ev 0) am_nil) (al_cons al_nil)))
    (ssm_cons (sm_if (t_cmp (k_eq G) (ME.o (x_ix G (ov 4) (ME.o me_int))) (ME.o (me_str (by decide +kernel)))) (ssm_one (s_set G 5 (x_cmp (k_isB G) (ME.o (x_fn G (ok_is_ring T) hr (by omega) T.g_is_ring T.k_is_ring T.b_is_ring (am_cons (ev 0) (am_cons (x_ix G (ov 4) (ME.o me_int)) am_nil)) (al_cons (al_cons al_nil)))) (ME.o me_bl)))) (ssm_one (s_set G 5 (me_and (x_cmp (k_eq G) (ME.o (FE.fz (x_sorted G T.n_sorted (oa_cons (ME.o (x_ix G (ov 4) (ME.o me_int))) oa_nil)))) (ME.o (FE.fz (x_sorted G T.n_sorted (oa_cons (ov 1) oa_nil))))) (me_and (x_fn G (ok__law_keeps T) hr (by omega) T.g__law_keeps T.k__law_keeps T.b__law_keeps (am_cons (x_ix G (ov 4) (ME.o me_int)) (am_cons (ev 0) am_nil)) (al_cons (al_cons al_nil))) (me_one (x_fn G (ok__law_no_ring T) hr (by omega) T.g__law_no_ring T.k__law_no_ring T.b__law_no_ring (am_cons (me_sliceU G.K (ov 0) pm_no (pm_some me_int)) am_nil) (al_cons al_nil))))))))
    (ssm_cons (sm_if (t_cmp (k_lt G) (ME.o (x_bi (b_len G) T.n_len PySem.boot_len (oa_cons (ov 1) oa_nil))) (ME.o me_int)) (ssm_cons (s_setC G 6 [] [("order", 7)] (im_u G.K (x_fn G (ok__law_all_orders T) hr (by omega) T.g__law_all_orders T.k__law_all_orders T.b__law_all_orders (am_cons (ev 1) am_nil) (al_cons al_nil))) (fun _ _ _ _ _ => (gn G.blk 7)) (fun _ _ _ _ _ => (qm_one (tm_val (x_fn G.blk (ok__law_keeps T) hr (by omega) T.g__law_keeps T.k__law_keeps T.b__law_keeps (am_cons (ev 7) (am_cons (ev 0) am_nil)) (al_cons (al_cons al_nil)))))) (fun _ _ _ _ _ => (ev 7)) (blkOk_by (N := N__law_right) (sc := defScope s__law_right) (by decide +kernel)) (sw_true rfl rfl rfl (by decide +kernel)))
    (ssm_one (s_set G 5 (me_and (ev 5) (me_one (x_cmp (k_eq G) (ME.o (x_cmp (k_ne G) (ov 6) (ME.o (FE.fz (fe_lst am_nil))))) (ME.o (x_cmp (k_eq G) (ME.o (x_ix G (ov 4) (ME.o me_int))) (ME.o (me_str (by decide +kernel))))))))))) ssm_nil)
    (ssm_one (sm_ret (ev 5))))))))
theorem ok__law_turned_right (T : Tx K mg) : FnOk P w K mg base (L2.CX P w) 3 T.a__law_turned_right T.d__law_turned_right ["pot", "rows"] (spM K RXn 2 m__law_turned_right) := by
  refine fn_okD 2 T.f__law_turned_right sc__law_turned_right rxn_ok (fun cdv A outer s H Ex hr G hp => ?_)
  exact (ssm_cons (s_setC G 2 [] [("row", 3)] (im_u G.K (ev 1)) (fun _ _ _ _ _ => (gn G.blk 3)) (fun _ _ _ _ _ => (qm_one (t_cmp (k_gt G.blk) (ME.o (x_bi (b_len G.blk) T.n_len PySem.boot_len (oa_cons (ov 3) oa_nil))) (ME.o me_int)))) (fun _ _ _ _ _ => (ev 3)) (blkOk_by (N := N__law_turned_right) (sc := defScope s__law_turned_right) (by decide +kernel)) (sw_true rfl rfl rfl (by decide +kernel)))
    (ssm_cons (sm_if (t_cmp (k_eq G) (ov 2) (ME.o (FE.fz (fe_lst am_nil)))) (ssm_one (sm_ret me_bl)) ssm_nil)
    (ssm_cons (s_set G 3 (x_ix G (ov 2) (ME.o (x_fn G (ok__law_pick T) hr (by omega) T.g__law_pick T.k__law_pick T.b__law_pick (am_cons (ev 0) (am_cons (x_bi (b_len G) T.n_len PySem.boot_len (oa_cons (ov 2) oa_nil)) am_nil)) (al_cons (al_cons al_nil))))))
    (ssm_cons (s_set G 4 (x_fn G (ok__law_pick T) hr (by omega) T.g__law_pick T.k__law_pick T.b__law_pick (am_cons (ev 0) (am_cons (x_sub (ME.o (x_bi (b_len G) T.n_len PySem.boot_len (oa_cons (ov 3) oa_nil))) (ME.o me_int)) am_nil)) (al_cons (al_cons al_nil))))
    (ssm_cons (s_set G 5 (x_add G (ME.o (x_add G (ov 4) (ME.o me_int))) (ME.o (x_fn G (ok__law_pick T) hr (by omega) T.g__law_pick T.k__law_pick T.b__law_pick (am_cons (ev 0) (am_cons (x_sub (ME.o (x_sub (ME.o (x_bi (b_len G) T.n_len PySem.boot_len (oa_cons (ov 3) oa_nil))) (ME.o me_int))) (ov 4)) am_nil)) (al_cons (al_cons al_nil))))))
    (ssm_cons (s_set G 6 (x_add G (ME.o (me_sliceU G.K (ov 1) pm_no (pm_some me_int))) (ME.o (FE.fz (fe_lst (am_cons (FE.fz (fe_lst (am_cons (x_ix G (ov 3) (ov 5)) (am_cons (x_ix G (ov 3) (ov 4)) am_nil)))) am_nil))))))
    (ssm_cons (sm_if (t_cmp (k_nin G) (ov 3) (ME.o (me_sliceU G.K (ov 1) pm_no (pm_some me_int)))) (ssm_one (sm_ret me_bl)) ssm_nil)
    (ssm_cons (s_set G 7 (x_fn G (ok_merge T) hr (by omega) T.g_merge T.k_merge T.b_merge (am_cons (ev 6) am_nil) (al_cons al_nil)))
    (ssm_one (sm_ret (me_and (x_cmp (k_eq G) (ME.o (x_ix G (ov 7) (ME.o me_int))) (ME.o (me_str (by decide +kernel)))) (me_one (x_cmp (k_isB G) (ME.o (x_fn G (ok_is_ring T) hr (by omega) T.g_is_ring T.k_is_ring T.b_is_ring (am_cons (ev 6) (am_cons (x_ix G (ov 7) (ME.o me_int)) am_nil)) (al_cons (al_cons al_nil)))) (ME.o me_bl))))))))))))))
theorem ok_law (T : Tx K mg) : FnOk P w K mg base (L2.CX P w) 6 T.a_law T.d_law ["script"] (spM K RXn 1 m_law) := by
  refine fn_okD 5 T.f_law sc_law rxn_ok (fun cdv A outer s H Ex hr G hp => ?_)
  exact (ssm_cons (s_set G 1 (x_fn G (ok__law_pot T) hr (by omega) T.g__law_pot T.k__law_pot T.b__law_pot (am_cons (ev 0) am_nil) (al_cons al_nil)))
    (ssm_cons (s_for G hp (im_range rfl T.n_range (am_cons me_int am_nil)) (gn G 2) (ssm_cons (s_set G 3 (x_fn G (ok__law_names T) hr (by omega) T.g__law_names T.k__law_names T.b__law_names (am_cons (ev 1) (am_cons (x_add G (ME.o me_int) (ME.o (x_fn G (ok__law_pick T) hr (by omega) T.g__law_pick T.k__law_pick T.b__law_pick (am_cons (ev 1) (am_cons me_int am_nil)) (al_cons (al_cons al_nil))))) am_nil)) (al_cons (al_cons al_nil))))
    (ssm_cons (s_own G 4 (fe_lst am_nil))
    (ssm_cons (s_for G hp (im_range rfl T.n_range (am_cons (x_fn G (ok__law_pick T) hr (by omega) T.g__law_pick T.k__law_pick T.b__law_pick (am_cons (ev 1) (am_cons me_int am_nil)) (al_cons (al_cons al_nil))) am_nil)) (gn G 5) (ssm_cons (s_setC G 6 [] [("at", 7)] (im_u G.K (x_fn G (ok__law_order T) hr (by omega) T.g__law_order T.k__law_order T.b__law_order (am_cons (ev 1) (am_cons (x_bi (b_len G) T.n_len PySem.boot_len (oa_cons (ov 3) oa_nil)) am_nil)) (al_cons (al_cons al_nil)))) (fun _ _ _ _ _ => (gn G.blk 7)) (fun _ _ _ _ _ => qm_nil) (fun _ _ _ _ _ => (x_ix G.blk (ov 3) (ov 7))) (blkOk_by (N := N_law) (sc := defScope s_law) (by decide +kernel)) (sw_true rfl rfl rfl (by decide +kernel)))
    (ssm_cons (s_set G 8 (x_add G (ME.o me_int) (ME.o (x_fn G (ok__law_pick T) hr (by omega) T.g__law_pick T.k__law_pick T.b__law_pick (am_cons (ev 1) (am_cons me_int am_nil)) (al_cons (al_cons al_nil))))))
    (ssm_cons (s_set G 6 (me_if (t_cmp (k_eq G) (ME.o (x_fn G (ok__law_pick T) hr (by omega) T.g__law_pick T.k__law_pick T.b__law_pick (am_cons (ev 1) (am_cons me_int am_nil)) (al_cons (al_cons al_nil)))) (ME.o me_int)) (FE.fz (x_sorted G T.n_sorted (oa_cons (ov 6) oa_nil))) (ev 6)))
    (ssm_one (sm_expr (x_append G (lv 4) (FE.fz (x_comp G [] [("name", 9)] (im_u G.K (ev 6)) (fun _ _ _ _ _ => (gn G.blk 9)) (fun _ _ _ _ _ => (qm_one (t_cmp (k_lt G.blk) (ME.o (x_fn G.blk (ok__law_pick T) hr (by omega) T.g__law_pick T.k__law_pick T.b__law_pick (am_cons (ev 1) (am_cons me_int am_nil)) (al_cons (al_cons al_nil)))) (ov 8)))) (fun _ _ _ _ _ => (ev 9)) (blkOk_by (N := N_law) (sc := defScope s_law) (by decide +kernel)))))))))))
    (ssm_one (s_for G hp (im_u G.K (FE.fz (fe_lst (am_cons (fv 4) (am_cons (x_fn G (ok__law_rows T) hr (by omega) T.g__law_rows T.k__law_rows T.b__law_rows (am_cons (ev 1) am_nil) (al_cons al_nil)) am_nil))))) (gn G 10) (ssm_one (sm_if (WM.tm (wm_or (tm_not (tm_val (x_fn G (ok__law_right T) hr (by omega) T.g__law_right T.k__law_right T.b__law_right (am_cons (ev 10) am_nil) (al_cons al_nil)))) (wm_or1 (tm_not (tm_val (x_fn G (ok__law_turned_right T) hr (by omega) T.g__law_turned_right T.k__law_turned_right T.b__law_turned_right (am_cons (ev 1) (am_cons (ev 10) am_nil)) (al_cons (al_cons al_nil)))))))) (ssm_one (sm_ret me_bl)) ssm_nil))))))))
    (ssm_one (sm_ret me_bl))))
end
def dd_head_of : He.DefD := ⟨("head_of", none), "head_of", "head_of", defArgs s_head_of, defBody s_head_of, defScope s_head_of, [], []⟩
def dd_ring_of : He.DefD := ⟨("ring_of", none), "ring_of", "ring_of", defArgs s_ring_of, defBody s_ring_of, defScope s_ring_of, [], []⟩
def dd_merge : He.DefD := ⟨("merge", none), "merge", "merge", defArgs s_merge, defBody s_merge, defScope s_merge, [], []⟩
def dd_is_demand : He.DefD := ⟨("is_demand", none), "is_demand", "is_demand", defArgs s_is_demand, defBody s_is_demand, defScope s_is_demand, [], []⟩
def dd_is_ring : He.DefD := ⟨("is_ring", none), "is_ring", "is_ring", defArgs s_is_ring, defBody s_is_ring, defScope s_is_ring, [], []⟩
def dd__law_blend : He.DefD := ⟨("_law_blend", none), "_law_blend", "_law_blend", defArgs s__law_blend, defBody s__law_blend, defScope s__law_blend, [], []⟩
def dd__law_pot : He.DefD := ⟨("_law_pot", none), "_law_pot", "_law_pot", defArgs s__law_pot, defBody s__law_pot, defScope s__law_pot, [], []⟩
def dd__law_pick : He.DefD := ⟨("_law_pick", none), "_law_pick", "_law_pick", defArgs s__law_pick, defBody s__law_pick, defScope s__law_pick, [], []⟩
def dd__law_order : He.DefD := ⟨("_law_order", none), "_law_order", "_law_order", defArgs s__law_order, defBody s__law_order, defScope s__law_order, [], []⟩
def dd__law_letters : He.DefD := ⟨("_law_letters", none), "_law_letters", "_law_letters", defArgs s__law_letters, defBody s__law_letters, defScope s__law_letters, [], []⟩
def dd__law_names : He.DefD := ⟨("_law_names", none), "_law_names", "_law_names", defArgs s__law_names, defBody s__law_names, defScope s__law_names, [], []⟩
def dd__law_rows : He.DefD := ⟨("_law_rows", none), "_law_rows", "_law_rows", defArgs s__law_rows, defBody s__law_rows, defScope s__law_rows, [], []⟩
def dd__law_all_orders : He.DefD := ⟨("_law_all_orders", none), "_law_all_orders", "_law_all_orders", defArgs s__law_all_orders, defBody s__law_all_orders, defScope s__law_all_orders, [], []⟩
def dd__law_keeps : He.DefD := ⟨("_law_keeps", none), "_law_keeps", "_law_keeps", defArgs s__law_keeps, defBody s__law_keeps, defScope s__law_keeps, [], []⟩
def dd__law_no_ring : He.DefD := ⟨("_law_no_ring", none), "_law_no_ring", "_law_no_ring", defArgs s__law_no_ring, defBody s__law_no_ring, defScope s__law_no_ring, [], []⟩
def dd__law_right : He.DefD := ⟨("_law_right", none), "_law_right", "_law_right", defArgs s__law_right, defBody s__law_right, defScope s__law_right, [], []⟩
def dd__law_turned_right : He.DefD := ⟨("_law_turned_right", none), "_law_turned_right", "_law_turned_right", defArgs s__law_turned_right, defBody s__law_turned_right, defScope s__law_turned_right, [], []⟩
def dd_law : He.DefD := ⟨("law", none), "law", "law", defArgs s_law, defBody s_law, defScope s_law, [], []⟩
def fnL : List He.DefD := [dd_head_of, dd_ring_of, dd_merge, dd_is_demand, dd_is_ring, dd__law_blend, dd__law_pot, dd__law_pick, dd__law_order, dd__law_letters, dd__law_names, dd__law_rows, dd__law_all_orders, dd__law_keeps, dd__law_no_ring, dd__law_right, dd__law_turned_right, dd_law]
def faL : List He.Fa := [.glo "head_of", .glo "ring_of", .glo "merge", .glo "is_demand", .glo "is_ring", .glo "_law_blend", .glo "_law_pot", .glo "_law_pick", .glo "_law_order", .glo "_law_letters", .glo "_law_names", .glo "_law_rows", .glo "_law_all_orders", .glo "_law_keeps", .glo "_law_no_ring", .glo "_law_right", .glo "_law_turned_right", .glo "law", .free "any", .free "enumerate", .free "int", .free "len", .free "list", .free "range", .free "sorted"]
theorem mkT {K : PySem.W.Frag} {h : Heap} {mg : Str → Option Value} (X : K.In h) (G : h.Ns mainGlobals mg) (c : He.SaysD faL fnL K) : ∃ T : Tx K mg, mg "law" = some (.ref T.a_law) ∧ ∀ (s : Shared) (v : Value), BindsTo s T.d_law ⟨[v], []⟩ [("script", v)] := by
  obtain ⟨e_head_of, f_head_of⟩ := c.def_ 0 (d := dd_head_of) rfl
  obtain ⟨e_ring_of, f_ring_of⟩ := c.def_ 1 (d := dd_ring_of) rfl
  obtain ⟨e_merge, f_merge⟩ := c.def_ 2 (d := dd_merge) rfl
  obtain ⟨e_is_demand, f_is_demand⟩ := c.def_ 3 (d := dd_is_demand) rfl
  obtain ⟨e_is_ring, f_is_ring⟩ := c.def_ 4 (d := dd_is_ring) rfl
  obtain ⟨e__law_blend, f__law_blend⟩ := c.def_ 5 (d := dd__law_blend) rfl
  obtain ⟨e__law_pot, f__law_pot⟩ := c.def_ 6 (d := dd__law_pot) rfl
  obtain ⟨e__law_pick, f__law_pick⟩ := c.def_ 7 (d := dd__law_pick) rfl
  obtain ⟨e__law_order, f__law_order⟩ := c.def_ 8 (d := dd__law_order) rfl
  obtain ⟨e__law_letters, f__law_letters⟩ := c.def_ 9 (d := dd__law_letters) rfl
  obtain ⟨e__law_names, f__law_names⟩ := c.def_ 10 (d := dd__law_names) rfl
  obtain ⟨e__law_rows, f__law_rows⟩ := c.def_ 11 (d := dd__law_rows) rfl
  obtain ⟨e__law_all_orders, f__law_all_orders⟩ := c.def_ 12 (d := dd__law_all_orders) rfl
  obtain ⟨e__law_keeps, f__law_keeps⟩ := c.def_ 13 (d := dd__law_keeps) rfl
  obtain ⟨e__law_no_ring, f__law_no_ring⟩ := c.def_ 14 (d := dd__law_no_ring) rfl
  obtain ⟨e__law_right, f__law_right⟩ := c.def_ 15 (d := dd__law_right) rfl
  obtain ⟨e__law_turned_right, f__law_turned_right⟩ := c.def_ 16 (d := dd__law_turned_right) rfl
  obtain ⟨e_law, f_law⟩ := c.def_ 17 (d := dd_law) rfl
  refine ⟨{ a_head_of := _, d_head_of := e_head_of, f_head_of := f_head_of, g_head_of := He.glo_ok X G (c.fact 0 (f := .glo "head_of") rfl), k_head_of := f_head_of.kp, b_head_of := FunD.bindsN f_head_of (fun _ _ _ _ _ _ us hl => match us, hl with | [_], _ => rfl), a_ring_of := _, d_ring_of := e_ring_of, f_ring_of := f_ring_of, g_ring_of := He.glo_ok X G (c.fact 1 (f := .glo "ring_of") rfl), k_ring_of := f_ring_of.kp, b_ring_of := FunD.bindsN f_ring_of (fun _ _ _ _ _ _ us hl => match us, hl with | [_], _ => rfl), a_merge := _, d_merge := e_merge, f_merge := f_merge, g_merge := He.glo_ok X G (c.fact 2 (f := .glo "merge") rfl), k_merge := f_merge.kp, b_merge := FunD.bindsN f_merge (fun _ _ _ _ _ _ us hl => match us, hl with | [_], _ => rfl), a_is_demand := _, d_is_demand := e_is_demand, f_is_demand := f_is_demand, g_is_demand := He.glo_ok X G (c.fact 3 (f := .glo "is_demand") rfl), k_is_demand := f_is_demand.kp, b_is_demand := FunD.bindsN f_is_demand (fun _ _ _ _ _ _ us hl => match us, hl with | [_, _], _ => rfl), a_is_ring := _, d_is_ring := e_is_ring, f_is_ring := f_is_ring, g_is_ring := He.glo_ok X G (c.fact 4 (f := .glo "is_ring") rfl), k_is_ring := f_is_ring.kp, b_is_ring := FunD.bindsN f_is_ring (fun _ _ _ _ _ _ us hl => match us, hl with | [_, _], _ => rfl), a__law_blend := _, d__law_blend := e__law_blend, f__law_blend := f__law_blend, g__law_blend := He.glo_ok X G (c.fact 5 (f := .glo "_law_blend") rfl), k__law_blend := f__law_blend.kp, b__law_blend := FunD.bindsN f__law_blend (fun _ _ _ _ _ _ us hl => match us, hl with | [_, _], _ => rfl), a__law_pot := _, d__law_pot := e__law_pot, f__law_pot := f__law_pot, g__law_pot := He.glo_ok X G (c.fact 6 (f := .glo "_law_pot") rfl), k__law_pot := f__law_pot.kp, b__law_pot := FunD.bindsN f__law_pot (fun _ _ _ _ _ _ us hl => match us, hl with | [_], _ => rfl), a__law_pick := _, d__law_pick := e__law_pick, f__law_pick := f__law_pick, g__law_pick := He.glo_ok X G (c.fact 7 (f := .glo "_law_pick") rfl), k__law_pick := f__law_pick.kp, b__law_pick := FunD.bindsN f__law_pick (fun _ _ _ _ _ _ us hl => match us, hl with | [_, _], _ => rfl), a__law_order := _, d__law_order := e__law_order, f__law_order := f__law_order, g__law_order := He.glo_ok X G (c.fact 8 (f := .glo "_law_order") rfl), k__law_order := f__law_order.kp, b__law_order := FunD.bindsN f__law_order (fun _ _ _ _ _ _ us hl => match us, hl with | [_, _], _ => rfl), a__law_letters := _, d__law_letters := e__law_letters, f__law_letters := f__law_letters, g__law_letters := He.glo_ok X G (c.fact 9 (f := .glo "_law_letters") rfl), k__law_letters := f__law_letters.kp, b__law_letters := FunD.bindsN f__law_letters (fun _ _ _ _ _ _ us hl => match us, hl with | [_, _], _ => rfl), a__law_names := _, d__law_names := e__law_names, f__law_names := f__law_names, g__law_names := He.glo_ok X G (c.fact 10 (f := .glo "_law_names") rfl), k__law_names := f__law_names.kp, b__law_names := FunD.bindsN f__law_names (fun _ _ _ _ _ _ us hl => match us, hl with | [_, _], _ => rfl), a__law_rows := _, d__law_rows := e__law_rows, f__law_rows := f__law_rows, g__law_rows := He.glo_ok X G (c.fact 11 (f := .glo "_law_rows") rfl), k__law_rows := f__law_rows.kp, b__law_rows := FunD.bindsN f__law_rows (fun _ _ _ _ _ _ us hl => match us, hl with | [_], _ => rfl), a__law_all_orders := _, d__law_all_orders := e__law_all_orders, f__law_all_orders := f__law_all_orders, g__law_all_orders := He.glo_ok X G (c.fact 12 (f := .glo "_law_all_orders") rfl), k__law_all_orders := f__law_all_orders.kp, b__law_all_orders := FunD.bindsN f__law_all_orders (fun _ _ _ _ _ _ us hl => match us, hl with | [_], _ => rfl), a__law_keeps := _, d__law_keeps := e__law_keeps, f__law_keeps := f__law_keeps, g__law_keeps := He.glo_ok X G (c.fact 13 (f := .glo "_law_keeps") rfl), k__law_keeps := f__law_keeps.kp, b__law_keeps := FunD.bindsN f__law_keeps (fun _ _ _ _ _ _ us hl => match us, hl with | [_, _], _ => rfl), a__law_no_ring := _, d__law_no_ring := e__law_no_ring, f__law_no_ring := f__law_no_ring, g__law_no_ring := He.glo_ok X G (c.fact 14 (f := .glo "_law_no_ring") rfl), k__law_no_ring := f__law_no_ring.kp, b__law_no_ring := FunD.bindsN f__law_no_ring (fun _ _ _ _ _ _ us hl => match us, hl with | [_], _ => rfl), a__law_right := _, d__law_right := e__law_right, f__law_right := f__law_right, g__law_right := He.glo_ok X G (c.fact 15 (f := .glo "_law_right") rfl), k__law_right := f__law_right.kp, b__law_right := FunD.bindsN f__law_right (fun _ _ _ _ _ _ us hl => match us, hl with | [_], _ => rfl), a__law_turned_right := _, d__law_turned_right := e__law_turned_right, f__law_turned_right := f__law_turned_right, g__law_turned_right := He.glo_ok X G (c.fact 16 (f := .glo "_law_turned_right") rfl), k__law_turned_right := f__law_turned_right.kp, b__law_turned_right := FunD.bindsN f__law_turned_right (fun _ _ _ _ _ _ us hl => match us, hl with | [_, _], _ => rfl), a_law := _, d_law := e_law, f_law := f_law, g_law := He.glo_ok X G (c.fact 17 (f := .glo "law") rfl), k_law := f_law.kp, b_law := FunD.bindsN f_law (fun _ _ _ _ _ _ us hl => match us, hl with | [_], _ => rfl), n_any := He.free_ok X G (c.fact 18 (f := .free "any") rfl), n_enumerate := He.free_ok X G (c.fact 19 (f := .free "enumerate") rfl), n_int := He.free_ok X G (c.fact 20 (f := .free "int") rfl), n_len := He.free_ok X G (c.fact 21 (f := .free "len") rfl), n_list := He.free_ok X G (c.fact 22 (f := .free "list") rfl), n_range := He.free_ok X G (c.fact 23 (f := .free "range") rfl), n_sorted := He.free_ok X G (c.fact 24 (f := .free "sorted") rfl) }, He.glo_ok X G (c.fact 17 (f := .glo "law") rfl), fun s v => ?_⟩
  exact FunD.bindsA (ps := ["script"]) f_law (fun _ _ _ _ _ _ us hl => match us, hl with | [_], _ => rfl) s [v] rfl
end Lw
namespace Lw
open PySem PySem.Spec PyProof.Rows L2 Sw
def lawLevel : Nat := 6
end Lw
namespace Lw
open PySem PySem.Spec PyProof.Rows L2
def nm0 : List Str := ["head_of", "ring_of", "merge", "is_demand", "is_ring", "_law_blend", "_law_pot", "_law_pick", "_law_order", "_law_letters", "_law_names", "_law_rows", "_law_all_orders", "_law_keeps", "_law_no_ring", "_law_right", "_law_turned_right"]
abbrev nms : List Str := nm0
abbrev Rr : PySem.W.OpenRow := PySem.W.OpenLaw.row PySem.Challenge.rw_swiftkin_k04_whole_line_or_ring
abbrev hk : PySem.W.Hook := He.hookD 4 faL fnL
def ob (s : PySem.W.SharedT) : He.AlD := He.obsDG 4 faL fnL (HandSHeadRun.getT s)
theorem ob_eq (s : PySem.W.SharedT) : ob s = hk.obs s.abs := He.obsDG_eq (HandSHeadRun.getT_eq s)
theorem run_top (w : World) : HandSHeadRun.RunEq Rr (PySem.W.view Rr.prog [19]) hk ob 3000 nms w := by
  intro os
  kernel_rfl
end Lw
open PySem PySem.W PySem.Calls PyProof.Rows
set_option maxHeartbeats 0 in
theorem PySem.Challenge.cw_swiftkin_k04_whole_line_or_ring_holds : PySem.Challenge.rw_swiftkin_k04_whole_line_or_ring.Holds := by
  w_on; o_law
  refine HandSHeadRun.head_any (r := OpenLaw.row PySem.Challenge.rw_swiftkin_k04_whole_line_or_ring) (q := view (OpenLaw.row PySem.Challenge.rw_swiftkin_k04_whole_line_or_ring).prog [19]) (H := Lw.hk) (ob := Lw.ob) (M := 3000) (loose := Lw.nms) (d := HandSHeadRun.topDef (OpenLaw.row PySem.Challenge.rw_swiftkin_k04_whole_line_or_ring).prog 19) (kwd := []) Lw.ob_eq
    (by kernel_rfl) (fun s => by kernel_rfl) Lw.run_top (by kernel_rfl) (by kernel_rfl) (by kernel_rfl) (by rfl) (by first | assumption | decide +kernel) (by decide +kernel) ⟨rfl, rfl, rfl, rfl, rfl, by decide +kernel⟩ ?hw ?hc
  case hw => w_witness2
  case hc =>
    refine L2.walk_ofE (l := PySem.Challenge.rw_swiftkin_k04_whole_line_or_ring) (n := 63) (k := Lw.lawLevel) (x := "script") (CX := L2.CX0) rfl (by decide) (by kernel_rfl) ⟨rfl, by decide, by decide⟩ ?F (fun _ _ _ _ z => z)
    intro w mg fa h Y G hmg0
    obtain ⟨K, KX, c⟩ := Y
    have hmg : mg ("law" : PySem.Str) = some (.ref fa) := by
      have e : (HandSHeadRun.topDef (OpenLaw.row PySem.Challenge.rw_swiftkin_k04_whole_line_or_ring).prog 19).name = ("law" : PySem.Str) := by kernel_rfl
      rw [← e]
      exact hmg0
    obtain ⟨T, h1, hb⟩ := Lw.mkT KX G c
    rw [hmg] at h1
    cases h1
    exact ⟨K, T.d_law, (fun vs H Q _ => Sw.spM K Sw.RXn 1 Lw.m_law vs H Q fun _ _ _ => False), KX, hb, fun H a ns hl _ hS => Sw.law_sp Lw.law_eq H a ns hl hS, fun base _ _ => Sw.nox_law (Lw.ok_law T)⟩
