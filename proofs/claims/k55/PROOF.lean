import PyProof.Rows.All
import Wide.All
import OpenK.AllK
import Wide.FinOn
import HandS.ForMost
import HandS.ForExc
import HandS.Wide
import HandS.Comp
import HandS.Iter
import HandS.SortInts
import HandS.SetFor
import HandS.More
import HandS.Style
import HandS.IsInst
import HandS.Text
import HandS.WideMore
import HandS.Conv
import HandS.Deep
import PySem.Challenge.RW_latepatches_k55_histories_counted_in_sha
set_option Elab.async false
set_option linter.all false
set_option maxRecDepth 100000
set_option maxHeartbeats 4000000
/-! DL: values as plain data; frames as lists of slots; what is owned and what is frozen. -/
namespace DL
open PySem PySem.Spec PyProof.Rows L2

/-- plain data -/
inductive D where
  | non | bl (b : Bool) | int (i : Int) | str (x : Str)
  | lst (l : List D) | tup (l : List D) | dct (l : List (Key × D))
  /-- a list that is read alone (the script) -/
  | scr (l : List D)
/-- a name's slot: nothing, a frozen value, an object of this frame alone, an object of the caller's that is changed here -/
inductive Sl where
  | no | fz (d : D) | ow (d : D) | io (d : D)
/-- a value under way: frozen, new and nobody else's, what a slot holds -/
inductive Opd where
  | val (d : D) | tmp (d : D) | slot (i : Nat)
abbrev Ev := List Sl
def Sl.get : Sl → Option D
  | .no => none
  | .fz d => some d
  | .ow d => some d
  | .io d => some d
inductive Role where
  | s (i : Nat) | t (k : Nat)
  deriving DecidableEq

def WrL (K : PySem.W.Frag) (a : Addr) (xs : List V) : Prop := SqL K (fun _ => none) a xs
def WrT (K : PySem.W.Frag) (a : Addr) (xs : List V) : Prop := SqT K (fun _ => none) a xs
theorem WrL.sq {K : PySem.W.Frag} {a : Addr} {xs : List V} (h : WrL K a xs) (H : Hp) : SqL K H a xs := by
  rcases h with (h | ⟨o, h⟩) | h
  · cases h
  · cases h
  · exact .inr h
theorem WrT.sq {K : PySem.W.Frag} {a : Addr} {xs : List V} (h : WrT K a xs) (H : Hp) : SqT K H a xs := by
  rcases h with (h | ⟨o, h⟩) | h
  · cases h
  · cases h
  · exact .inr h
mutual
/-- v stands for d, no address of it in A -/
inductive Rep (K : PySem.W.Frag) (A : Addr → Prop) (H : Hp) : V → D → Prop
  | non : Rep K A H .non .non
  | bl (b : Bool) : Rep K A H (.bl b) (.bl b)
  | int (i : Int) : Rep K A H (.int i) (.int i)
  | str (x : Str) : Rep K A H (.str x) (.str x)
  | lst {a : Addr} {vs : List V} {ds : List D} : H a = some (.lst vs) → ¬ A a → RepL K A H vs ds → Rep K A H (.ref a) (.lst ds)
  | scr {a : Addr} {vs : List V} {ds : List D} : (Rd H a (.lst vs) ∧ ¬ A a) ∨ WrL K a vs → RepL K A H vs ds → Rep K A H (.ref a) (.scr ds)
  | tup {a : Addr} {vs : List V} {ds : List D} : (Rd H a (.tup vs) ∧ ¬ A a) ∨ WrT K a vs → RepL K A H vs ds → Rep K A H (.ref a) (.tup ds)
  | dct {a : Addr} {vs : List (Key × V)} {ds : List (Key × D)} : Rd H a (.dK vs) → ¬ A a → RepK K A H vs ds → Rep K A H (.ref a) (.dct ds)
inductive RepL (K : PySem.W.Frag) (A : Addr → Prop) (H : Hp) : List V → List D → Prop
  | nil : RepL K A H [] []
  | cons {v : V} {d : D} {vs : List V} {ds : List D} : Rep K A H v d → RepL K A H vs ds → RepL K A H (v :: vs) (d :: ds)
inductive RepK (K : PySem.W.Frag) (A : Addr → Prop) (H : Hp) : List (Key × V) → List (Key × D) → Prop
  | nil : RepK K A H [] []
  | cons {k : Key} {v : V} {d : D} {vs : List (Key × V)} {ds : List (Key × D)} : Rep K A H v d → RepK K A H vs ds → RepK K A H ((k, v) :: vs) ((k, d) :: ds)
end
section
variable {K : PySem.W.Frag} {A A' : Addr → Prop} {H H' : Hp}
theorem rd_move {a : Addr} {u : HO} (m : ∀ a o, H a = some o → ¬ A a → H' a = some o) (h : Rd H a u) (n : ¬ A a) : Rd H' a u := by
  rcases h with h | ⟨o, h⟩
  · exact .inl (m _ _ h n)
  · exact .inr ⟨o, m _ _ h n⟩
theorem rd_some {a : Addr} {u : HO} (h : Rd H a u) : ∃ o, H a = some o := by
  rcases h with h | ⟨o, h⟩
  · exact ⟨_, h⟩
  · exact ⟨_, h⟩
mutual
theorem Rep.move (m : ∀ a o, H a = some o → ¬ A a → H' a = some o) (w : ∀ a, A' a → A a ∨ H a = none) : ∀ {v : V} {d : D}, Rep K A H v d → Rep K A' H' v d
  | _, _, .non => .non
  | _, _, .bl b => .bl b
  | _, _, .int i => .int i
  | _, _, .str x => .str x
  | _, _, .lst h n t => .lst (m _ _ h n) (fun z => by
      rcases w _ z with z | z
      · exact n z
      · rw [z] at h; cases h) (RepL.move m w t)
  | _, _, .scr h t => .scr (by
      rcases h with ⟨h, n⟩ | h
      · refine .inl ⟨rd_move m h n, fun z => ?_⟩
        rcases w _ z with z | z
        · exact n z
        · obtain ⟨o, e⟩ := rd_some h
          rw [z] at e; cases e
      · exact .inr h) (RepL.move m w t)
  | _, _, .tup h t => .tup (by
      rcases h with ⟨h, n⟩ | h
      · refine .inl ⟨rd_move m h n, fun z => ?_⟩
        rcases w _ z with z | z
        · exact n z
        · obtain ⟨o, e⟩ := rd_some h
          rw [z] at e; cases e
      · exact .inr h) (RepL.move m w t)
  | _, _, .dct h n t => .dct (rd_move m h n) (fun z => by
      rcases w _ z with z | z
      · exact n z
      · obtain ⟨o, e⟩ := rd_some h
        rw [z] at e; cases e) (RepK.move m w t)
theorem RepL.move (m : ∀ a o, H a = some o → ¬ A a → H' a = some o) (w : ∀ a, A' a → A a ∨ H a = none) : ∀ {v : List V} {d : List D}, RepL K A H v d → RepL K A' H' v d
  | _, _, .nil => .nil
  | _, _, .cons h t => .cons (Rep.move m w h) (RepL.move m w t)
theorem RepK.move (m : ∀ a o, H a = some o → ¬ A a → H' a = some o) (w : ∀ a, A' a → A a ∨ H a = none) : ∀ {v : List (Key × V)} {d : List (Key × D)}, RepK K A H v d → RepK K A' H' v d
  | _, _, .nil => .nil
  | _, _, .cons h t => .cons (Rep.move m w h) (RepK.move m w t)
end
/-- what an owned object holds -/
def Own (K : PySem.W.Frag) (A : Addr → Prop) (H : Hp) (p : Addr) : D → Prop
  | .lst ds => ∃ vs, H p = some (.lst vs) ∧ RepL K A H vs ds
  | .dct ds => ∃ vs, H p = some (.dK vs) ∧ RepK K A H vs ds
  | _ => False
theorem Own.move {p : Addr} {d : D} (h : Own K A H p d) (m : ∀ a o, H a = some o → ¬ A a → H' a = some o) (w : ∀ a, A' a → A a ∨ H a = none) (hp : H' p = H p) : Own K A' H' p d := by
  cases d <;> first
    | exact h.elim
    | (obtain ⟨vs, e, r⟩ := h; exact ⟨vs, hp.trans e, r.move m w⟩)
theorem Own.some {p : Addr} {d : D} (h : Own K A H p d) : ∃ o, H p = some o := by
  cases d <;> first
    | exact h.elim
    | (obtain ⟨vs, e, r⟩ := h; exact ⟨_, e⟩)
/-- an owned object is given away: frozen -/
theorem Own.rep {p : Addr} {d : D} (h : Own K A H p d) (w : ∀ a, A' a → A a) (n : ¬ A' p) : Rep K A' H (.ref p) d := by
  cases d <;> first
    | exact h.elim
    | (obtain ⟨vs, e, r⟩ := h
       first
         | exact .lst e n (r.move (fun _ _ q _ => q) fun a z => .inl (w a z))
         | exact .dct (.inl e) n (r.move (fun _ _ q _ => q) fun a z => .inl (w a z)))
end

/-- what stays through a frame: the addresses of others, the heap at its entry, the objects that it may change -/
structure Gx where
  A0 : Addr → Prop
  H0 : Hp
  ios : Nat → Option Addr
  a0 : ∀ a, A0 a → ∃ o, H0 a = some o
  ioA : ∀ i p, ios i = some p → A0 p
def fra (g : Gx) (O : Addr → Option Role) : Addr → Prop := fun a => g.A0 a ∨ ∃ r, O a = some r
section
variable (K : PySem.W.Frag) (g : Gx) (O : Addr → Option Role) (H : Hp) (σ : L2.St) (env : Ev)
def SlOk (i : Nat) : Sl → Prop
  | .no => True
  | .fz d => ∃ v, σ[i]? = some (some v) ∧ Rep K (fra g O) H v d
  | .ow d => ∃ p, σ[i]? = some (some (.ref p)) ∧ O p = some (.s i) ∧ g.H0 p = none ∧ Own K (fra g O) H p d
  | .io d => ∃ p, σ[i]? = some (some (.ref p)) ∧ O p = some (.s i) ∧ g.ios i = some p ∧ Own K (fra g O) H p d
def StOk : List (V × Opd) → Prop
  | [] => True
  | (v, .val d) :: S => Rep K (fra g O) H v d ∧ StOk S
  | (v, .tmp d) :: S => (∃ p, v = .ref p ∧ O p = some (.t S.length) ∧ g.H0 p = none ∧ Own K (fra g O) H p d) ∧ StOk S
  | (v, .slot i) :: S => σ[i]? = some (some v) ∧ StOk S
/-- all under way is frozen -/
def VS (S : List (V × Opd)) : Prop := ∀ e ∈ S, ∃ d, e.2 = .val d
/-- no slot is under way -/
def NS (S : List (V × Opd)) : Prop := ∀ e ∈ S, ∀ i, e.2 ≠ .slot i
theorem VS.ns {S : List (V × Opd)} (h : VS S) : NS S := fun e he i q => by
  obtain ⟨d, z⟩ := h e he
  rw [z] at q
  cases q
structure EnvO (S : List (V × Opd)) : Prop where
  len : σ.length = env.length
  keep : ∀ a o, g.H0 a = some o → (∀ i, g.ios i ≠ some a) → H a = some o
  trk : ∀ a, g.A0 a → ∃ o, H a = some o
  own : ∀ a r, O a = some r → ∃ o, H a = some o
  sl : ∀ i s, env[i]? = some s → SlOk K g O H σ i s
  st : StOk K g O H σ S
def EnvOk (S : List (V × Opd)) : Prop := ∃ O, EnvO K g O H σ env S
end
section
variable {K : PySem.W.Frag} {g : Gx} {O O' : Addr → Option Role} {H H' : Hp} {σ σ' : L2.St} {env env' : Ev} {S : List (V × Opd)} {v : V} {d : D} {p : Addr}
theorem fra_mono (h : ∀ a r, O' a = some r → ∃ r', O a = some r') {a : Addr} (z : fra g O' a) : fra g O a := by
  rcases z with z | ⟨r, z⟩
  · exact .inl z
  · exact .inr (h a r z)
/-- the heap grows (or changes elsewhere) -/
theorem EnvO.move (e : EnvO K g O H σ env S) (m : ∀ a o, H a = some o → H' a = some o) : EnvO K g O H' σ env S := by
  have m' : ∀ a o, H a = some o → ¬ fra g O a → H' a = some o := fun a o q _ => m a o q
  have w : ∀ a, fra g O a → fra g O a ∨ H a = none := fun a z => .inl z
  have ow : ∀ {q : Addr} {x : D}, Own K (fra g O) H q x → Own K (fra g O) H' q x := fun {q x} h => h.move m' w (by
    obtain ⟨o, z⟩ := h.some
    rw [z, m _ _ z])
  refine ⟨e.len, fun a o h1 h2 => m _ _ (e.keep a o h1 h2), fun a h => ?_, fun a r h => ?_, fun i s h => ?_, ?_⟩
  · obtain ⟨o, z⟩ := e.trk a h; exact ⟨o, m _ _ z⟩
  · obtain ⟨o, z⟩ := e.own a r h; exact ⟨o, m _ _ z⟩
  · have q := e.sl i s h
    cases s with
    | no => trivial
    | fz d => obtain ⟨v, h1, h2⟩ := q; exact ⟨v, h1, h2.move m' w⟩
    | ow d => obtain ⟨p, h1, h2, h3, h4⟩ := q; exact ⟨p, h1, h2, h3, ow h4⟩
    | io d => obtain ⟨p, h1, h2, h3, h4⟩ := q; exact ⟨p, h1, h2, h3, ow h4⟩
  · have st := e.st
    clear e
    induction S with
    | nil => trivial
    | cons x S ih =>
      obtain ⟨v, x⟩ := x
      cases x with
      | val d => exact ⟨st.1.move m' w, ih st.2⟩
      | tmp d => obtain ⟨⟨p, h1, h2, h3, h4⟩, t⟩ := st; exact ⟨⟨p, h1, h2, h3, ow h4⟩, ih t⟩
      | slot i => exact ⟨st.1, ih st.2⟩
theorem EnvO.push (e : EnvO K g O H σ env S) (r : Rep K (fra g O) H v d) : EnvO K g O H σ env ((v, .val d) :: S) := ⟨e.len, e.keep, e.trk, e.own, e.sl, r, e.st⟩
/-- the roles of a frozen address fall away, roles come to new addresses -/
theorem EnvO.roles (e : EnvO K g O H σ env S) (ho : ∀ a, (∃ r, O' a = some r) → (∃ r, O a = some r) ∨ H a = none) (hs : ∀ i q, σ[i]? = some (some (.ref q)) → O q = some (.s i) → (∃ s d, env[i]? = some s ∧ (s = .ow d ∨ s = .io d)) → O' q = some (.s i))
    (ht : ∀ q k, O q = some (.t k) → k < S.length → O' q = some (.t k)) (hn : ∀ a r, O' a = some r → ∃ o, H a = some o) : EnvO K g O' H σ env S := by
  have w : ∀ a, fra g O' a → fra g O a ∨ H a = none := fun a z => by
    rcases z with z | z
    · exact .inl (.inl z)
    · rcases ho a z with z | z
      · exact .inl (.inr z)
      · exact .inr z
  have m' : ∀ a o, H a = some o → ¬ fra g O a → H a = some o := fun a o q _ => q
  have ow : ∀ {q : Addr} {x : D}, Own K (fra g O) H q x → Own K (fra g O') H q x := fun {q x} h => h.move m' w rfl
  refine ⟨e.len, e.keep, e.trk, hn, fun i s h => ?_, ?_⟩
  · have q := e.sl i s h
    cases s with
    | no => trivial
    | fz d => obtain ⟨v, h1, h2⟩ := q; exact ⟨v, h1, h2.move m' w⟩
    | ow d => obtain ⟨p, h1, h2, h3, h4⟩ := q; exact ⟨p, h1, hs i p h1 h2 ⟨_, d, h, .inl rfl⟩, h3, ow h4⟩
    | io d => obtain ⟨p, h1, h2, h3, h4⟩ := q; exact ⟨p, h1, hs i p h1 h2 ⟨_, d, h, .inr rfl⟩, h3, ow h4⟩
  · have st := e.st
    clear e hs
    induction S with
    | nil => trivial
    | cons x S ih =>
      obtain ⟨v, x⟩ := x
      have ht' : ∀ q k, O q = some (.t k) → k < S.length → O' q = some (.t k) := fun q k a b => ht q k a (Nat.lt_succ_of_lt b)
      cases x with
      | val d => exact ⟨st.1.move m' w, ih ht' st.2⟩
      | tmp d => obtain ⟨⟨p, h1, h2, h3, h4⟩, t⟩ := st; exact ⟨⟨p, h1, ht _ _ h2 (Nat.lt_succ_self _), h3, ow h4⟩, ih ht' t⟩
      | slot i => exact ⟨st.1, ih ht' st.2⟩
end
end DL

/-! DL2: mirrors; readings by a mirror; a def's promise where the guards around are known. -/
namespace DL
open PySem PySem.Spec PyProof.Rows L2

/-! ### mirrors -/
inductive R (α : Type) where
  | ok (a : α) (e : Ev) | ex (c : Str) (e : Ev) | bad
abbrev M (α : Type) := Ev → R α
def M.bind {α β : Type} (m : M α) (f : α → M β) : M β := fun env => match m env with
  | .ok a e => f a e
  | .ex c e => .ex c e
  | .bad => .bad
def M.pure {α : Type} (a : α) : M α := fun env => .ok a env
inductive F where
  | nx (e : Ev) | br (e : Ev) | ct (e : Ev) | rt (r : Opd) (e : Ev) | ex (c : Str) (e : Ev) | bad
abbrev MS := Ev → F
/-- a def: what it is given (in the order of the parameters), what it answers, what the changed objects hold behind it -/
inductive RF where
  | ok (fresh : Bool) (d : D) (outs : List D) | ex (c : Str) (outs : List D) | bad
abbrev FD := List D → RF

def slotD (env : Ev) (i : Nat) : Option D := (env[i]?).bind Sl.get
/-- what a value under way is now -/
def peek : Opd → Ev → Option D
  | .val d, _ => some d
  | .tmp d, _ => some d
  | .slot i, env => slotD env i

/-! ### readings -/
section
variable (K : PySem.W.Frag) (mg : Str → Option Value) (W : WX)
def tD (f : M Opd) : TE := fun σ H Q => ∃ g S env, EnvOk K g H σ env S ∧ (match f env with
  | .ok r e => ∀ v H', EnvOk K g H' σ e ((v, r) :: S) → Q v H'
  | .ex c e => ∀ C H', mg c = some (Value.ref C) → EnvOk K g H' σ e S → W (.ref C) none σ H'
  | .bad => False)
def tT (f : M Bool) : TT := fun σ H Q => ∃ g S env, EnvOk K g H σ env S ∧ (match f env with
  | .ok b e => ∀ H', EnvOk K g H' σ e S → Q b H'
  | .ex c e => ∀ C H', mg c = some (Value.ref C) → EnvOk K g H' σ e S → W (.ref C) none σ H'
  | .bad => False)
def pushes : List V → List Opd → List (V × Opd) → List (V × Opd)
  | v :: vs, r :: rs, S => pushes vs rs ((v, r) :: S)
  | _, _, S => S
def tDs (f : M (List Opd)) : TA := fun σ H Q => ∃ g S env, EnvOk K g H σ env S ∧ (match f env with
  | .ok rs e => ∀ vs H', vs.length = rs.length → EnvOk K g H' σ e (pushes vs rs S) → Q vs H'
  | .ex c e => ∀ C H', mg c = some (Value.ref C) → EnvOk K g H' σ e S → W (.ref C) none σ H'
  | .bad => False)
def tS (f : MS) : TS := fun D σ H => ∃ g S env, VS S ∧ EnvOk K g H σ env S ∧ (match f env with
  | .nx e => ∀ σ' H', EnvOk K g H' σ' e S → D.nx σ' H'
  | .br e => ∀ σ' H', EnvOk K g H' σ' e S → D.bk σ' H'
  | .ct e => ∀ σ' H', EnvOk K g H' σ' e S → D.ct σ' H'
  | .rt r e => ∀ v σ' H', EnvOk K g H' σ' e ((v, r) :: S) → D.rt v H'
  | .ex c e => ∀ C σ' H', mg c = some (Value.ref C) → EnvOk K g H' σ' e S → W (.ref C) none σ' H'
  | .bad => False)
end
theorem PE.of {X : Cx} {e : Expr} {t t' : TE} (h : PE X e t) (w : ∀ σ H Q, t' σ H Q → t σ H Q) : PE X e t' := ⟨fun p s σ H Q I q => h.run p s σ H Q I (w σ H Q q)⟩
theorem PT.of {X : Cx} {e : Expr} {t t' : TT} (h : PT X e t) (w : ∀ σ H Q, t' σ H Q → t σ H Q) : PT X e t' := ⟨fun p s σ H Q I q => h.run p s σ H Q I (w σ H Q q)⟩
theorem PA.of {X : Cx} {e : List Expr} {t t' : TA} (h : PA X e t) (w : ∀ σ H Q, t' σ H Q → t σ H Q) : PA X e t' := ⟨fun c p s σ H Q I q => h.run c p s σ H Q I (w σ H Q q)⟩
theorem PS.of {X : Cx} {e : Stmt} {t t' : TS} (h : PS X e t) (w : ∀ D σ H, t' D σ H → t D σ H) : PS X e t' := ⟨fun p s σ H D I q => h.run p s σ H D I (w D σ H q)⟩
theorem PSs.of {X : Cx} {e : List Stmt} {t t' : TS} (h : PSs X e t) (w : ∀ D σ H, t' D σ H → t D σ H) : PSs X e t' := ⟨fun p s σ H D I q => h.run p s σ H D I (w D σ H q)⟩

/-! ### a def by its mirror -/
/-- the slots at the start -/
def env0 : List Bool → List D → List Sl
  | k :: ks, d :: ds => (if k then Sl.io d else Sl.fz d) :: env0 ks ds
  | _, _ => []
def outs : List Bool → Ev → Option (List D)
  | [], _ => some []
  | true :: ks, .io d :: e => (outs ks e).map (d :: ·)
  | true :: _, _ => none
  | false :: ks, _ :: e => outs ks e
  | false :: ks, [] => outs ks []
def finO (ks : List Bool) (r : Opd) (e : Ev) : RF := match outs ks e with
  | none => .bad
  | some os => match r with
    | .val d => .ok false d os
    | .tmp d => .ok true d os
    | .slot i => match e[i]? with
      | some (.fz d) => .ok false d os
      | some (.ow d) => .ok true d os
      | _ => .bad
def finF (ks : List Bool) : F → RF
  | .nx e => finO ks (.val .non) e
  | .rt r e => finO ks r e
  | .ex c e => match outs ks e with
    | none => .bad
    | some os => .ex c os
  | _ => .bad
def mkF (ks : List Bool) (n : Nat) (m : MS) : FD := fun ds => if ds.length = ks.length then finF ks (m (env0 ks ds ++ List.replicate (n - ks.length) .no)) else .bad

/-- the objects that a call may change -/
def ioA : List Bool → List V → List Addr
  | true :: ks, .ref p :: vs => p :: ioA ks vs
  | _ :: ks, _ :: vs => ioA ks vs
  | _, _ => []
section
variable (K : PySem.W.Frag) (A : Addr → Prop) (H : Hp)
inductive ArgsD : List Bool → List V → List D → Prop
  | nil : ArgsD [] [] []
  | fz {ks : List Bool} {v : V} {d : D} {vs : List V} {ds : List D} : Rep K A H v d → ArgsD ks vs ds → ArgsD (false :: ks) (v :: vs) (d :: ds)
  | io {ks : List Bool} {p : Addr} {d : D} {vs : List V} {ds : List D} : A p → Own K A H p d → ArgsD ks vs ds → ArgsD (true :: ks) (.ref p :: vs) (d :: ds)
def OutsD (K : PySem.W.Frag) (A : Addr → Prop) (H : Hp) : List Addr → List D → Prop
  | p :: ps, d :: ds => Own K A H p d ∧ OutsD K A H ps ds
  | [], [] => True
  | _, _ => False
end
/-- behind a call -/
structure Aft (K : PySem.W.Frag) (A A' : Addr → Prop) (H H' : Hp) (ps : List Addr) (os : List D) : Prop where
  keep : ∀ a o, H a = some o → a ∉ ps → H' a = some o
  outs : OutsD K A' H' ps os
def ResOk (K : PySem.W.Frag) (A : Addr → Prop) (H H' : Hp) (ps : List Addr) (os : List D) (v : V) (d : D) : Bool → Prop
  | false => Aft K A A H H' ps os ∧ Rep K A H' v d
  | true => ∃ p, v = .ref p ∧ H p = none ∧ Aft K A (fun a => A a ∨ a = p) H H' ps os ∧ Own K (fun a => A a ∨ a = p) H' p d
def spD (K : PySem.W.Frag) (mg : Str → Option Value) (ks : List Bool) (f : FD) : Sp := fun vs H Q E => ∃ (A : Addr → Prop) (ds : List D), (∀ a, A a → ∃ o, H a = some o) ∧ ArgsD K A H ks vs ds ∧ (ioA ks vs).Nodup ∧ (match f ds with
  | .ok fresh d os => ∀ v H', ResOk K A H H' (ioA ks vs) os v d fresh → Q v H'
  | .ex c os => ∀ C H', mg c = some (Value.ref C) → Aft K A A H H' (ioA ks vs) os → E (.ref C) none H'
  | .bad => False)

/-- as a def's promise of the layer below, for surroundings without a guard -/
structure FnG (P : Program) (w : World) (K : PySem.W.Frag) (mg : Str → Option Value) (base : Heap) (k : Nat) (f : Addr) (fd : FuncData) (ps : List Str) (sp : Sp) : Prop where
  len : ∀ vs H Q E, sp vs H Q E → vs.length = ps.length
  run : ∀ (A : Around) (outer : List Env) (s : Shared) (H : Hp) (args : Args) (us : List Value) (vs : List V) (Q : VK) (E : XK), A.guards = some [] → Room k A →
    Env0 P w K mg base A outer s H → BindsTo s fd args (ps.zip us) → Vals vs us → sp vs H Q E →
    codeAny (model P w) A (.call (.ref f) args) (CR (L2.CX P w) outer P w H s Q E) s
theorem FnG.mono {P : Program} {w : World} {K : PySem.W.Frag} {mg : Str → Option Value} {base : Heap} {j k : Nat} {f : Addr} {fd : FuncData} {ps : List Str} {sp : Sp}
    (F : FnG P w K mg base j f fd ps sp) (h : j ≤ k) : FnG P w K mg base k f fd ps sp := ⟨F.len, fun A o s H a us vs Q E hg hr => F.run A o s H a us vs Q E hg (hr.mono h)⟩

/-- where a body stands -/
structure At (k : Nat) (X : Cx) (W : WX) : Prop where
  tk : Takes X W
  hp : PassesOwn (model X.prog X.w) X.A X.env X.xe
  calm : X.calm = true
  nd : X.N.Nodup
  gu : X.A.guards = some []
  room : Room k X.A
theorem At.mono {j k : Nat} {X : Cx} {W : WX} (C : At k X W) (h : j ≤ k) : At j X W := ⟨C.tk, C.hp, C.calm, C.nd, C.gu, C.room.mono h⟩
theorem At.hu {k : Nat} {X : Cx} {W : WX} (C : At k X W) : X.A.units + 1 < cLine := hu_of C.room

/-! ### a frame's start and its end -/
def roleAt : List Bool → List V → Nat → Addr → Option Role
  | true :: ks, .ref p :: vs, i, a => if a = p then some (.s i) else roleAt ks vs (i + 1) a
  | _ :: ks, _ :: vs, i, a => roleAt ks vs (i + 1) a
  | _, _, _, _ => none
def iosAt : List Bool → List V → Nat → Option Addr
  | true :: _, .ref p :: _, 0 => some p
  | _ :: ks, _ :: vs, i + 1 => iosAt ks vs i
  | _, _, _ => none
section
variable {K : PySem.W.Frag} {A A' : Addr → Prop} {H H' : Hp}
theorem ios_mem : ∀ {ks : List Bool} {vs : List V} {i : Nat} {p : Addr}, iosAt ks vs i = some p → p ∈ ioA ks vs
  | true :: ks, .ref q :: vs, 0, p, h => by
    have e : q = p := Option.some.inj h
    subst e
    exact List.mem_cons_self
  | true :: ks, .ref q :: vs, i + 1, p, h => List.mem_cons_of_mem _ (ios_mem (ks := ks) (vs := vs) (i := i) h)
  | false :: ks, v :: vs, i + 1, p, h => by cases v <;> exact ios_mem (ks := ks) (vs := vs) (i := i) h
  | true :: ks, .non :: vs, i + 1, p, h => ios_mem (ks := ks) (vs := vs) (i := i) h
  | true :: ks, .bl _ :: vs, i + 1, p, h => ios_mem (ks := ks) (vs := vs) (i := i) h
  | true :: ks, .int _ :: vs, i + 1, p, h => ios_mem (ks := ks) (vs := vs) (i := i) h
  | true :: ks, .str _ :: vs, i + 1, p, h => ios_mem (ks := ks) (vs := vs) (i := i) h
  | true :: ks, .byt _ :: vs, i + 1, p, h => ios_mem (ks := ks) (vs := vs) (i := i) h
  | true :: ks, .flt _ :: vs, i + 1, p, h => ios_mem (ks := ks) (vs := vs) (i := i) h
  | true :: ks, .ty _ :: vs, i + 1, p, h => ios_mem (ks := ks) (vs := vs) (i := i) h
  | [], _, _, _, h => by simp [iosAt] at h
  | _ :: _, [], _, _, h => by simp [iosAt] at h
  | false :: _, v :: _, 0, _, h => by cases v <;> simp [iosAt] at h
  | true :: _, .non :: _, 0, _, h => by simp [iosAt] at h
  | true :: _, .bl _ :: _, 0, _, h => by simp [iosAt] at h
  | true :: _, .int _ :: _, 0, _, h => by simp [iosAt] at h
  | true :: _, .str _ :: _, 0, _, h => by simp [iosAt] at h
  | true :: _, .byt _ :: _, 0, _, h => by simp [iosAt] at h
  | true :: _, .flt _ :: _, 0, _, h => by simp [iosAt] at h
  | true :: _, .ty _ :: _, 0, _, h => by simp [iosAt] at h
theorem args_len {ks : List Bool} {vs : List V} {ds : List D} (h : ArgsD K A H ks vs ds) : vs.length = ks.length ∧ ds.length = ks.length := by
  induction h with
  | nil => exact ⟨rfl, rfl⟩
  | fz _ _ ih => exact ⟨congrArg (· + 1) ih.1, congrArg (· + 1) ih.2⟩
  | io _ _ _ ih => exact ⟨congrArg (· + 1) ih.1, congrArg (· + 1) ih.2⟩
theorem roleAt_fz {k : Bool} {ks : List Bool} {v : V} {vs : List V} {i : Nat} {a : Addr} (h : k = false) : roleAt (k :: ks) (v :: vs) i a = roleAt ks vs (i + 1) a := by
  subst h
  cases v <;> rfl
theorem ioA_fz {ks : List Bool} {v : V} {vs : List V} : ioA (false :: ks) (v :: vs) = ioA ks vs := by cases v <;> rfl
theorem role_A {ks : List Bool} {vs : List V} {ds : List D} (h : ArgsD K A H ks vs ds) : ∀ {i : Nat} {a : Addr} {r : Role}, roleAt ks vs i a = some r → A a ∧ a ∈ ioA ks vs ∧ ∃ o, H a = some o := by
  induction h with
  | nil => intro i a r q; cases q
  | fz _ _ ih => intro i a r q; rw [roleAt_fz rfl] at q; rw [ioA_fz]; exact ih q
  | @io ks p d vs ds ha ho _ ih =>
    intro i a r q
    have q' : (if a = p then some (Role.s i) else roleAt ks vs (i + 1) a) = some r := q
    by_cases e : a = p
    · subst e
      exact ⟨ha, List.mem_cons_self, ho.some⟩
    · rw [if_neg e] at q'
      obtain ⟨x, y, z⟩ := ih q'
      exact ⟨x, List.mem_cons_of_mem _ y, z⟩
theorem args_sl {ks : List Bool} {vs : List V} {ds : List D} (h : ArgsD K A H ks vs ds) : ∀ (j : Nat), (ioA ks vs).Nodup → ∀ (i : Nat) (s : Sl), (env0 ks ds)[i]? = some s → (match s with
    | .fz d => ∃ v, vs[i]? = some v ∧ Rep K A H v d
    | .io d => ∃ p, vs[i]? = some (.ref p) ∧ iosAt ks vs i = some p ∧ roleAt ks vs j p = some (.s (j + i)) ∧ Own K A H p d
    | _ => False) := by
  induction h with
  | nil => intro j _ i s q; simp [env0] at q
  | @fz ks v d vs ds r _ ih =>
    intro j nd i s q
    rw [ioA_fz] at nd
    cases i with
    | zero =>
      obtain rfl : Sl.fz d = s := Option.some.inj (by simpa [env0] using q)
      exact ⟨v, rfl, r⟩
    | succ i =>
      have := ih (j + 1) nd i s (by simpa [env0] using q)
      cases s with
      | fz d' => obtain ⟨v', e1, e2⟩ := this; exact ⟨v', by simpa using e1, e2⟩
      | io d' =>
        obtain ⟨p, e1, e2, e3, e4⟩ := this
        refine ⟨p, by simpa using e1, by cases v <;> exact e2, ?_, e4⟩
        rw [roleAt_fz rfl, e3]
        congr 2
        omega
      | no => exact this
      | ow _ => exact this
  | @io ks p d vs ds ha ho _ ih =>
    intro j nd i s q
    cases i with
    | zero =>
      obtain rfl : Sl.io d = s := Option.some.inj (by simpa [env0] using q)
      exact ⟨p, rfl, rfl, if_pos rfl, ho⟩
    | succ i =>
      have nd' := List.nodup_cons.mp nd
      have := ih (j + 1) nd'.2 i s (by simpa [env0] using q)
      cases s with
      | fz d' => obtain ⟨v', e1, e2⟩ := this; exact ⟨v', by simpa using e1, e2⟩
      | io d' =>
        obtain ⟨p', e1, e2, e3, e4⟩ := this
        refine ⟨p', by simpa using e1, e2, ?_, e4⟩
        have ne : p' ≠ p := fun z => nd'.1 (z ▸ ios_mem e2)
        show (if p' = p then _ else roleAt ks vs (j + 1) p') = _
        rw [if_neg ne, e3]
        congr 2
        omega
      | no => exact this
      | ow _ => exact this
theorem env0_len {ks : List Bool} {ds : List D} (h : ds.length = ks.length) : (env0 ks ds).length = ks.length := by
  induction ks generalizing ds with
  | nil => cases ds <;> rfl
  | cons k ks ih =>
    cases ds with
    | nil => cases h
    | cons d ds => exact congrArg (· + 1) (ih (Nat.succ.inj h))
/-- the frame of a call -/
def frOf (A : Addr → Prop) (H : Hp) (ks : List Bool) (vs : List V) (a0 : ∀ a, A a → ∃ o, H a = some o) (h : ∀ i p, iosAt ks vs i = some p → A p) : Gx := ⟨A, H, iosAt ks vs, a0, h⟩
theorem ios_A {ks : List Bool} {vs : List V} {ds : List D} (h : ArgsD K A H ks vs ds) : ∀ i p, iosAt ks vs i = some p → A p := by
  induction h with
  | nil => intro i p q; simp [iosAt] at q
  | @fz ks v d vs ds _ _ ih =>
    intro i p q
    cases i with
    | zero => cases v <;> simp [iosAt] at q
    | succ i => exact ih i p (by cases v <;> simpa [iosAt] using q)
  | @io ks p d vs ds ha _ _ ih =>
    intro i q e
    cases i with
    | zero =>
      obtain rfl : p = q := Option.some.inj e
      exact ha
    | succ i => exact ih i q e
theorem env_start {ks : List Bool} {N : List Str} {vs : List V} {ds : List D} (a0 : ∀ a, A a → ∃ o, H a = some o) (h : ArgsD K A H ks vs ds) (nd : (ioA ks vs).Nodup) (hN : ks.length ≤ N.length) :
    EnvOk K (frOf A H ks vs a0 (ios_A h)) H (L2.start N vs) (env0 ks ds ++ List.replicate (N.length - ks.length) .no) [] := by
  obtain ⟨l1, l2⟩ := args_len h
  have fe : ∀ a, fra (frOf A H ks vs a0 (ios_A h)) (roleAt ks vs 0) a → A a := fun a z => by
    rcases z with z | ⟨r, z⟩
    · exact z
    · exact (role_A h z).1
  have mv : ∀ {v : V} {d : D}, Rep K A H v d → Rep K (fra (frOf A H ks vs a0 (ios_A h)) (roleAt ks vs 0)) H v d := fun r => r.move (fun _ _ q _ => q) fun a z => .inl (fe a z)
  have le := env0_len (ks := ks) (ds := ds) l2
  refine ⟨roleAt ks vs 0, ?_, fun a o q _ => q, a0, fun a r q => (role_A h q).2.2, fun i s q => ?_, trivial⟩
  · unfold L2.start
    rw [List.length_append, List.length_append, List.length_map, List.length_replicate, List.length_replicate, le]
    omega
  · by_cases hi : i < ks.length
    · rw [List.getElem?_append_left (by omega)] at q
      have st : ∀ v, vs[i]? = some v → (L2.start N vs)[i]? = some (some v) := fun v e => by
        unfold L2.start
        rw [List.getElem?_append_left (by rw [List.length_map]; omega), List.getElem?_map, e]
        rfl
      have := args_sl h 0 nd i s q
      cases s with
      | no => exact this.elim
      | ow d => exact this.elim
      | fz d => obtain ⟨v, e1, e2⟩ := this; exact ⟨v, st v e1, mv e2⟩
      | io d =>
        obtain ⟨p, e1, e2, e3, e4⟩ := this
        exact ⟨p, st _ e1, by rw [e3, Nat.zero_add], e2, e4.move (fun _ _ q _ => q) (fun a z => .inl (fe a z)) rfl⟩
    · rw [List.getElem?_append_right (by omega), List.getElem?_replicate] at q
      split at q
      · obtain rfl := Option.some.inj q
        trivial
      · cases q
/-- the changed objects at the end -/
theorem outs_ok {g : Gx} {O : Addr → Option Role} {σ : L2.St} {env : Ev} (hs : ∀ i s, env[i]? = some s → SlOk K g O H σ i s) (w : ∀ a, A' a → fra g O a) : ∀ {ks : List Bool} {vs : List V} {e : Ev} {os : List D} (j : Nat), outs ks e = some os →
    ks.length = vs.length → (∀ i, e[i]? = env[j + i]?) → (∀ i, ks[i]? = some true → ∃ p, vs[i]? = some (.ref p) ∧ g.ios (j + i) = some p) → OutsD K A' H (ioA ks vs) os
  | [], [], e, os, j, h, _, _, _ => by
    obtain rfl : [] = os := Option.some.inj h
    trivial
  | true :: ks, v :: vs, e, os, j, h, hl, he, hi => by
    obtain ⟨p, e1, e2⟩ := hi 0 rfl
    obtain rfl : v = .ref p := Option.some.inj e1
    cases e with
    | nil => cases h
    | cons s e =>
      cases s <;> try (cases h; done)
      rename_i d
      cases ho : outs ks e with
      | none => simp [outs, ho] at h
      | some os' =>
        obtain rfl : d :: os' = os := by simpa [outs, ho] using h
        obtain ⟨q, f1, f2, f3, f4⟩ := hs j _ (by have := he 0; simpa using this.symm)
        obtain rfl : p = q := by
          rw [Nat.add_zero] at e2
          exact Option.some.inj (e2.symm.trans f3)
        refine ⟨f4.move (fun _ _ q _ => q) (fun a z => .inl (w a z)) rfl, outs_ok hs w (j + 1) ho (Nat.succ.inj hl) (fun i => ?_) (fun i k => ?_)⟩
        · have := he (i + 1)
          rw [show j + 1 + i = j + (i + 1) from by omega]
          simpa using this
        · have := hi (i + 1) (by simpa using k)
          rw [show j + 1 + i = j + (i + 1) from by omega]
          simpa using this
  | false :: ks, v :: vs, e, os, j, h, hl, he, hi => by
    rw [ioA_fz]
    cases e with
    | nil =>
      refine outs_ok hs w (j + 1) (e := []) (by simpa [outs] using h) (Nat.succ.inj hl) (fun i => ?_) (fun i k => ?_)
      · have := he (i + 1)
        rw [show j + 1 + i = j + (i + 1) from by omega]
        simpa using this
      · have := hi (i + 1) (by simpa using k)
        rw [show j + 1 + i = j + (i + 1) from by omega]
        simpa using this
    | cons s e =>
      refine outs_ok hs w (j + 1) (e := e) (by simpa [outs] using h) (Nat.succ.inj hl) (fun i => ?_) (fun i k => ?_)
      · have := he (i + 1)
        rw [show j + 1 + i = j + (i + 1) from by omega]
        simpa using this
      · have := hi (i + 1) (by simpa using k)
        rw [show j + 1 + i = j + (i + 1) from by omega]
        simpa using this
  | [], _ :: _, _, _, _, _, hl, _, _ => by cases hl
  | _ :: _, [], _, _, _, _, hl, _, _ => by cases hl
theorem ios_at {ks : List Bool} {vs : List V} {ds : List D} (h : ArgsD K A H ks vs ds) : ∀ i, ks[i]? = some true → ∃ p, vs[i]? = some (.ref p) ∧ iosAt ks vs i = some p := by
  induction h with
  | nil => intro i q; simp at q
  | @fz ks v d vs ds _ _ ih =>
    intro i q
    cases i with
    | zero => simp at q
    | succ i =>
      obtain ⟨p, e1, e2⟩ := ih i (by simpa using q)
      exact ⟨p, by simpa using e1, by cases v <;> exact e2⟩
  | @io ks p d vs ds _ _ _ ih =>
    intro i q
    cases i with
    | zero => exact ⟨p, rfl, rfl⟩
    | succ i =>
      obtain ⟨p, e1, e2⟩ := ih i (by simpa using q)
      exact ⟨p, by simpa using e1, e2⟩
theorem fin_ok {ks : List Bool} {vs : List V} {ds : List D} (a0 : ∀ a, A a → ∃ o, H a = some o) (h : ArgsD K A H ks vs ds) {σ : L2.St} {e : Ev} {v : V} {r : Opd} (x : EnvOk K (frOf A H ks vs a0 (ios_A h)) H' σ e [(v, r)]) {fresh : Bool} {d : D} {os : List D}
    (hf : finO ks r e = .ok fresh d os) : ResOk K A H H' (ioA ks vs) os v d fresh := by
  obtain ⟨O, x⟩ := x
  obtain ⟨l1, l2⟩ := args_len h
  have keep : ∀ a o, H a = some o → a ∉ ioA ks vs → H' a = some o := fun a o q n => x.keep a o q fun i z => n (ios_mem z)
  unfold finO at hf
  cases ho : outs ks e with
  | none => rw [ho] at hf; cases hf
  | some os' =>
    rw [ho] at hf
    have OS : ∀ {A' : Addr → Prop}, (∀ a, A' a → fra (frOf A H ks vs a0 (ios_A h)) O a) → OutsD K A' H' (ioA ks vs) os' := fun w => outs_ok x.sl w 0 ho l1.symm (fun i => by rw [Nat.zero_add]) (fun i k => by rw [Nat.zero_add]; exact ios_at h i k)
    have wA : ∀ a, A a → fra (frOf A H ks vs a0 (ios_A h)) O a := fun a z => .inl z
    have mine : ∀ {p : Addr} {d' : D} {ro : Role}, v = .ref p → O p = some ro → H p = none → Own K (fra (frOf A H ks vs a0 (ios_A h)) O) H' p d' → ResOk K A H H' (ioA ks vs) os' v d' true := fun {p d' ro} e1 e2 e3 e4 => by
      have w2 : ∀ a, (A a ∨ a = p) → fra (frOf A H ks vs a0 (ios_A h)) O a := fun a z => by
        rcases z with z | z
        · exact .inl z
        · exact .inr ⟨_, by rw [z]; exact e2⟩
      exact ⟨p, e1, e3, ⟨keep, OS w2⟩, e4.move (fun _ _ q _ => q) (fun a z => .inl (w2 a z)) rfl⟩
    cases r with
    | val d' =>
      injection hf with q1 q2 q3
      subst q1 q2 q3
      exact ⟨⟨keep, OS wA⟩, x.st.1.move (fun _ _ q _ => q) fun a z => .inl (wA a z)⟩
    | tmp d' =>
      injection hf with q1 q2 q3
      subst q1 q2 q3
      obtain ⟨p, e1, e2, e3, e4⟩ := x.st.1
      exact mine e1 e2 e3 e4
    | slot i =>
      have es := x.st.1
      cases e1 : e[i]? with
      | none => simp only [e1] at hf; cases hf
      | some s =>
      have hs := x.sl i s e1
      cases s with
      | no => simp only [e1] at hf; cases hf
      | fz d2 =>
        simp only [e1] at hf
        injection hf with q1 q2 q3
        subst q1 q2 q3
        obtain ⟨v', f1, f2⟩ := hs
        rw [es] at f1
        obtain rfl := Option.some.inj (Option.some.inj f1)
        exact ⟨⟨keep, OS wA⟩, f2.move (fun _ _ q _ => q) fun a z => .inl (wA a z)⟩
      | ow d2 =>
        simp only [e1] at hf
        injection hf with q1 q2 q3
        subst q1 q2 q3
        obtain ⟨p, f1, f2, f3, f4⟩ := hs
        rw [es] at f1
        exact mine (Option.some.inj (Option.some.inj f1)) f2 f3 f4
      | io d2 =>
        simp only [e1] at hf
        cases hf
end
theorem EnvO.pushS {K : PySem.W.Frag} {g : Gx} {O : Addr → Option Role} {H : Hp} {σ : L2.St} {env : Ev} {S : List (V × Opd)} {v : V} {d : D} (e : EnvO K g O H σ env S) (r : Rep K (fra g O) H v d) : EnvOk K g H σ env ((v, .val d) :: S) := ⟨O, e.push r⟩
/-- the body by its mirror gives the promise -/
theorem spD_body {K : PySem.W.Frag} {mg : Str → Option Value} {ks : List Bool} {N : List Str} {m : MS} {vs : List V} {H : Hp} {Q : VK} {E : XK} (hN : ks.length ≤ N.length) (h : spD K mg ks (mkF ks N.length m) vs H Q E) :
    tS K mg (fun cls d _ H => E cls d H) m { nx := fun _ H' => Q .non H', rt := Q } (L2.start N vs) H := by
  obtain ⟨A, ds, a0, ha, nd, hf⟩ := h
  obtain ⟨l1, l2⟩ := args_len ha
  have st := env_start (N := N) a0 ha nd hN
  refine ⟨_, _, _, (fun _ z => absurd z List.not_mem_nil), st, ?_⟩
  unfold mkF at hf
  rw [if_pos l2] at hf
  generalize m (env0 ks ds ++ List.replicate (N.length - ks.length) Sl.no) = fl at hf ⊢
  cases fl with
  | nx e =>
    intro σ' H' x
    obtain ⟨O, x⟩ := x
    have hf' : (match finO ks (.val .non) e with
      | .ok fresh d os => ∀ v H', ResOk K A H H' (ioA ks vs) os v d fresh → Q v H'
      | .ex c os => ∀ C H', mg c = some (Value.ref C) → Aft K A A H H' (ioA ks vs) os → E (.ref C) none H'
      | .bad => False) := hf
    cases q : finO ks (.val .non) e with
    | ok fresh d os =>
      rw [q] at hf'
      exact hf' _ _ (fin_ok a0 ha (x.pushS .non) q)
    | ex c os =>
      unfold finO at q
      split at q <;> cases q
    | bad => rw [q] at hf'; exact hf'.elim
  | rt r e =>
    intro v σ' H' x
    have hf' : (match finO ks r e with
      | .ok fresh d os => ∀ v H', ResOk K A H H' (ioA ks vs) os v d fresh → Q v H'
      | .ex c os => ∀ C H', mg c = some (Value.ref C) → Aft K A A H H' (ioA ks vs) os → E (.ref C) none H'
      | .bad => False) := hf
    cases q : finO ks r e with
    | ok fresh d os =>
      rw [q] at hf'
      exact hf' _ _ (fin_ok a0 ha x q)
    | ex c os =>
      unfold finO at q
      split at q
      · cases q
      · split at q
        · cases q
        · cases q
        · split at q <;> cases q
    | bad => rw [q] at hf'; exact hf'.elim
  | ex c e =>
    intro C σ' H' hc x
    obtain ⟨O, x⟩ := x
    unfold finF at hf
    cases ho : outs ks e with
    | none => simp only [ho] at hf
    | some os =>
      simp only [ho] at hf
      refine hf C H' hc ⟨fun a o q n => x.keep a o q fun i z => n (ios_mem z), ?_⟩
      exact outs_ok x.sl (fun a z => .inl z) 0 ho l1.symm (fun i => by rw [Nat.zero_add]) (fun i k => by rw [Nat.zero_add]; exact ios_at ha i k)
  | br e => exact (hf : False).elim
  | ct e => exact (hf : False).elim
  | bad => exact (hf : False).elim
end DL

/-! DL3: a def entered, called; the law's end, where the guards around are known. -/
namespace DL
open PySem PySem.Spec PyProof.Rows L2
section
variable {P : Program} {w : World} {K : PySem.W.Frag} {mg : Str → Option Value} {base : Heap}
/-- a def (or method) of the text, by its body -/
theorem okG {x qual : Str} {st : Stmt} {f : Addr} {fd : FuncData} {N ps : List Str} {k : Nat} {sp : Sp} (F : Fun K x qual st f fd) (S : FnScope N ps (defScope st)) (len : ∀ vs H Q E, sp vs H Q E → vs.length = ps.length)
    (hb : ∀ (cdv : Value) (A : Around) (outer : List Env) (s : Shared) (H : Hp) (vs : List V) (Q : VK) (E : XK), At k (cxOf (L2.CX P w) P w K mg base N qual (defScope st) f cdv A outer s H E) (fun cls d _ H => E cls d H) → sp vs H Q E →
      ∃ t, PSs (cxOf (L2.CX P w) P w K mg base N qual (defScope st) f cdv A outer s H E) (defBody st) t ∧ t { nx := fun _ H' => Q .non H', rt := Q } (L2.start N vs) H) : FnG P w K mg base (k + 1) f fd ps sp := by
  obtain ⟨oc, od, kV, doc, pm, an, cdv, ct, osl, rfl, lk, hcd⟩ := F.ex
  refine ⟨len, fun A outer s H args us vs Q E hg hr e0 hbd r hsp => ?_⟩
  have inb : ∀ b o, base.get? b = some o → s.heap.get? b = some o := fun b o e => (e0.bs b o e).1
  have names : ((ps.zip us).all fun y => (defScope st).names.lookup y.1 == some NameKind.local || (defScope st).names.lookup y.1 == some NameKind.cell) = true := by
    rw [List.all_eq_true]
    rintro ⟨n, v⟩ hy
    rcases S.par n (List.of_mem_zip hy).1 with q | q
    · show ((defScope st).names.lookup n == _ || _) = true
      rw [q]; rfl
    · show (_ || (defScope st).names.lookup n == _) = true
      rw [q, Bool.or_eq_true]; exact .inr rfl
  refine Att.call_fn (e0.mod.kin.keeps inb) (e0.mod.nolimit.keeps inb) lk hcd hr.depth hbd names (fun s1 ic => ?_) S.co S.gen S.kind
  obtain ⟨t, ht, hq⟩ := hb cdv A outer s H vs Q E ⟨takes_of rfl rfl rfl rfl, passes_of rfl, rfl, S.nd, hg, hr.deeper _⟩ hsp
  have I := inv_start (E := E) (CX := L2.CX P w) S hr.hd e0 (len _ _ _ _ hsp) r ic
  refine wpAny_mono (ht.run [] s1 _ H _ I hq) (fun fl s' z => ?_) fun e s' z => z
  have fin : ∀ {v : V} {σ' : L2.St} {H' : Hp} {u : Value}, Inv (cxOf (L2.CX P w) P w K mg base N qual (defScope st) f cdv A outer s H E) [] σ' H' s' → RelV v u → Q v H' →
      CR (L2.CX P w) outer P w H s Q E (.ok (.ret u)) s' := fun J rv q => ⟨_, _, J.os, J.bare, J.base, J.hok, rv, q⟩
  cases fl with
  | next => obtain ⟨_, _, J, q⟩ := z; exact fin J (v := V.non) rfl q
  | ret u => obtain ⟨_, _, _, J, rv, q⟩ := z; exact fin J rv q
  | brk => obtain ⟨_, _, _, q⟩ := z; exact q.elim
  | cont => obtain ⟨_, _, _, q⟩ := z; exact q.elim
theorem spD_len {ks : List Bool} {ps : List Str} {f : FD} (h : ks.length = ps.length) : ∀ vs H Q E, spD K mg ks f vs H Q E → vs.length = ps.length := fun vs H Q E ⟨_, _, _, a, _⟩ => (args_len a).1.trans h
/-- a def by its mirror -/
theorem fnD {x qual : Str} {st : Stmt} {f : Addr} {fd : FuncData} {N ps : List Str} {k : Nat} {ks : List Bool} {m : MS} (F : Fun K x qual st f fd) (S : FnScope N ps (defScope st)) (hl : ks.length = ps.length) (hN : ks.length ≤ N.length)
    (hb : ∀ (cdv : Value) (A : Around) (outer : List Env) (s : Shared) (H : Hp) (W : WX) (E : XK), At k (cxOf (L2.CX P w) P w K mg base N qual (defScope st) f cdv A outer s H E) W →
      PSs (cxOf (L2.CX P w) P w K mg base N qual (defScope st) f cdv A outer s H E) (defBody st) (tS K mg W m)) : FnG P w K mg base (k + 1) f fd ps (spD K mg ks (mkF ks N.length m)) :=
  okG F S (spD_len hl) fun cdv A outer s H vs Q E at_ hsp => ⟨_, hb cdv A outer s H _ E at_, spD_body hN hsp⟩
end
section
variable {X : Cx} {k : Nat} {f : Addr} {fd : FuncData} {ps : List Str} {sp : Sp} {dvs : List V} {ds : List Value} {x : Str} {p pos : Pos} {e : Expr} {es : List Expr} {t : TA} {W : WX}
/-- the callee runs -/
theorem runG {pins : List (Addr × Obj)} {σ : L2.St} {H : Hp} {s : Shared} {Q : VK} {us : List Value} {vs : List V} (F : FnG X.prog X.w X.K X.mg X.base k f fd ps sp) (C : At k X W) (hb : Binds X.K fd ps ds) (hd : Vals dvs ds)
    (I : Inv X pins σ H s) (r : Vals vs us) (h : sp (vs ++ dvs) H Q (fun cls d H' => W cls d σ H')) : wpAny (model X.prog X.w) X.A (call (.ref f) us) (EP X pins σ Q) X.xe s := by
  have r2 := r.append hd
  have bd := hb s us I.kIn (r2.length.symm.trans (F.len _ _ _ _ h))
  have run := F.run X.A X.stack s H _ _ _ Q _ C.gu C.room I.env0 bd r2 h
  refine wpAny_call (codeAny_mono run fun rs s' hq => ?_)
  match rs, hq with
  | .error e, hq => exact C.tk e s' (XE.of_call I (fun _ _ _ z => z) hq)
  | .ok (.ret u), hq => exact I.after hq
  | .ok .next, hq => exact hq.elim
  | .ok .brk, hq => exact hq.elim
  | .ok .cont, hq => exact hq.elim
def tCallW (W : WX) (sp : Sp) (dvs : List V) (t : TA) : TE := fun σ H Q => t σ H fun vs H1 => sp (vs ++ dvs) H1 Q (fun cls d H' => W cls d σ H')
theorem peG_call (F : FnG X.prog X.w X.K X.mg X.base k f fd ps sp) (C : At k X W) (hg : Gl X x) (hm : X.mg x = some (.ref f)) (hk : PySem.W.keepIn X.K (.ref f) = true) (hb : Binds X.K fd ps ds) (hd : Vals dvs ds) (ha : PA X (e :: es) t)
    (hdb : (x == ("__debug__" : Str)) = false := by decide) (he : starEach (e :: es) X.env = (false, eval e X.env) :: starEach es X.env := by rfl) (hpl : (backTo pos (starEach es X.env)).any (·.1) = false := by rfl) :
    PE X (.Call (.Name x p) (e :: es) [] pos) (tCallW W sp dvs t) := ⟨fun pins s σ H Q I h =>
  wpAny_Call_Name_kw (ld_glob I hg hm (PySem.W.callWith_K (h₀ := X.base) I.ok.mod.kin hk (thn (ha.run pos pins s σ H _ I h) fun us s1 hh => by
    obtain ⟨vs, H1, I1, r, q⟩ := hh
    exact ⟨I1.kIn, runG F C hb hd I1 r q⟩) he hpl) hdb)⟩
theorem peG_call0 (F : FnG X.prog X.w X.K X.mg X.base k f fd ps sp) (C : At k X W) (hg : Gl X x) (hm : X.mg x = some (.ref f)) (hk : PySem.W.keepIn X.K (.ref f) = true) (hb : Binds X.K fd ps ds) (hd : Vals dvs ds)
    (hdb : (x == ("__debug__" : Str)) = false := by decide) : PE X (.Call (.Name x p) [] [] pos) (tCallW W sp dvs tNil) := ⟨fun pins s σ H Q I h =>
  wpAny_Call_Name_kw (ld_glob I hg hm (PySem.W.callWith_K0 I.kIn hk (runG (us := []) F C hb hd I .nil h)) hdb)⟩
/-- the keywords of a call, in the order of the parameters -/
def tCallKW (W : WX) (sp : Sp) (gV : List V → List V → List V) (t tk : TA) : TE := fun σ H Q => t σ H fun vs H1 => tk σ H1 fun zs H2 => sp (gV vs zs) H2 Q (fun cls d H' => W cls d σ H')
end

/-! ### the law's end -/
section
variable {P : Program} {w : World} {K : PySem.W.Frag} {mg mb : Str → Option Value} {k : Nat} {fa a : Addr} {fd : FuncData} {x : Str} {sp : Sp} {s₁ : Shared} {vs : List Value} {ns : List Int}
/-- from a heap in which the script alone may be tracked -/
theorem lawG_core {H : Hp} (KX : K.In s₁.heap) (hns : s₁.heap.Ns mainGlobals mg) (hb : s₁.heap.Ns builtinsNs mb) (hbb : ∀ x : Str, x ≠ "__name__" → mb x = bootBuiltins x) (hlim : s₁.heap.NoLimit) (hg : s₁.gens = #[])
    (ha : s₁.heap.get? a = some { cls := .type "list", data := .seq vs.toArray }) (hr : Room k callerA) (F : ∀ base : Heap, K.In base → base.Ns mainGlobals mg → ∃ fd, FnG P w K mg base k fa fd [x] sp ∧ Binds K fd [x] [])
    (hok : HOk P w H s₁.heap) (one : ∀ b u, H b = some u → b = a ∧ ∃ o xs, u = .frz o (.lst xs)) (nk : ∀ u, H a = some u → K.lookup a = none) (hsp : sp [.ref a] H (fun v _ => v = .bl true) fun _ _ _ => False) :
    codeAny (model P w) callerA (.call (.ref fa) ⟨[.ref a], []⟩) (fun r s' => r = .ok (.ret (.bool true)) ∧ OldK s₁.heap s'.heap ∧ s'.os = s₁.os ∧ AllBare s'.gens) s₁ := by
  have notDict : ∀ {b : Addr} {o : Obj} {es : Array DictEntry} {n : Nat}, s₁.heap.get? b = some o → o.data = .dict es n → H b = none := fun {b o es n} e d => by
    cases q : H b with
    | none => rfl
    | some u =>
      obtain ⟨rfl, _⟩ := one b u q
      rw [ha] at e
      obtain rfl := Option.some.inj e
      exact nomatch d
  have names : ∀ {b : Addr} {m : Str → Option Value}, s₁.heap.Ns b m → (hidT s₁.heap H).Ns b m := fun {b m} z => by
    obtain ⟨o, es, n, e, d, r⟩ := z
    exact ⟨o, es, n, hidT_get e (notDict e d), d, r⟩
  have inK : K.In (hidT s₁.heap H) := fun b o e => hidT_get (KX b o e) (by
    cases q : H b with
    | none => rfl
    | some u =>
      obtain ⟨rfl, _⟩ := one b u q
      rw [nk u q] at e
      cases e)
  obtain ⟨mc, c1, c2⟩ := hlim
  have md : Mod K mg (hidT s₁.heap H) := ⟨inK, names hns, ⟨mb, names hb, hbb⟩, ⟨mc, names c1, c2⟩⟩
  have en : Env0 P w K mg (hidT s₁.heap H) callerA [] s₁ H :=
    { frames := rfl, mod := md, bs := fun b o e => of_hidT e, bsz := Nat.le_of_eq (hidT_size _ _), funs := trivial, frf := fun b z => absurd z (List.not_mem_nil), hok := hok, bare := .of_eq hg }
  obtain ⟨fd, F1, hbind⟩ := F _ inK (names hns)
  have run := F1.run callerA [] s₁ H ⟨[.ref a], []⟩ [.ref a] [.ref a] _ _ rfl hr en (hbind s₁ [.ref a] KX rfl) (.cons rfl .nil) hsp
  refine codeAny_mono run fun rs s' z => ?_
  match rs, z with
  | .error e, z => obtain ⟨_, _, _, _, _, _, _, _, _, _, _, _, q⟩ := z; exact q.elim
  | .ok .next, z => exact z.elim
  | .ok .brk, z => exact z.elim
  | .ok .cont, z => exact z.elim
  | .ok (.ret u), z =>
    obtain ⟨v, H', os, bare, un, hok', rv, q⟩ := z
    have q : v = V.bl true := q
    subst q
    have rv : u = Value.bool true := rv
    subst rv
    refine ⟨rfl, OldK.of_keep fun b o e => ?_, os, bare⟩
    cases q : H b with
    | none => exact un.keep b o e q (fun z => nomatch z) (fun z => nomatch z)
    | some t =>
      obtain ⟨_, ob, xs, rfl⟩ := one b t q
      have e1 := (hok b _ q).1
      have e2 := (hok' b _ (un.frzs b ob _ q)).1
      rw [e1] at e
      obtain rfl := Option.some.inj e
      exact e2
theorem repL_ints {A : Addr → Prop} {H : Hp} : ∀ ns : List Int, RepL K A H (ns.map V.int) (ns.map D.int)
  | [] => .nil
  | n :: r => .cons (.int n) (repL_ints r)
theorem lawG (KX : K.In s₁.heap) (hns : s₁.heap.Ns mainGlobals mg) (hb : s₁.heap.Ns builtinsNs mb) (hbb : ∀ x : Str, x ≠ "__name__" → mb x = bootBuiltins x) (hlim : s₁.heap.NoLimit) (hg : s₁.gens = #[])
    (ha : s₁.heap.get? a = some { cls := .type "list", data := .seq vs.toArray }) (hi : IntsAre vs ns) (hl : ns.length ≤ sizeLine) (hr : Room k callerA)
    (F : ∀ base : Heap, K.In base → base.Ns mainGlobals mg → ∃ fd, FnG P w K mg base k fa fd [x] sp ∧ Binds K fd [x] [])
    (hsp : ∀ H : Hp, Rep K (fun _ => False) H (.ref a) (.scr (ns.map D.int)) → sp [.ref a] H (fun v _ => v = .bl true) fun _ _ _ => False) :
    codeAny (model P w) callerA (.call (.ref fa) ⟨[.ref a], []⟩) (fun r s' => r = .ok (.ret (.bool true)) ∧ OldK s₁.heap s'.heap ∧ s'.os = s₁.os ∧ AllBare s'.gens) s₁ := by
  have rv := vals_ints hi
  cases hk : K.lookup a with
  | some o =>
    have e := KX a o hk
    rw [ha] at e
    obtain rfl := Option.some.inj e
    have wr : WrL K a (ns.map V.int) := .inr ⟨_, _, _, hk, rfl, rfl, rfl, by rw [List.size_toArray, hi.length]; exact hl, by rw [List.toList_toArray]; exact rv⟩
    exact lawG_core (H := fun _ => none) KX hns hb hbb hlim hg ha hr F (fun _ _ z => nomatch z) (fun _ _ z => nomatch z) (fun _ z => nomatch z) (hsp _ (.scr (.inr wr) (repL_ints ns)))
  | none =>
    have atA : ∀ {b : Addr} {u : HO}, (if b = a then some (HO.frz { cls := .type "list", data := .seq vs.toArray } (.lst (ns.map V.int))) else none) = some u → b = a ∧ u = HO.frz { cls := .type "list", data := .seq vs.toArray } (.lst (ns.map V.int)) := fun {b u} z => by
      by_cases q : b = a
      · rw [if_pos q] at z
        exact ⟨q, (Option.some.inj z).symm⟩
      · rw [if_neg q] at z
        cases z
    refine lawG_core (H := fun b => if b = a then some (HO.frz { cls := .type "list", data := .seq vs.toArray } (.lst (ns.map V.int))) else none) KX hns hb hbb hlim hg ha hr F (fun b u z => ?_) (fun b u z => ?_) (fun _ _ => hk) (hsp _ (.scr (.inl ⟨.inr ⟨_, if_pos rfl⟩, fun z => z⟩) (repL_ints ns)))
    · obtain ⟨rfl, rfl⟩ := atA z
      exact ⟨ha, by rw [List.length_map]; exact hl, vs, _, rv, ha⟩
    · obtain ⟨e1, rfl⟩ := atA z
      exact ⟨e1, _, _, rfl⟩
end
/-- what k_head leaves, from the law's mirror -/
theorem walkG {l : PySem.W.OpenLaw} {n k : Nat} {q : Program} {loose : List Str} {XP : (Str → Option Value) → Heap → Prop} {YP : World → Heap → Prop} {d : DefRec} {K : Params → PySem.W.Frag} {f : FD} {x : Str}
    (hn : l.most = some n) (hn2 : n ≤ sizeLine) (hdf : d.params.defaults = []) (hr : Room k callerA) (hY : ∀ (w : World) (h : Heap), YP w h → (K w.params).In h)
    (F : ∀ (w : World) (mg : Str → Option Value) (fa : Addr) (h : Heap), (K w.params).In h → h.Ns mainGlobals mg → mg d.name = some (.ref fa) →
      ∀ base : Heap, (K w.params).In base → base.Ns mainGlobals mg → ∃ fd : FuncData, FnG l.prog w (K w.params) mg base k fa fd [x] (spD (K w.params) mg [false] f) ∧ Binds (K w.params) fd [x] [])
    (hf : ∀ ns : List Int, ns.length ≤ n → f [.scr (ns.map D.int)] = .ok false (.bl true) []) :
    PySem.W.WalkO q loose XP YP l.row.toRowW d [] (fun f vs => PySem.call f vs) :=
  Att.attach_call hn hdf fun w s₀ s₁ mg mb fa o pm cd doc a vs ns G Y ho hd hcd hmg hobj hints hlen hg => by
    have KX := hY w _ Y
    refine lawG KX G.T.g G.T.b G.T.builtins G.T.nolimit hg hobj hints (Nat.le_trans hlen hn2) hr (F w mg fa _ KX G.T.g hmg) fun H r => ?_
    refine ⟨fun _ => False, [.scr (ns.map D.int)], fun _ z => z.elim, .fz r .nil, .nil, ?_⟩
    rw [hf ns hlen]
    intro v H' z
    have z2 := z.2
    cases z2
    rfl
end DL

/-! DL4: expressions by their mirrors. -/
namespace DL
open PySem PySem.Spec PyProof.Rows L2

/-! ### values under way, read -/
/-- the outermost object read, its items frozen -/
def PRep (K : PySem.W.Frag) (A : Addr → Prop) (H : Hp) (v : V) : D → Prop
  | .lst ds => ∃ a vs, v = .ref a ∧ H a = some (.lst vs) ∧ RepL K A H vs ds
  | .scr ds => ∃ a vs, v = .ref a ∧ SqL K H a vs ∧ RepL K A H vs ds
  | .tup ds => ∃ a vs, v = .ref a ∧ SqT K H a vs ∧ RepL K A H vs ds
  | .dct ds => ∃ a vs, v = .ref a ∧ Rd H a (.dK vs) ∧ RepK K A H vs ds
  | d => Rep K A H v d
section
variable {K : PySem.W.Frag} {A A' : Addr → Prop} {H H' : Hp} {v : V} {d : D}
theorem Rep.p (r : Rep K A H v d) : PRep K A H v d := by
  cases r with
  | non => exact .non
  | bl b => exact .bl b
  | int i => exact .int i
  | str x => exact .str x
  | lst h n t => exact ⟨_, _, rfl, h, t⟩
  | scr h t => exact ⟨_, _, rfl, by rcases h with h | h; exact .inl h.1; exact h.sq H, t⟩
  | tup h t => exact ⟨_, _, rfl, by rcases h with h | h; exact .inl h.1; exact h.sq H, t⟩
  | dct h n t => exact ⟨_, _, rfl, h, t⟩
theorem Own.p {p : Addr} (r : Own K A H p d) : PRep K A H (.ref p) d := by
  cases d <;> first
    | exact r.elim
    | (obtain ⟨vs, e, t⟩ := r
       first
         | exact ⟨_, _, rfl, e, t⟩
         | exact ⟨_, _, rfl, .inl e, t⟩)
variable {g : Gx} {O : Addr → Option Role} {σ σ' : L2.St} {env env' : Ev} {S : List (V × Opd)} {r : Opd}
theorem sl_p {i : Nat} {s : Sl} (h : SlOk K g O H σ i s) (e : σ[i]? = some (some v)) (q : s.get = some d) : PRep K (fra g O) H v d := by
  cases s with
  | no => cases q
  | fz d' =>
    obtain rfl := Option.some.inj q
    obtain ⟨u, h1, h2⟩ := h
    rw [e] at h1
    obtain rfl := Option.some.inj (Option.some.inj h1)
    exact h2.p
  | ow d' =>
    obtain rfl := Option.some.inj q
    obtain ⟨p, h1, _, _, h2⟩ := h
    rw [e] at h1
    obtain rfl := Option.some.inj (Option.some.inj h1)
    exact h2.p
  | io d' =>
    obtain rfl := Option.some.inj q
    obtain ⟨p, h1, _, _, h2⟩ := h
    rw [e] at h1
    obtain rfl := Option.some.inj (Option.some.inj h1)
    exact h2.p
theorem st_p (x : EnvO K g O H σ env S) : ∀ {T : List (V × Opd)}, StOk K g O H σ T → (v, r) ∈ T → peek r env = some d → PRep K (fra g O) H v d
  | [], _, h, _ => nomatch h
  | (u, q) :: T, st, h, hp => by
    rcases List.mem_cons.mp h with e | h
    · injection e with e1 e2
      subst e1 e2
      cases r with
      | val d' =>
        obtain rfl := Option.some.inj hp
        exact st.1.p
      | tmp d' =>
        obtain rfl := Option.some.inj hp
        obtain ⟨p, rfl, _, _, h2⟩ := st.1
        exact h2.p
      | slot i =>
        have es := st.1
        have hp' : slotD env i = some d := hp
        unfold slotD at hp'
        cases e1 : env[i]? with
        | none => rw [e1] at hp'; cases hp'
        | some s =>
          rw [e1] at hp'
          exact sl_p (x.sl i s e1) es hp'
    · have st' : StOk K g O H σ T := by cases q <;> exact st.2
      exact st_p x st' h hp
/-- a value under way, read -/
theorem EnvO.peek (x : EnvO K g O H σ env S) (h : (v, r) ∈ S) (hp : DL.peek r env = some d) : PRep K (fra g O) H v d := st_p x x.st h hp
theorem st_drop : ∀ {T S : List (V × Opd)}, StOk K g O H σ (T ++ S) → StOk K g O H σ S
  | [], _, h => h
  | (_, q) :: T, S, h => by
    have h' : StOk K g O H σ (T ++ S) := by cases q <;> exact h.2
    exact st_drop h'
theorem EnvO.drop {T : List (V × Opd)} (x : EnvO K g O H σ env (T ++ S)) : EnvO K g O H σ env S := ⟨x.len, x.keep, x.trk, x.own, x.sl, st_drop x.st⟩
theorem EnvO.h0 (x : EnvO K g O H σ env S) {p : Addr} (hp : H p = none) : g.H0 p = none := by
  cases q : g.H0 p with
  | none => rfl
  | some o =>
    have e := x.keep p o q fun i z => by
      obtain ⟨o', e⟩ := x.trk p (g.ioA i p z)
      rw [hp] at e; cases e
    rw [hp] at e; cases e
/-- what is wanted of a result: a frozen value in a grown heap, or a new object of nobody's -/
def resQ (K : PySem.W.Frag) (A : Addr → Prop) (H : Hp) (res : Opd) (Q : VK) : Prop := match res with
  | .val d => ∀ v H', (∀ a o, H a = some o → H' a = some o) → Rep K A H' v d → Q v H'
  | .tmp d => ∀ p H', (∀ a o, H a = some o → H' a = some o) → H p = none → Own K (fun a => A a ∨ a = p) H' p d → Q (.ref p) H'
  | .slot _ => False
def setO (O : Addr → Option Role) (p : Addr) (r : Option Role) : Addr → Option Role := fun a => if a = p then r else O a
theorem setO_same {O : Addr → Option Role} {p : Addr} {r : Option Role} : setO O p r p = r := if_pos rfl
theorem setO_ne {O : Addr → Option Role} {p a : Addr} {r : Option Role} (h : a ≠ p) : setO O p r a = O a := if_neg h
theorem EnvO.tmpX (x : EnvO K g O H σ env S) {p : Addr} (m : ∀ a o, H a = some o → H' a = some o) (hp : H p = none) (o : Own K (fun a => fra g O a ∨ a = p) H' p d) :
    ∃ O', EnvO K g O' H' σ env ((.ref p, .tmp d) :: S) ∧ ∀ v d, Rep K (fra g O) H v d → Rep K (fra g O') H' v d := by
  have y : EnvO K g O H' σ env S := x.move m
  have np : O p = none := by
    cases q : O p with
    | none => rfl
    | some r =>
      obtain ⟨o, e⟩ := x.own p r q
      rw [hp] at e; cases e
  have w : ∀ a, fra g (setO O p (some (Role.t S.length))) a → fra g O a ∨ a = p := fun a z => by
    by_cases e : a = p
    · exact .inr e
    · rcases z with z | ⟨r, z⟩
      · exact .inl (.inl z)
      · rw [setO_ne e] at z
        exact .inl (.inr ⟨r, z⟩)
  obtain ⟨op, hop⟩ := o.some
  have nr : ∀ {a : Addr} {r : Role}, O a = some r → a ≠ p := fun {a r} q e => by rw [e, np] at q; cases q
  have mv0 : ∀ (v : V) (d : D), Rep K (fra g O) H v d → Rep K (fra g (setO O p (some (Role.t S.length)))) H' v d := fun v d r =>
    r.move (fun a o q _ => m a o q) fun a z => by
      rcases w a z with z | z
      · exact .inl z
      · exact .inr (z ▸ hp)
  have z : EnvO K g (setO O p (some (Role.t S.length))) H' σ env S := by
    have mv : ∀ {v : V} {d : D}, Rep K (fra g O) H v d → Rep K (fra g (setO O p (some (Role.t S.length)))) H' v d := fun r =>
      r.move (fun a o q _ => m a o q) fun a z => by
        rcases w a z with z | z
        · exact .inl z
        · exact .inr (z ▸ hp)
    have mo : ∀ {q : Addr} {d : D}, Own K (fra g O) H q d → Own K (fra g (setO O p (some (Role.t S.length)))) H' q d := fun {q d} r =>
      r.move (fun a o q _ => m a o q) (fun a z => by
        rcases w a z with z | z
        · exact .inl z
        · exact .inr (z ▸ hp)) (by
        obtain ⟨o, e⟩ := r.some
        rw [e, m _ _ e])
    refine ⟨x.len, y.keep, y.trk, fun a r q => ?_, fun i s h => ?_, ?_⟩
    · by_cases e : a = p
      · subst e; exact ⟨op, hop⟩
      · rw [setO_ne e] at q
        exact y.own a r q
    · have q := x.sl i s h
      cases s with
      | no => trivial
      | fz d => obtain ⟨v, h1, h2⟩ := q; exact ⟨v, h1, mv h2⟩
      | ow d => obtain ⟨q, h1, h2, h3, h4⟩ := q; exact ⟨q, h1, by rw [setO_ne (nr h2)]; exact h2, h3, mo h4⟩
      | io d => obtain ⟨q, h1, h2, h3, h4⟩ := q; exact ⟨q, h1, by rw [setO_ne (nr h2)]; exact h2, h3, mo h4⟩
    · have st := x.st
      have go : ∀ {T : List (V × Opd)}, StOk K g O H σ T → StOk K g (setO O p (some (Role.t S.length))) H' σ T := by
        intro T
        induction T with
        | nil => intro _; trivial
        | cons e T ih =>
          obtain ⟨v, e⟩ := e
          intro st
          cases e with
          | val d => exact ⟨mv st.1, ih st.2⟩
          | tmp d => obtain ⟨⟨q, h1, h2, h3, h4⟩, t⟩ := st; exact ⟨⟨q, h1, by rw [setO_ne (nr h2)]; exact h2, h3, mo h4⟩, ih t⟩
          | slot i => exact ⟨st.1, ih st.2⟩
      exact go st
  exact ⟨_, ⟨z.len, z.keep, z.trk, z.own, z.sl, ⟨p, rfl, setO_same, x.h0 hp, o.move (fun _ _ q _ => q) (fun a z => .inl (w a z)) rfl⟩, z.st⟩, mv0⟩
theorem EnvO.tmp (x : EnvO K g O H σ env S) {p : Addr} (m : ∀ a o, H a = some o → H' a = some o) (hp : H p = none) (o : Own K (fun a => fra g O a ∨ a = p) H' p d) : EnvOk K g H' σ env ((.ref p, .tmp d) :: S) := by
  obtain ⟨O', y, _⟩ := x.tmpX m hp o
  exact ⟨O', y⟩
/-- a result comes in the place of its operands -/
theorem EnvO.res {T : List (V × Opd)} {res : Opd} {Q : VK} (x : EnvO K g O H σ env (T ++ S)) (k : ∀ v H', EnvOk K g H' σ env ((v, res) :: S) → Q v H') (hs : ∀ i, res ≠ .slot i := by intro i q; cases q) : resQ K (fra g O) H res Q := by
  have y := x.drop
  cases res with
  | val d => exact fun v H' m r => k v H' ⟨O, (y.move m).push r⟩
  | tmp d => exact fun p H' m hp o => k _ H' (y.tmp m hp o)
  | slot i => exact absurd rfl (hs i)
theorem resQ.imp {res : Opd} {Q Q' : VK} (h : resQ K A H res Q) (w : ∀ v H', Q v H' → Q' v H') : resQ K A H res Q' := by
  cases res with
  | val d => exact fun v H' m r => w _ _ (h v H' m r)
  | tmp d => exact fun p H' m hp o => w _ _ (h p H' m hp o)
  | slot i => exact h
theorem resQ.same {Q : VK} (h : resQ K A H (.val d) Q) (r : Rep K A H v d) : Q v H := h v H (fun _ _ q => q) r
end

/-! ### operations by their mirrors -/
abbrev O2 := D → D → Option Opd
abbrev O1 := D → Option Opd
abbrev ON := List D → Option Opd
def NoSlot : Option Opd → Prop
  | some (.slot _) => False
  | _ => True
section
variable (X : Cx)
structure OpD (f : Value → Value → Sem Value) (g : O2) : Prop where
  ex : ∃ r : R2, OpR X f r ∧ ∀ A H x y d1 d2 res Q, PRep X.K A H x d1 → PRep X.K A H y d2 → g d1 d2 = some res → resQ X.K A H res Q → r x y H Q
structure UnD (f : Value → Sem Value) (g : O1) : Prop where
  ex : ∃ r : V → Hp → VK → Prop, UnR X f r ∧ ∀ A H x d1 res Q, PRep X.K A H x d1 → g d1 = some res → resQ X.K A H res Q → r x H Q
structure IxD (g : O2) : Prop where
  ex : ∃ r : R2, IxR X r ∧ ∀ A H x y d1 d2 res Q, PRep X.K A H x d1 → PRep X.K A H y d2 → g d1 d2 = some res → resQ X.K A H res Q → r x y H Q
inductive PRepL (K : PySem.W.Frag) (A : Addr → Prop) (H : Hp) : List V → List D → Prop
  | nil : PRepL K A H [] []
  | cons {v : V} {d : D} {vs : List V} {ds : List D} : PRep K A H v d → PRepL K A H vs ds → PRepL K A H (v :: vs) (d :: ds)
structure CallD (f : Value) (g : ON) : Prop where
  ex : ∃ r : List V → Hp → VK → Prop, CallR X f r ∧ ∀ A H vs ds res Q, PRepL X.K A H vs ds → g ds = some res → resQ X.K A H res Q → r vs H Q
end
theorem OpD.or {X : Cx} {f : Value → Value → Sem Value} {g1 g2 g : O2} (h1 : OpD X f g1) (h2 : OpD X f g2) (h : ∀ a b r, g a b = some r → g1 a b = some r ∨ g2 a b = some r) : OpD X f g := by
  obtain ⟨r1, a1, b1⟩ := h1.ex
  obtain ⟨r2, a2, b2⟩ := h2.ex
  refine ⟨fun x y H Q => r1 x y H Q ∨ r2 x y H Q, fun pins s σ H x y v u Q I rx ry z => ?_, fun A H x y d1 d2 res Q p1 p2 e q => ?_⟩
  · rcases z with z | z
    · exact a1 pins s σ H x y v u Q I rx ry z
    · exact a2 pins s σ H x y v u Q I rx ry z
  · rcases h _ _ _ e with e | e
    · exact .inl (b1 A H x y d1 d2 res Q p1 p2 e q)
    · exact .inr (b2 A H x y d1 d2 res Q p1 p2 e q)
theorem IxD.or {X : Cx} {g1 g2 g : O2} (h1 : IxD X g1) (h2 : IxD X g2) (h : ∀ a b r, g a b = some r → g1 a b = some r ∨ g2 a b = some r) : IxD X g := by
  obtain ⟨r1, a1, b1⟩ := h1.ex
  obtain ⟨r2, a2, b2⟩ := h2.ex
  refine ⟨fun x y H Q => r1 x y H Q ∨ r2 x y H Q, fun va sl pins s σ H x y v u Q I rx ry z => ?_, fun A H x y d1 d2 res Q p1 p2 e q => ?_⟩
  · rcases z with z | z
    · exact a1 va sl pins s σ H x y v u Q I rx ry z
    · exact a2 va sl pins s σ H x y v u Q I rx ry z
  · rcases h _ _ _ e with e | e
    · exact .inl (b1 A H x y d1 d2 res Q p1 p2 e q)
    · exact .inr (b2 A H x y d1 d2 res Q p1 p2 e q)
theorem CallD.or {X : Cx} {f : Value} {g1 g2 g : ON} (h1 : CallD X f g1) (h2 : CallD X f g2) (h : ∀ a r, g a = some r → g1 a = some r ∨ g2 a = some r) : CallD X f g := by
  obtain ⟨r1, a1, b1⟩ := h1.ex
  obtain ⟨r2, a2, b2⟩ := h2.ex
  refine ⟨fun x H Q => r1 x H Q ∨ r2 x H Q, fun pins s σ H x v Q I rx z => ?_, fun A H x d1 res Q p1 e q => ?_⟩
  · rcases z with z | z
    · exact a1 pins s σ H x v Q I rx z
    · exact a2 pins s σ H x v Q I rx z
  · rcases h _ _ e with e | e
    · exact .inl (b1 A H x d1 res Q p1 e q)
    · exact .inr (b2 A H x d1 res Q p1 e q)

/-! ### the combinators -/
def xC (d : D) : M Opd := fun env => .ok (.val d) env
def xVar (i : Nat) : M Opd := fun env => match env[i]? with
  | some (.fz d) => .ok (.val d) env
  | some (.ow _) => .ok (.slot i) env
  | some (.io _) => .ok (.slot i) env
  | _ => .bad
/-- an operation of two values -/
def x2 (f : O2) (a b : M Opd) : M Opd := a.bind fun r1 => b.bind fun r2 => fun env => match peek r1 env, peek r2 env with
  | some d1, some d2 => match f d1 d2 with
    | some (.val d) => .ok (.val d) env
    | some (.tmp d) => .ok (.tmp d) env
    | _ => .bad
  | _, _ => .bad
def x1 (f : O1) (a : M Opd) : M Opd := a.bind fun r1 => fun env => match peek r1 env with
  | some d1 => match f d1 with
    | some (.val d) => .ok (.val d) env
    | some (.tmp d) => .ok (.tmp d) env
    | _ => .bad
  | _ => .bad
def peeks : List Opd → Ev → Option (List D)
  | [], _ => some []
  | r :: rs, env => match peek r env, peeks rs env with
    | some d, some ds => some (d :: ds)
    | _, _ => none
/-- a call of a built-in function by values -/
def xN (f : ON) (a : M (List Opd)) : M Opd := a.bind fun rs => fun env => match peeks rs env with
  | some ds => match f ds with
    | some (.val d) => .ok (.val d) env
    | some (.tmp d) => .ok (.tmp d) env
    | _ => .bad
  | _ => .bad
def aNil : M (List Opd) := fun env => .ok [] env
def aCons (a : M Opd) (b : M (List Opd)) : M (List Opd) := a.bind fun r => b.bind fun rs => fun env => .ok (r :: rs) env

section
variable {X : Cx} {W : WX} {a b : Expr} {es : List Expr} {fa fb : M Opd} {fs : M (List Opd)} {pos : Pos}
abbrev DE (X : Cx) (W : WX) (e : Expr) (f : M Opd) : Prop := PE X e (tD X.K X.mg W f)
abbrev DT (X : Cx) (W : WX) (e : Expr) (f : M Bool) : Prop := PT X e (tT X.K X.mg W f)
abbrev DA (X : Cx) (W : WX) (es : List Expr) (f : M (List Opd)) : Prop := PA X es (tDs X.K X.mg W f)
abbrev DS (X : Cx) (W : WX) (s : Stmt) (f : MS) : Prop := PS X s (tS X.K X.mg W f)
abbrev DSs (X : Cx) (W : WX) (s : List Stmt) (f : MS) : Prop := PSs X s (tS X.K X.mg W f)
theorem de_c {d : D} {v : V} (h : PE X a (tC v)) (r : ∀ A H, Rep X.K A H v d) : DE X W a (xC d) := PE.of h fun σ H Q q => by
  obtain ⟨g, S, env, ⟨O, x⟩, k⟩ := q
  exact k v H ⟨O, x.push (r _ _)⟩
theorem de_int {i : Int} {j} : DE X W (.Constant (.int i) j pos) (xC (.int i)) := de_c pe_int fun _ _ => .int i
theorem de_bl {i : Bool} {j} : DE X W (.Constant (.bool i) j pos) (xC (.bl i)) := de_c pe_bl fun _ _ => .bl i
theorem de_non {j} : DE X W (.Constant .none j pos) (xC .non) := de_c pe_non fun _ _ => .non
theorem de_str {i : Str} {j} : DE X W (.Constant (.str i) j pos) (xC (.str i)) := de_c pe_str fun _ _ => .str i
theorem de_var (i : Nat) (h : PE X a (tVar i)) : DE X W a (xVar i) := PE.of h fun σ H Q q => by
  obtain ⟨g, S, env, ⟨O, x⟩, k⟩ := q
  unfold xVar at k
  cases e : env[i]? with
  | none => simp only [e] at k
  | some s =>
    have hs := x.sl i s e
    cases s with
    | no => simp only [e] at k
    | fz d =>
      simp only [e] at k
      obtain ⟨v, h1, h2⟩ := hs
      exact ⟨v, h1, k v H ⟨O, x.push h2⟩⟩
    | ow d =>
      simp only [e] at k
      obtain ⟨p, h1, h2⟩ := hs
      exact ⟨_, h1, k _ H ⟨O, x.len, x.keep, x.trk, x.own, x.sl, h1, x.st⟩⟩
    | io d =>
      simp only [e] at k
      obtain ⟨p, h1, h2⟩ := hs
      exact ⟨_, h1, k _ H ⟨O, x.len, x.keep, x.trk, x.own, x.sl, h1, x.st⟩⟩
/-- two expressions, one after the other -/
theorem t_two {α : Type} {k : V → V → Hp → Prop} {σ : L2.St} {H : Hp} {rest : Opd → Opd → M α} {g : Gx} {S : List (V × Opd)} {env : Ev} {P : R α → Prop} (x : EnvOk X.K g H σ env S)
    (hex : ∀ c e, P (.ex c e) → ∀ C H', X.mg c = some (Value.ref C) → EnvOk X.K g H' σ e S → W (.ref C) none σ H') (hbad : ¬ P .bad) (h : P ((fa.bind fun r1 => fb.bind fun r2 => rest r1 r2) env))
    (hk : ∀ r1 r2 e v1 v2 H', EnvOk X.K g H' σ e ((v2, r2) :: (v1, r1) :: S) → P (rest r1 r2 e) → k v1 v2 H') :
    tD X.K X.mg W fa σ H fun v1 H1 => tD X.K X.mg W fb σ H1 fun v2 H2 => k v1 v2 H2 := by
  refine ⟨g, S, env, x, ?_⟩
  unfold M.bind at h
  cases e1 : fa env with
  | bad => rw [e1] at h; exact hbad h
  | ex c e => rw [e1] at h; exact hex c e h
  | ok r1 en1 =>
    rw [e1] at h
    dsimp only at h
    intro v1 H1 x1
    refine ⟨g, _, en1, x1, ?_⟩
    cases e2 : fb en1 with
    | bad => rw [e2] at h; exact hbad h
    | ex c e =>
      rw [e2] at h
      exact fun C H' hc y => hex c e h C H' hc (by obtain ⟨O, y⟩ := y; exact ⟨O, y.drop (T := [_])⟩)
    | ok r2 en2 =>
      rw [e2] at h
      exact fun v2 H2 x2 => hk r1 r2 en2 v1 v2 H2 x2 h
/-- what a tD asks of a result -/
def askE (K : PySem.W.Frag) (mg : Str → Option Value) (W : WX) (g : Gx) (S : List (V × Opd)) (σ : L2.St) (Q : VK) : R Opd → Prop
  | .ok r e => ∀ v H', EnvOk K g H' σ e ((v, r) :: S) → Q v H'
  | .ex c e => ∀ C H', mg c = some (Value.ref C) → EnvOk K g H' σ e S → W (.ref C) none σ H'
  | .bad => False
theorem tD_ask {K : PySem.W.Frag} {mg : Str → Option Value} {f : M Opd} {σ : L2.St} {H : Hp} {Q : VK} : tD K mg W f σ H Q ↔ ∃ g S env, EnvOk K g H σ env S ∧ askE K mg W g S σ Q (f env) := by
  constructor
  · rintro ⟨g, S, env, x, k⟩
    refine ⟨g, S, env, x, ?_⟩
    generalize f env = r at k
    cases r <;> exact k
  · rintro ⟨g, S, env, x, k⟩
    refine ⟨g, S, env, x, ?_⟩
    generalize f env = r at k
    cases r <;> exact k
theorem x2_ok {K : PySem.W.Frag} {mg : Str → Option Value} {r : R2} {f : O2} (hr : ∀ A H x y d1 d2 res Q, PRep K A H x d1 → PRep K A H y d2 → f d1 d2 = some res → resQ K A H res Q → r x y H Q) {g : Gx} {S : List (V × Opd)} {σ : L2.St} {Q : VK} {r1 r2 : Opd} {e : Ev} {v1 v2 : V} {H : Hp}
    (x : EnvOk K g H σ e ((v2, r2) :: (v1, r1) :: S)) (h : askE K mg W g S σ Q (match peek r1 e, peek r2 e with
      | some d1, some d2 => match f d1 d2 with
        | some (.val d) => .ok (.val d) e
        | some (.tmp d) => .ok (.tmp d) e
        | _ => .bad
      | _, _ => .bad)) : r v1 v2 H Q := by
  obtain ⟨O, x⟩ := x
  cases p1 : peek r1 e with
  | none => simp only [p1] at h; exact h.elim
  | some d1 =>
    cases p2 : peek r2 e with
    | none => simp only [p1, p2] at h; exact h.elim
    | some d2 =>
      simp only [p1, p2] at h
      have q1 := x.peek (List.mem_cons_of_mem _ List.mem_cons_self) p1
      have q2 := x.peek List.mem_cons_self p2
      cases ef : f d1 d2 with
      | none => simp only [ef] at h; exact h.elim
      | some res =>
        simp only [ef] at h
        cases res with
        | val d => exact hr _ _ _ _ _ _ _ _ q1 q2 ef (x.res (T := [_, _]) h)
        | tmp d => exact hr _ _ _ _ _ _ _ _ q1 q2 ef (x.res (T := [_, _]) h)
        | slot i => exact h.elim
theorem de_op {op : Operator} {f : O2} (ho : OpD X (binaryOp op) f) (ha : DE X W a fa) (hb : DE X W b fb) : DE X W (.BinOp a op b pos) (x2 f fa fb) := by
  obtain ⟨r, h1, h2⟩ := ho.ex
  refine PE.of (pe_op h1 ha hb) fun σ H Q q => ?_
  obtain ⟨g, S, env, x, k⟩ := tD_ask.mp q
  exact t_two x (fun c e z => z) (fun z => z) k fun r1 r2 e v1 v2 H' y z => x2_ok h2 y z
theorem de_cmp {op : CmpOp} {f : O2} (ho : OpD X (compareOp op) f) (ha : DE X W a fa) (hb : DE X W b fb) (hm : behindInMarks op b = false) : DE X W (.Compare a [op] [b] pos) (x2 f fa fb) := by
  obtain ⟨r, h1, h2⟩ := ho.ex
  refine PE.of (pe_cmpR h1 ha hb hm) fun σ H Q q => ?_
  obtain ⟨g, S, env, x, k⟩ := tD_ask.mp q
  exact t_two x (fun c e z => z) (fun z => z) k fun r1 r2 e v1 v2 H' y z => x2_ok h2 y z
theorem de_ix {f : O2} (ho : IxD X f) (ha : DE X W a fa) (hb : DE X W b fb) (hs : PlainIx b) : DE X W (.Subscript a b pos) (x2 f fa fb) := by
  obtain ⟨r, h1, h2⟩ := ho.ex
  refine PE.of (pe_ix h1 ha hb hs) fun σ H Q q => ?_
  obtain ⟨g, S, env, x, k⟩ := tD_ask.mp q
  exact t_two x (fun c e z => z) (fun z => z) k fun r1 r2 e v1 v2 H' y z => x2_ok h2 y z
end
end DL

/-! DL5: operations on plain data. -/
namespace DL
open PySem PySem.Spec PyProof.Rows L2

/-! ### numbers -/
/-- small numbers: a condition that stays small where the number is open -/
def fit62 (i : Int) : Bool := Nat.blt i.natAbs.log2 62
theorem fit62_of {i : Int} (h : fit62 i = true) : -(2 ^ 62) ≤ i ∧ i < 2 ^ 62 := by
  unfold fit62 at h
  have h := Nat.blt_eq.mp h
  by_cases e : i.natAbs = 0
  · omega
  · have := (Nat.log2_lt e).mp h
    omega
theorem fit62_mk {i : Int} (h : i.natAbs < 2 ^ 62) : fit62 i = true := by
  refine Nat.blt_eq.mpr ?_
  by_cases e : i.natAbs = 0
  · rw [e]; decide
  · exact (Nat.log2_lt e).mpr h
def oI (f : Int → Int → D) : O2
  | .int i, .int j => some (.val (f i j))
  | _, _ => none
def oIc (c : Int → Int → Bool) (f : Int → Int → D) : O2
  | .int i, .int j => if c i j = true then some (.val (f i j)) else none
  | _, _ => none
theorem prep_int {K : PySem.W.Frag} {A : Addr → Prop} {H : Hp} {v : V} {i : Int} (h : PRep K A H v (.int i)) : v = .int i := by
  have h' : Rep K A H v (.int i) := h
  cases h'
  rfl
theorem prep_str {K : PySem.W.Frag} {A : Addr → Prop} {H : Hp} {v : V} {i : Str} (h : PRep K A H v (.str i)) : v = .str i := by
  have h' : Rep K A H v (.str i) := h
  cases h'
  rfl
theorem prep_bl {K : PySem.W.Frag} {A : Addr → Prop} {H : Hp} {v : V} {i : Bool} (h : PRep K A H v (.bl i)) : v = .bl i := by
  have h' : Rep K A H v (.bl i) := h
  cases h'
  rfl
theorem prep_non {K : PySem.W.Frag} {A : Addr → Prop} {H : Hp} {v : V} (h : PRep K A H v .non) : v = .non := by
  have h' : Rep K A H v .non := h
  cases h'
  rfl
section
variable {X : Cx}
theorem opI_d {f : Value → Value → Sem Value} {g : Int → Int → V} {gd : Int → Int → D} (h : OpR X f (rI0 g)) (hg : ∀ A H i j, Rep X.K A H (g i j) (gd i j)) : OpD X f (oI gd) := by
  refine ⟨_, h, fun A H x y d1 d2 res Q p1 p2 e q => ?_⟩
  cases d1 <;> cases d2 <;> try (cases e; done)
  rename_i i j
  obtain rfl := prep_int p1
  obtain rfl := prep_int p2
  obtain rfl := Option.some.inj e
  exact ⟨i, j, rfl, rfl, q.same (hg _ _ i j)⟩
theorem opIc_d {f : Value → Value → Sem Value} {C : Int → Int → Prop} {c : Int → Int → Bool} {g : Int → Int → V} {gd : Int → Int → D} (h : OpR X f (rI C g)) (hc : ∀ i j, c i j = true → C i j) (hg : ∀ A H i j, Rep X.K A H (g i j) (gd i j)) : OpD X f (oIc c gd) := by
  refine ⟨_, h, fun A H x y d1 d2 res Q p1 p2 e q => ?_⟩
  cases d1 <;> cases d2 <;> try (cases e; done)
  rename_i i j
  obtain rfl := prep_int p1
  obtain rfl := prep_int p2
  have e' : (if c i j = true then some (Opd.val (gd i j)) else none) = some res := e
  by_cases hc' : c i j = true
  · rw [if_pos hc'] at e'
    obtain rfl := Option.some.inj e'
    exact ⟨i, j, rfl, rfl, hc i j hc', q.same (hg _ _ i j)⟩
  · rw [if_neg hc'] at e'
    cases e'
def oAddI : O2 := oI fun i j => .int (i + j)
def oSub : O2 := oI fun i j => .int (i - j)
def cMul (i j : Int) : Bool := decide (i.natAbs.log2 + j.natAbs.log2 < 1000000)
def oMulI : O2 := oIc cMul fun i j => .int (i * j)
def cMod (_ j : Int) : Bool := decide (0 < j)
def oMod : O2 := oIc cMod fun i j => .int (i % j)
def cDiv (_ j : Int) : Bool := decide (0 < j ∧ j.natAbs.log2 < 9000)
def oDiv : O2 := oIc cDiv fun i j => .int (i / j)
def cPow (i j : Int) : Bool := decide (0 ≤ j ∧ (i.natAbs.log2 + 1) * j.toNat ≤ 1000000)
def oPow : O2 := oIc cPow fun i j => .int (i ^ j.toNat)
theorem oAddI_d : OpD X (binaryOp .Add) oAddI := opI_d op_add fun _ _ _ _ => .int _
theorem oSub_d : OpD X (binaryOp .Sub) oSub := opI_d op_sub fun _ _ _ _ => .int _
theorem oMulI_d : OpD X (binaryOp .Mult) oMulI := opIc_d op_mulW (fun i j h => (of_decide_eq_true h : i.natAbs.log2 + j.natAbs.log2 < 1000000)) fun _ _ _ _ => .int _
theorem oMod_d : OpD X (binaryOp .Mod) oMod := opIc_d op_mod (fun i j h => of_decide_eq_true h) fun _ _ _ _ => .int _
theorem oDiv_d : OpD X (binaryOp .FloorDiv) oDiv := opIc_d op_fdivW (fun i j h => (of_decide_eq_true h : 0 < j ∧ j.natAbs.log2 < 9000)) fun _ _ _ _ => .int _
theorem bits_le (i : Int) : Builtin.Int.intBits i ≤ i.natAbs.log2 + 1 := by
  unfold Builtin.Int.intBits
  split <;> omega
theorem op_powW : OpR X (binaryOp .Pow) (rI (fun i j => cPow i j = true) fun i j => .int (i ^ j.toNat)) := opI fun i j _ _ _ _ _ hc q => by
  have hc' : cPow i j = true := hc
  unfold cPow at hc'
  obtain ⟨h1, h2⟩ := of_decide_eq_true hc'
  refine pow_int h1 ?_ q
  have h3 := Nat.mul_le_mul_right j.toNat (bits_le i)
  have e : ((Builtin.Int.intBits i * j.toNat : Nat) : Int) = (Builtin.Int.intBits i : Int) * j := by
    rw [Int.natCast_mul, Int.toNat_of_nonneg h1]
  have h4 : Builtin.Int.intBits i * j.toNat ≤ 1000000 := Nat.le_trans h3 h2
  rw [← e]
  refine Int.le_trans (Int.ofNat_le.mpr h4) ?_
  decide +kernel
theorem oPow_d : OpD X (binaryOp .Pow) oPow := opIc_d op_powW (fun i j h => h) fun _ _ _ _ => .int _
def oLt : O2 := oI fun i j => .bl (decide (i < j))
def oLe : O2 := oI fun i j => .bl (decide (i ≤ j))
def oGt : O2 := oI fun i j => .bl (decide (j < i))
def oGe : O2 := oI fun i j => .bl (decide (j ≤ i))
theorem oLt_d : OpD X (compareOp .Lt) oLt := opI_d op_lt fun _ _ _ _ => .bl _
theorem oLe_d : OpD X (compareOp .LtE) oLe := opI_d op_le fun _ _ _ _ => .bl _
theorem oGt_d : OpD X (compareOp .Gt) oGt := opI_d op_gt fun _ _ _ _ => .bl _
theorem oGe_d : OpD X (compareOp .GtE) oGe := opI_d op_ge fun _ _ _ _ => .bl _
end

/-! ### == of data -/
mutual
def toPy : D → PyData
  | .non => .none
  | .bl b => .bool b
  | .int i => .int i
  | .str x => .str x
  | .lst l => .list (toPyL l)
  | .tup l => .tuple (toPyL l)
  | .dct _ => .dict []
  | .scr l => .list (toPyL l)
def toPyL : List D → List PyData
  | [] => []
  | d :: ds => toPy d :: toPyL ds
end
mutual
theorem rep_dp {K : PySem.W.Frag} {A : Addr → Prop} {H : Hp} : ∀ {v : V} {d : D}, Rep K A H v d → (toPy d).canLay0 = true → Dp K H v (toPy d)
  | _, _, .non, _ => .non
  | _, _, .bl b, _ => .bl b
  | _, _, .int i, _ => .int i
  | _, _, .str x, _ => .str x
  | _, _, .lst h _ t, c => .lst (SqL.of h) (repL_dp t c)
  | _, _, .scr h t, c => .lst (by rcases h with h | h; exact .inl h.1; exact h.sq H) (repL_dp t c)
  | _, _, .tup h t, c => .tup (by rcases h with h | h; exact .inl h.1; exact h.sq H) (repL_dp t c)
  | _, _, .dct _ _ _, c => by cases c
theorem repL_dp {K : PySem.W.Frag} {A : Addr → Prop} {H : Hp} : ∀ {v : List V} {d : List D}, RepL K A H v d → PyData.canLayAll0 (toPyL d) = true → DpAll K H v (toPyL d)
  | _, _, .nil, _ => .nil
  | _, _, .cons h t, c => by
    have c' := Bool.and_eq_true_iff.mp (show (PyData.canLay0 _ && PyData.canLayAll0 _) = true from c)
    exact .cons (rep_dp h c'.1) (repL_dp t c'.2)
end
theorem prep_dp {K : PySem.W.Frag} {A : Addr → Prop} {H : Hp} {v : V} {d : D} (h : PRep K A H v d) (c : (toPy d).canLay0 = true) : Dp K H v (toPy d) := by
  cases d with
  | lst l => obtain ⟨a, vs, rfl, h1, h2⟩ := h; exact .lst (SqL.of h1) (repL_dp h2 c)
  | scr l => obtain ⟨a, vs, rfl, h1, h2⟩ := h; exact .lst h1 (repL_dp h2 c)
  | tup l => obtain ⟨a, vs, rfl, h1, h2⟩ := h; exact .tup h1 (repL_dp h2 c)
  | dct l => cases c
  | non => exact rep_dp (show Rep K A H v .non from h) c
  | bl b => exact rep_dp (show Rep K A H v (.bl b) from h) c
  | int b => exact rep_dp (show Rep K A H v (.int b) from h) c
  | str b => exact rep_dp (show Rep K A H v (.str b) from h) c
def shp (d : D) : Bool := SeqAt.shaped (toPy d)
def deq (a b : D) : Bool := PyData.eqv (toPy a) (toPy b)
def oEqT : O2 := fun a b => if (shp a && shp b) = true then some (.val (.bl (deq a b))) else none
def oNeT : O2 := fun a b => if (shp a && shp b) = true then some (.val (.bl (!deq a b))) else none
/-- == of two scalars -/
def sclD : D → D → Option Bool
  | .int i, .int j => some (i == j)
  | .bl i, .bl j => some (i == j)
  | .str i, .str j => some (i == j)
  | .non, .non => some true
  | .non, .int _ => some false
  | .int _, .non => some false
  | .non, .str _ => some false
  | .str _, .non => some false
  | .non, .bl _ => some false
  | .bl _, .non => some false
  | .int _, .str _ => some false
  | .str _, .int _ => some false
  | .bl _, .str _ => some false
  | .str _, .bl _ => some false
  | _, _ => none
def oEqS : O2 := fun a b => match sclD a b with
  | some r => some (.val (.bl r))
  | none => none
def oNeS : O2 := fun a b => match sclD a b with
  | some r => some (.val (.bl (!r)))
  | none => none
def oEq : O2 := fun a b => match sclD a b with
  | some r => some (.val (.bl r))
  | none => oEqT a b
def oNe : O2 := fun a b => match sclD a b with
  | some r => some (.val (.bl (!r)))
  | none => oNeT a b
theorem scl_scal {K : PySem.W.Frag} {A : Addr → Prop} {H : Hp} {x y : V} {d1 d2 : D} {r : Bool} (p1 : PRep K A H x d1) (p2 : PRep K A H y d2) (h : sclD d1 d2 = some r) : scal x y = true ∧ decide (x = y) = r := by
  cases d1 <;> cases d2 <;> try (cases h; done)
  all_goals
    first
    | obtain rfl := prep_int p1
    | obtain rfl := prep_str p1
    | obtain rfl := prep_bl p1
    | obtain rfl := prep_non p1
    first
    | obtain rfl := prep_int p2
    | obtain rfl := prep_str p2
    | obtain rfl := prep_bl p2
    | obtain rfl := prep_non p2
    obtain rfl := Option.some.inj h
    refine ⟨rfl, ?_⟩
    first
    | exact dec_int
    | exact dec_str
    | exact dec_bl
    | exact decide_eq_true rfl
    | exact decide_eq_false (fun z => by cases z)
section
variable {X : Cx}
theorem oEqT_d (hu : X.A.units + 64 < cLine) : OpD X (compareOp .Eq) oEqT := by
  refine ⟨_, op_eqD hu, fun A H x y d1 d2 res Q p1 p2 e q => ?_⟩
  unfold oEqT at e
  by_cases hc : (shp d1 && shp d2) = true
  · rw [if_pos hc] at e
    obtain rfl := Option.some.inj e
    obtain ⟨c1, c2⟩ := Bool.and_eq_true_iff.mp hc
    exact ⟨_, _, prep_dp p1 (SeqAt.canLay_of_shaped c1), prep_dp p2 (SeqAt.canLay_of_shaped c2), c1, c2, q.same (.bl _)⟩
  · rw [if_neg hc] at e
    cases e
theorem oNeT_d (hu : X.A.units + 64 < cLine) : OpD X (compareOp .NotEq) oNeT := by
  refine ⟨_, op_neD hu, fun A H x y d1 d2 res Q p1 p2 e q => ?_⟩
  unfold oNeT at e
  by_cases hc : (shp d1 && shp d2) = true
  · rw [if_pos hc] at e
    obtain rfl := Option.some.inj e
    obtain ⟨c1, c2⟩ := Bool.and_eq_true_iff.mp hc
    exact ⟨_, _, prep_dp p1 (SeqAt.canLay_of_shaped c1), prep_dp p2 (SeqAt.canLay_of_shaped c2), c1, c2, q.same (.bl _)⟩
  · rw [if_neg hc] at e
    cases e
theorem oEqS_d : OpD X (compareOp .Eq) oEqS := by
  refine ⟨_, op_eq, fun A H x y d1 d2 res Q p1 p2 e q => ?_⟩
  unfold oEqS at e
  cases c : sclD d1 d2 with
  | none => rw [c] at e; cases e
  | some r =>
    rw [c] at e
    obtain rfl := Option.some.inj e
    obtain ⟨h1, rfl⟩ := scl_scal p1 p2 c
    exact ⟨h1, q.same (.bl _)⟩
theorem oNeS_d : OpD X (compareOp .NotEq) oNeS := by
  refine ⟨_, op_ne, fun A H x y d1 d2 res Q p1 p2 e q => ?_⟩
  unfold oNeS at e
  cases c : sclD d1 d2 with
  | none => rw [c] at e; cases e
  | some r =>
    rw [c] at e
    obtain rfl := Option.some.inj e
    obtain ⟨h1, rfl⟩ := scl_scal p1 p2 c
    exact ⟨h1, q.same (.bl _)⟩
theorem oEq_d (hu : X.A.units + 64 < cLine) : OpD X (compareOp .Eq) oEq := oEqS_d.or (oEqT_d hu) fun a b r h => by
  unfold oEq at h
  unfold oEqS
  cases c : sclD a b with
  | none => rw [c] at h; exact .inr h
  | some r => rw [c] at h; exact .inl h
theorem oNe_d (hu : X.A.units + 64 < cLine) : OpD X (compareOp .NotEq) oNe := oNeS_d.or (oNeT_d hu) fun a b r h => by
  unfold oNe at h
  unfold oNeS
  cases c : sclD a b with
  | none => rw [c] at h; exact .inr h
  | some r => rw [c] at h; exact .inl h

/-! ### + and * of texts and lists -/
theorem rep_tmp {K : PySem.W.Frag} {A : Addr → Prop} {H : Hp} {Q : VK} {vs : List V} {ds : List D} (q : resQ K A H (.tmp (.lst ds)) Q) (r : RepL K A H vs ds) : ∀ p, H p = none → Q (.ref p) (upd H p (.lst vs)) := fun p hp =>
  q p _ (fun a o e => by rw [upd_ne (ne_of_none e hp)]; exact e) hp ⟨vs, upd_same, r.move (fun a o e _ => by rw [upd_ne (ne_of_none e hp)]; exact e) fun a z => by
    rcases z with z | z
    · exact .inl z
    · exact .inr (z ▸ hp)⟩
theorem rep_tup {K : PySem.W.Frag} {A : Addr → Prop} {H : Hp} {Q : VK} {vs : List V} {ds : List D} (q : resQ K A H (.val (.tup ds)) Q) (r : RepL K A H vs ds) (w : ∀ a, A a → ∃ o, H a = some o) : ∀ p, H p = none → Q (.ref p) (upd H p (.tup vs)) := fun p hp =>
  q _ _ (fun a o e => by rw [upd_ne (ne_of_none e hp)]; exact e) (.tup (.inl ⟨.inl upd_same, fun z => by
    obtain ⟨o, e⟩ := w p z
    rw [hp] at e; cases e⟩) (r.move (fun a o e _ => by rw [upd_ne (ne_of_none e hp)]; exact e) fun a z => .inl z))
theorem RepL.append {K : PySem.W.Frag} {A : Addr → Prop} {H : Hp} : ∀ {vs us : List V} {ds es : List D}, RepL K A H vs ds → RepL K A H us es → RepL K A H (vs ++ us) (ds ++ es)
  | _, _, _, _, .nil, h => h
  | _, _, _, _, .cons a t, h => .cons a (RepL.append t h)
theorem RepL.len {K : PySem.W.Frag} {A : Addr → Prop} {H : Hp} : ∀ {vs : List V} {ds : List D}, RepL K A H vs ds → vs.length = ds.length
  | _, _, .nil => rfl
  | _, _, .cons _ t => congrArg (· + 1) (RepL.len t)
def oAddS : O2
  | .str x, .str y => if x.length + y.length ≤ sizeLine then some (.val (.str (x ++ y))) else none
  | _, _ => none
theorem oAddS_d : OpD X (binaryOp .Add) oAddS := by
  refine ⟨_, op_add_str, fun A H x y d1 d2 res Q p1 p2 e q => ?_⟩
  cases d1 <;> cases d2 <;> try (cases e; done)
  rename_i i j
  obtain rfl := prep_str p1
  obtain rfl := prep_str p2
  have e' : (if i.length + j.length ≤ sizeLine then some (Opd.val (D.str (i ++ j))) else none) = some res := e
  by_cases hc : i.length + j.length ≤ sizeLine
  · rw [if_pos hc] at e'
    obtain rfl := Option.some.inj e'
    exact ⟨i, j, rfl, rfl, hc, q.same (.str _)⟩
  · rw [if_neg hc] at e'; cases e'
def rCatS (K : PySem.W.Frag) : R2 := fun x y H Q => ∃ l b xs zs, x = .ref l ∧ y = .ref b ∧ SqL K H l xs ∧ SqL K H b zs ∧ xs.length + zs.length ≤ sizeLine ∧ ∀ p, H p = none → Q (.ref p) (upd H p (.lst (xs ++ zs)))
theorem op_catS : OpR X (binaryOp .Add) (rCatS X.K) := by
  intro pins s σ H x y v u Q I rx ry h
  obtain ⟨l, b, xs, zs, rfl, rfl, hl, hb, hz, q⟩ := h
  cases rx
  cases ry
  obtain ⟨i1, r1, ⟨⟨c1, d1, t1, sl1⟩, n1, g1, k1, k2, k3⟩, z1⟩ := I.list hl
  obtain ⟨i2, r2, ⟨⟨c2, d2, t2, sl2⟩, n2, g2, k4, k5, k6⟩, z2⟩ := I.list hb
  simp only at k1 k2 k3 k4 k5 k6
  subst k1 k2 k3 k4 k5 k6
  have hs : i1.toArray.size + i2.toArray.size ≤ sizeLine := by
    rw [List.size_toArray, List.size_toArray, ← r1.length, ← r2.length]
    exact hz
  refine concat_meets ⟨_, g1, rfl⟩ ⟨_, g2, rfl⟩ noFill_list_add seq_list_add PySem.F.slot_list_add PySem.F.entry_list_add (PySem.F.args_list_add_2 _ _) (list_addW l b i1.toArray i2.toArray n1 n2 none none sl1 sl2 hs) ⟨g1, g2, ?_⟩
  have ea : i1.toArray ++ i2.toArray = (i1 ++ i2).toArray := by simp
  rw [ea]
  exact ⟨.ref _, _, I.lnew (t' := s.toks) (r1.append r2) (by rw [List.length_append]; omega), rfl, q _ I.fresh⟩
def lsD : D → Option (List D)
  | .lst l => some l
  | .scr l => some l
  | _ => none
theorem prep_ls {K : PySem.W.Frag} {A : Addr → Prop} {H : Hp} {v : V} {d : D} {l : List D} (h : PRep K A H v d) (e : lsD d = some l) : ∃ a vs, v = .ref a ∧ SqL K H a vs ∧ RepL K A H vs l := by
  cases d <;> try (cases e; done)
  · obtain rfl := Option.some.inj e
    obtain ⟨a, vs, rfl, h1, h2⟩ := h
    exact ⟨a, vs, rfl, SqL.of h1, h2⟩
  · obtain rfl := Option.some.inj e
    exact h
def oAddL : O2 := fun a b => match lsD a, lsD b with
  | some x, some y => if x.length + y.length ≤ sizeLine then some (.tmp (.lst (x ++ y))) else none
  | _, _ => none
theorem oAddL_d : OpD X (binaryOp .Add) oAddL := by
  refine ⟨_, op_catS, fun A H x y d1 d2 res Q p1 p2 e q => ?_⟩
  unfold oAddL at e
  cases e1 : lsD d1 with
  | none => simp only [e1] at e; cases e
  | some i =>
    cases e2 : lsD d2 with
    | none => simp only [e1, e2] at e; cases e
    | some j =>
      simp only [e1, e2] at e
      obtain ⟨a, vs, rfl, a1, a2⟩ := prep_ls p1 e1
      obtain ⟨b, us, rfl, b1, b2⟩ := prep_ls p2 e2
      by_cases hc : i.length + j.length ≤ sizeLine
      · rw [if_pos hc] at e
        obtain rfl := Option.some.inj e
        exact ⟨a, b, vs, us, rfl, rfl, a1, b1, by rw [a2.len, b2.len]; exact hc, rep_tmp q (a2.append b2)⟩
      · rw [if_neg hc] at e; cases e
def oAdd : O2
  | .int i, .int j => some (.val (.int (i + j)))
  | .str x, .str y => if x.length + y.length ≤ sizeLine then some (.val (.str (x ++ y))) else none
  | .lst x, .lst y => if x.length + y.length ≤ sizeLine then some (.tmp (.lst (x ++ y))) else none
  | .scr x, .lst y => if x.length + y.length ≤ sizeLine then some (.tmp (.lst (x ++ y))) else none
  | _, _ => none
theorem oAdd_d : OpD X (binaryOp .Add) oAdd := (oAddI_d.or (oAddS_d.or oAddL_d (g := fun a b => (oAddS a b).orElse fun _ => oAddL a b) fun a b r h => by
    cases q : oAddS a b with
    | some r' => rw [q] at h; exact .inl h
    | none => rw [q] at h; exact .inr h)) fun a b r h => by
  cases a <;> cases b <;> try (exact .inl h)
  all_goals try (cases h; done)
  · refine .inr ?_
    rename_i x y
    have h' : oAddS (.str x) (.str y) = some r := h
    show Option.orElse (oAddS (.str x) (.str y)) _ = some r
    rw [h']
    rfl
  · exact .inr h
  · exact .inr h
end
end DL

/-! DL6: freezing, storing, displays, calls, statements. -/
namespace DL
open PySem PySem.Spec PyProof.Rows L2

/-! ### freezing, storing -/
/-- a value under way is frozen -/
def frz : Opd → Ev → Option (D × Ev)
  | .val d, e => some (d, e)
  | .tmp d, e => some (d, e)
  | .slot i, e => match e[i]? with
    | some (.fz d) => some (d, e)
    | some (.ow d) => some (d, e.set i (.fz d))
    | _ => none
def frzs : List Opd → Ev → Option (List D × Ev)
  | [], e => some ([], e)
  | r :: rs, e => match frzs rs e with
    | some (ds, e1) => match frz r e1 with
      | some (d, e2) => some (d :: ds, e2)
      | none => none
    | none => none
/-- it comes to a slot -/
def stoV (r : Opd) (i : Nat) (e : Ev) : Option Ev := match r with
  | .tmp d => some (e.set i (.ow d))
  | .val d => some (e.set i (.fz d))
  | .slot j => match frz (.slot j) e with
    | some (d, e1) => some (e1.set i (.fz d))
    | none => none
def sto (r : Opd) (i : Nat) (e : Ev) : Option Ev := match e[i]? with
  | none => none
  | some (.io _) => none
  | some _ => stoV r i e
section
variable {K : PySem.W.Frag} {g : Gx} {O O' : Addr → Option Role} {H H' : Hp} {σ σ' : L2.St} {env env' : Ev} {S : List (V × Opd)} {v : V} {d : D} {p : Addr} {r : Opd}
/-- roles by a list of what stays -/
theorem EnvO.less (x : EnvO K g O H σ env S) (p : Addr) (hs : ∀ i s, env'[i]? = some s → SlOk K g (setO O p none) H σ i s) (hl : env'.length = env.length)
    (ht : ∀ q k, O q = some (.t k) → k < S.length → q ≠ p) : EnvO K g (setO O p none) H σ env' S := by
  have w : ∀ a, fra g (setO O p none) a → fra g O a := fun a z => by
    rcases z with z | ⟨r, z⟩
    · exact .inl z
    · by_cases e : a = p
      · subst e; rw [setO_same] at z; cases z
      · rw [setO_ne e] at z; exact .inr ⟨r, z⟩
  refine ⟨x.len.trans hl.symm, x.keep, x.trk, fun a r q => ?_, hs, ?_⟩
  · by_cases e : a = p
    · subst e; rw [setO_same] at q; cases q
    · rw [setO_ne e] at q; exact x.own a r q
  · have st := x.st
    clear x hs
    induction S with
    | nil => trivial
    | cons e S ih =>
      obtain ⟨v, e⟩ := e
      have ht' : ∀ q k, O q = some (.t k) → k < S.length → q ≠ p := fun q k a b => ht q k a (Nat.lt_succ_of_lt b)
      cases e with
      | val d => exact ⟨st.1.move (fun _ _ q _ => q) fun a z => .inl (w a z), ih ht' st.2⟩
      | tmp d =>
        obtain ⟨⟨q, h1, h2, h3, h4⟩, t⟩ := st
        exact ⟨⟨q, h1, by rw [setO_ne (ht _ _ h2 (Nat.lt_succ_self _))]; exact h2, h3, h4.move (fun _ _ q _ => q) (fun a z => .inl (w a z)) rfl⟩, ih ht' t⟩
      | slot i => exact ⟨st.1, ih ht' st.2⟩
theorem less_sub {a : Addr} (z : fra g (setO O p none) a) : fra g O a := by
  rcases z with z | ⟨r, z⟩
  · exact .inl z
  · by_cases e : a = p
    · subst e; rw [setO_same] at z; cases z
    · rw [setO_ne e] at z; exact .inr ⟨r, z⟩
theorem less_out (h : ¬ g.A0 p) : ¬ fra g (setO O p none) p := fun z => by
  rcases z with z | ⟨r, z⟩
  · exact h z
  · rw [setO_same] at z; cases z
theorem Gx.notA (h : g.H0 p = none) : ¬ g.A0 p := fun z => by
  obtain ⟨o, e⟩ := g.a0 p z
  rw [h] at e; cases e
/-- slots of other roles stay -/
theorem SlOk.less {i : Nat} {s : Sl} (h : SlOk K g O H σ i s) (hp : ∀ q, O q = some (.s i) → q ≠ p) : SlOk K g (setO O p none) H σ i s := by
  cases s with
  | no => trivial
  | fz d => obtain ⟨v, h1, h2⟩ := h; exact ⟨v, h1, h2.move (fun _ _ q _ => q) fun a z => .inl (less_sub z)⟩
  | ow d => obtain ⟨q, h1, h2, h3, h4⟩ := h; exact ⟨q, h1, by rw [setO_ne (hp q h2)]; exact h2, h3, h4.move (fun _ _ q _ => q) (fun a z => .inl (less_sub z)) rfl⟩
  | io d => obtain ⟨q, h1, h2, h3, h4⟩ := h; exact ⟨q, h1, by rw [setO_ne (hp q h2)]; exact h2, h3, h4.move (fun _ _ q _ => q) (fun a z => .inl (less_sub z)) rfl⟩
theorem get_set {α : Type} {l : List α} {i j : Nat} {a s : α} (h : (l.set i a)[j]? = some s) : (i = j ∧ a = s ∧ i < l.length) ∨ (i ≠ j ∧ l[j]? = some s) := by
  by_cases e : i = j
  · subst e
    by_cases q : i < l.length
    · rw [List.getElem?_set_self q] at h
      exact .inl ⟨rfl, Option.some.inj h, q⟩
    · rw [List.getElem?_eq_none (by rw [List.length_set]; omega)] at h
      cases h
  · rw [List.getElem?_set_ne e] at h
    exact .inr ⟨e, h⟩
/-- an owned slot is frozen -/
theorem EnvO.freeze (x : EnvO K g O H σ env S) {i : Nat} (e : env[i]? = some (.ow d)) : ∃ O', EnvO K g O' H σ (env.set i (.fz d)) S ∧ ∀ a, fra g O' a → fra g O a := by
  obtain ⟨p, h1, h2, h3, h4⟩ := x.sl i _ e
  refine ⟨setO O p none, x.less p (fun j s q => ?_) (List.length_set ..) (fun q k a _ z => ?_), fun a z => less_sub z⟩
  · rcases get_set q with ⟨e1, e2, _⟩ | ⟨e1, e2⟩
    · subst e1 e2
      exact ⟨_, h1, h4.rep (fun a z => less_sub z) (less_out (Gx.notA h3))⟩
    · refine (x.sl j s e2).less fun q a z => ?_
      rw [z, h2] at a
      exact e1 (Role.s.inj (Option.some.inj a))
  · rw [z, h2] at a; cases a
/-- the uppermost value is frozen -/
theorem EnvO.frz (x : EnvO K g O H σ env ((v, r) :: S)) (h : DL.frz r env = some (d, env')) : ∃ O', EnvO K g O' H σ env' S ∧ Rep K (fra g O') H v d ∧ ∀ a, fra g O' a → fra g O a := by
  cases r with
  | val d' =>
    obtain ⟨rfl, rfl⟩ := Prod.mk.inj (Option.some.inj h)
    exact ⟨O, x.drop (T := [_]), x.st.1, fun _ z => z⟩
  | tmp d' =>
    obtain ⟨rfl, rfl⟩ := Prod.mk.inj (Option.some.inj h)
    obtain ⟨p, rfl, h2, h3, h4⟩ := x.st.1
    refine ⟨setO O p none, (x.drop (T := [_])).less p (fun j s q => (x.sl j s q).less fun q a z => ?_) rfl (fun q k a b z => ?_), h4.rep (fun a z => less_sub z) (less_out (Gx.notA h3)), fun a z => less_sub z⟩
    · rw [z, h2] at a; cases a
    · rw [z, h2] at a
      have := Role.t.inj (Option.some.inj a)
      omega
  | slot i =>
    have es := x.st.1
    have y := x.drop (T := [_])
    have h' : (match env[i]? with
      | some (.fz d) => some (d, env)
      | some (.ow d) => some (d, env.set i (.fz d))
      | _ => none) = some (d, env') := h
    cases e : env[i]? with
    | none => rw [e] at h'; cases h'
    | some s =>
      rw [e] at h'
      cases s with
      | no => cases h'
      | io d' => cases h'
      | fz d' =>
        obtain ⟨rfl, rfl⟩ := Prod.mk.inj (Option.some.inj h')
        obtain ⟨u, e1, e2⟩ := y.sl i _ e
        rw [es] at e1
        obtain rfl := Option.some.inj (Option.some.inj e1)
        exact ⟨O, y, e2, fun _ z => z⟩
      | ow d' =>
        obtain ⟨rfl, rfl⟩ := Prod.mk.inj (Option.some.inj h')
        obtain ⟨O', z, w⟩ := y.freeze e
        have hl : i < env.length := (List.getElem?_eq_some_iff.mp e).1
        obtain ⟨u, e1, e2⟩ := z.sl i (.fz d') (by rw [List.getElem?_set_self hl])
        rw [es] at e1
        obtain rfl := Option.some.inj (Option.some.inj e1)
        exact ⟨O', z, e2, w⟩
theorem RepL.less {A A' : Addr → Prop} {vs : List V} {ds : List D} (h : RepL K A H vs ds) (w : ∀ a, A' a → A a) : RepL K A' H vs ds := h.move (fun _ _ q _ => q) fun a z => .inl (w a z)
theorem EnvO.frzs : ∀ {vs : List V} {rs : List Opd} {S : List (V × Opd)} {O : Addr → Option Role} {ds : List D} {env' : Ev}, EnvO K g O H σ env (pushes vs rs S) → vs.length = rs.length → DL.frzs rs env = some (ds, env') →
    ∃ O', EnvO K g O' H σ env' S ∧ RepL K (fra g O') H vs ds ∧ ∀ a, fra g O' a → fra g O a
  | [], [], S, O, ds, env', x, _, h => by
    obtain ⟨rfl, rfl⟩ := Prod.mk.inj (Option.some.inj h)
    exact ⟨O, x, .nil, fun _ z => z⟩
  | v :: vs, r :: rs, S, O, ds, env', x, hl, h => by
    have h' : (match DL.frzs rs env with
      | some (ds, e1) => match DL.frz r e1 with
        | some (d, e2) => some (d :: ds, e2)
        | none => none
      | none => none) = some (ds, env') := h
    cases e : DL.frzs rs env with
    | none => rw [e] at h'; cases h'
    | some q =>
      obtain ⟨ds', e1⟩ := q
      rw [e] at h'
      have x' : EnvO K g O H σ env (pushes vs rs ((v, r) :: S)) := x
      obtain ⟨O1, y, r1, w1⟩ := EnvO.frzs x' (Nat.succ.inj hl) e
      dsimp only at h'
      cases e2 : DL.frz r e1 with
      | none => rw [e2] at h'; cases h'
      | some q2 =>
        obtain ⟨d, e3⟩ := q2
        rw [e2] at h'
        obtain ⟨rfl, rfl⟩ := Prod.mk.inj (Option.some.inj h')
        obtain ⟨O2, z, r2, w2⟩ := y.frz e2
        exact ⟨O2, z, .cons r2 (r1.less w2), fun a q => w1 a (w2 a q)⟩
  | [], _ :: _, _, _, _, _, _, hl, _ => by cases hl
  | _ :: _, [], _, _, _, _, _, hl, _ => by cases hl
theorem ns_st : ∀ {S : List (V × Opd)}, NS S → StOk K g O H σ S → StOk K g O H σ' S
  | [], _, _ => trivial
  | (v, .val d) :: S, hv, h => ⟨h.1, ns_st (fun e q => hv e (List.mem_cons_of_mem _ q)) h.2⟩
  | (v, .tmp d) :: S, hv, h => ⟨h.1, ns_st (fun e q => hv e (List.mem_cons_of_mem _ q)) h.2⟩
  | (v, .slot i) :: S, hv, h => absurd rfl (hv _ List.mem_cons_self i)
/-- a slot gets a frozen value (what it owned is nobody's) -/
theorem EnvO.setFz (x : EnvO K g O H σ env S) (hv : NS S) {i : Nat} {s : Sl} (e : env[i]? = some s) (hs : ∀ d, s ≠ .io d) (r : Rep K (fra g O) H v d) : EnvO K g O H (σ.set i (some v)) (env.set i (.fz d)) S := by
  have hi : i < env.length := (List.getElem?_eq_some_iff.mp e).1
  have hi' : i < σ.length := by rw [x.len]; exact hi
  refine ⟨by rw [List.length_set, List.length_set]; exact x.len, x.keep, x.trk, x.own, fun j t q => ?_, ns_st hv x.st⟩
  rcases get_set q with ⟨e1, e2, _⟩ | ⟨e1, e2⟩
  · subst e1 e2
    exact ⟨v, List.getElem?_set_self hi', r⟩
  · have q := x.sl j t e2
    cases t with
    | no => trivial
    | fz d => obtain ⟨v, h1, h2⟩ := q; exact ⟨v, by rw [List.getElem?_set_ne e1]; exact h1, h2⟩
    | ow d => obtain ⟨v, h1, h2⟩ := q; exact ⟨v, by rw [List.getElem?_set_ne e1]; exact h1, h2⟩
    | io d => obtain ⟨v, h1, h2⟩ := q; exact ⟨v, by rw [List.getElem?_set_ne e1]; exact h1, h2⟩
theorem EnvO.setOw (x : EnvO K g O H σ env ((.ref p, .tmp d) :: S)) (hv : NS S) {i : Nat} {s : Sl} (e : env[i]? = some s) (hs : ∀ d, s ≠ .io d) : ∃ O', EnvO K g O' H (σ.set i (some (.ref p))) (env.set i (.ow d)) S := by
  have hi : i < env.length := (List.getElem?_eq_some_iff.mp e).1
  have hi' : i < σ.length := by rw [x.len]; exact hi
  obtain ⟨q, e0, h2, h3, h4⟩ := x.st.1
  obtain rfl := V.ref.inj e0
  have w : ∀ a, fra g (setO O p (some (.s i))) a → fra g O a := fun a z => by
    rcases z with z | ⟨r, z⟩
    · exact .inl z
    · by_cases e : a = p
      · subst e; exact .inr ⟨_, h2⟩
      · rw [setO_ne e] at z; exact .inr ⟨r, z⟩
  have mo : ∀ {q : Addr} {d : D}, Own K (fra g O) H q d → Own K (fra g (setO O p (some (.s i)))) H q d := fun h => h.move (fun _ _ q _ => q) (fun a z => .inl (w a z)) rfl
  refine ⟨setO O p (some (.s i)), by rw [List.length_set, List.length_set]; exact x.len, x.keep, x.trk, fun a r q => ?_, fun j t q => ?_, ?_⟩
  · by_cases e : a = p
    · subst e; exact x.own _ _ h2
    · rw [setO_ne e] at q; exact x.own a r q
  · rcases get_set q with ⟨e1, e2, _⟩ | ⟨e1, e2⟩
    · subst e1 e2
      exact ⟨p, List.getElem?_set_self hi', setO_same, h3, mo h4⟩
    · have q := x.sl j t e2
      have ne : ∀ {b : Addr}, O b = some (.s j) → b ≠ p := fun {b} z1 z2 => by rw [z2, h2] at z1; cases z1
      cases t with
      | no => trivial
      | fz d => obtain ⟨v, h1, h2⟩ := q; exact ⟨v, by rw [List.getElem?_set_ne e1]; exact h1, h2.move (fun _ _ q _ => q) fun a z => .inl (w a z)⟩
      | ow d => obtain ⟨v, h1, h2, h3, h4⟩ := q; exact ⟨v, by rw [List.getElem?_set_ne e1]; exact h1, by rw [setO_ne (ne h2)]; exact h2, h3, mo h4⟩
      | io d => obtain ⟨v, h1, h2, h3, h4⟩ := q; exact ⟨v, by rw [List.getElem?_set_ne e1]; exact h1, by rw [setO_ne (ne h2)]; exact h2, h3, mo h4⟩
  · have st := x.st.2
    have go : ∀ {T : List (V × Opd)}, T.length ≤ S.length → NS T → StOk K g O H σ T → StOk K g (setO O p (some (.s i))) H (σ.set i (some (.ref p))) T := by
      intro T
      induction T with
      | nil => intro _ _ _; trivial
      | cons e T ih =>
        obtain ⟨v, e⟩ := e
        intro hl hv st
        have hv' : NS T := fun e q => hv e (List.mem_cons_of_mem _ q)
        cases e with
        | val d => exact ⟨st.1.move (fun _ _ q _ => q) fun a z => .inl (w a z), ih (Nat.le_of_lt hl) hv' st.2⟩
        | slot j => exact absurd rfl (hv _ List.mem_cons_self j)
        | tmp d =>
          obtain ⟨⟨q, a1, a2, a3, a4⟩, t⟩ := st
          refine ⟨⟨q, a1, ?_, a3, mo a4⟩, ih (Nat.le_of_lt hl) hv' t⟩
          rw [setO_ne (fun z => ?_)]
          · exact a2
          · rw [z, h2] at a2
            have := Role.t.inj (Option.some.inj a2)
            have hl' : T.length < S.length := hl
            omega
    exact go (Nat.le_refl _) hv st
theorem frz_at {i : Nat} {s : Sl} (e : env[i]? = some s) (hs : ∀ d, s ≠ .io d) (h : DL.frz r env = some (d, env')) : ∃ s', env'[i]? = some s' ∧ ∀ d, s' ≠ .io d := by
  cases r with
  | val d' => obtain ⟨rfl, rfl⟩ := Prod.mk.inj (Option.some.inj h); exact ⟨s, e, hs⟩
  | tmp d' => obtain ⟨rfl, rfl⟩ := Prod.mk.inj (Option.some.inj h); exact ⟨s, e, hs⟩
  | slot j =>
    have h' : (match env[j]? with
      | some (.fz d) => some (d, env)
      | some (.ow d) => some (d, env.set j (.fz d))
      | _ => none) = some (d, env') := h
    cases q : env[j]? with
    | none => rw [q] at h'; cases h'
    | some t =>
      rw [q] at h'
      cases t with
      | no => cases h'
      | io d' => cases h'
      | fz d' => obtain ⟨rfl, rfl⟩ := Prod.mk.inj (Option.some.inj h'); exact ⟨s, e, hs⟩
      | ow d' =>
        obtain ⟨rfl, rfl⟩ := Prod.mk.inj (Option.some.inj h')
        by_cases ij : j = i
        · subst ij
          exact ⟨.fz d', by rw [List.getElem?_set_self (List.getElem?_eq_some_iff.mp q).1], fun d z => by cases z⟩
        · exact ⟨s, by rw [List.getElem?_set_ne ij]; exact e, hs⟩
/-- the uppermost value comes to a slot -/
theorem EnvO.sto (x : EnvO K g O H σ env ((v, r) :: S)) (hv : NS S) {i : Nat} (h : DL.sto r i env = some env') : EnvOk K g H (σ.set i (some v)) env' S := by
  have go : ∀ s, env[i]? = some s → (∀ d, s ≠ .io d) → stoV r i env = some env' → EnvOk K g H (σ.set i (some v)) env' S := fun s e hs h => by
    have fz : (match DL.frz r env with
      | some (d, e1) => some (e1.set i (.fz d))
      | none => none) = some env' → EnvOk K g H (σ.set i (some v)) env' S := fun h => by
      cases q : DL.frz r env with
      | none => rw [q] at h; cases h
      | some t =>
        obtain ⟨d, e1⟩ := t
        rw [q] at h
        obtain rfl := Option.some.inj h
        obtain ⟨O', y, rp, _⟩ := x.frz q
        obtain ⟨s', f1, f2⟩ := frz_at e hs q
        exact ⟨O', y.setFz hv f1 f2 rp⟩
    cases r with
    | tmp d =>
      obtain rfl := Option.some.inj h
      obtain ⟨p, rfl, _⟩ := x.st.1
      exact x.setOw hv e hs
    | val d => exact fz h
    | slot j => exact fz h
  unfold DL.sto at h
  cases e : env[i]? with
  | none => rw [e] at h; cases h
  | some s =>
    rw [e] at h
    cases s with
    | io d => cases h
    | no => exact go _ e (fun d z => by cases z) h
    | fz d => exact go _ e (fun d z => by cases z) h
    | ow d => exact go _ e (fun d z => by cases z) h
end
end DL

/-! DL7: arguments, displays, tests, built-in calls, statements, loops. -/
namespace DL
open PySem PySem.Spec PyProof.Rows L2
section
variable {K : PySem.W.Frag} {mg : Str → Option Value} {W : WX} {g : Gx} {O : Addr → Option Role} {H : Hp} {σ : L2.St} {env : Ev} {S Z : List (V × Opd)} {v : V} {r : Opd}
/-- what lies under the uppermost is taken away -/
theorem EnvO.under (x : EnvO K g O H σ env ((v, r) :: (Z ++ S))) : EnvOk K g H σ env ((v, r) :: S) := by
  have y := x.drop (T := (v, r) :: Z) (S := S)
  cases r with
  | val d => exact ⟨O, y.push x.st.1⟩
  | slot i => exact ⟨O, y.len, y.keep, y.trk, y.own, y.sl, x.st.1, y.st⟩
  | tmp d =>
    obtain ⟨p, rfl, h2, h3, h4⟩ := x.st.1
    have w : ∀ a, fra g (setO O p (some (Role.t S.length))) a → fra g O a := fun a z => by
      rcases z with z | ⟨r, z⟩
      · exact .inl z
      · by_cases e : a = p
        · subst e; exact .inr ⟨_, h2⟩
        · rw [setO_ne e] at z; exact .inr ⟨r, z⟩
    have mo : ∀ {q : Addr} {d : D}, Own K (fra g O) H q d → Own K (fra g (setO O p (some (Role.t S.length)))) H q d := fun h => h.move (fun _ _ q _ => q) (fun a z => .inl (w a z)) rfl
    have mv : ∀ {v : V} {d : D}, Rep K (fra g O) H v d → Rep K (fra g (setO O p (some (Role.t S.length)))) H v d := fun h => h.move (fun _ _ q _ => q) fun a z => .inl (w a z)
    refine ⟨setO O p (some (Role.t S.length)), y.len, y.keep, y.trk, fun a r q => ?_, fun i s q => ?_, ⟨p, rfl, setO_same, h3, mo h4⟩, ?_⟩
    · by_cases e : a = p
      · subst e; exact x.own _ _ h2
      · rw [setO_ne e] at q; exact x.own a r q
    · have q := y.sl i s q
      have ne : ∀ {b : Addr}, O b = some (.s i) → b ≠ p := fun {b} z1 z2 => by rw [z2, h2] at z1; cases z1
      cases s with
      | no => trivial
      | fz d => obtain ⟨v, a1, a2⟩ := q; exact ⟨v, a1, mv a2⟩
      | ow d => obtain ⟨v, a1, a2, a3, a4⟩ := q; exact ⟨v, a1, by rw [setO_ne (ne a2)]; exact a2, a3, mo a4⟩
      | io d => obtain ⟨v, a1, a2, a3, a4⟩ := q; exact ⟨v, a1, by rw [setO_ne (ne a2)]; exact a2, a3, mo a4⟩
    · have st := y.st
      have go : ∀ {T : List (V × Opd)}, T.length ≤ (Z ++ S).length → StOk K g O H σ T → StOk K g (setO O p (some (Role.t S.length))) H σ T := by
        intro T
        induction T with
        | nil => intro _ _; trivial
        | cons e T ih =>
          obtain ⟨v, e⟩ := e
          intro hl st
          have hl' : T.length < (Z ++ S).length := hl
          cases e with
          | val d => exact ⟨mv st.1, ih (Nat.le_of_lt hl') st.2⟩
          | slot i => exact ⟨st.1, ih (Nat.le_of_lt hl') st.2⟩
          | tmp d =>
            obtain ⟨⟨q, a1, a2, a3, a4⟩, t⟩ := st
            refine ⟨⟨q, a1, ?_, a3, mo a4⟩, ih (Nat.le_of_lt hl') t⟩
            rw [setO_ne (fun z => ?_)]
            · exact a2
            · rw [z, h2] at a2
              have := Role.t.inj (Option.some.inj a2)
              omega
      exact go (by rw [List.length_append]; omega) st
/-- what a tS asks -/
def askS (K : PySem.W.Frag) (mg : Str → Option Value) (W : WX) (g : Gx) (S : List (V × Opd)) (D : Ends) : F → Prop
  | .nx e => ∀ σ' H', EnvOk K g H' σ' e S → D.nx σ' H'
  | .br e => ∀ σ' H', EnvOk K g H' σ' e S → D.bk σ' H'
  | .ct e => ∀ σ' H', EnvOk K g H' σ' e S → D.ct σ' H'
  | .rt r e => ∀ v σ' H', EnvOk K g H' σ' e ((v, r) :: S) → D.rt v H'
  | .ex c e => ∀ C σ' H', mg c = some (Value.ref C) → EnvOk K g H' σ' e S → W (.ref C) none σ' H'
  | .bad => False
theorem tS_ask {f : MS} {D : Ends} {H : Hp} : tS K mg W f D σ H ↔ ∃ g S env, VS S ∧ EnvOk K g H σ env S ∧ askS K mg W g S D (f env) := by
  constructor
  · rintro ⟨g, S, env, hv, x, k⟩
    refine ⟨g, S, env, hv, x, ?_⟩
    generalize f env = r at k
    cases r <;> exact k
  · rintro ⟨g, S, env, hv, x, k⟩
    refine ⟨g, S, env, hv, x, ?_⟩
    generalize f env = r at k
    cases r <;> exact k
/-- what a tT asks -/
def askT (K : PySem.W.Frag) (mg : Str → Option Value) (W : WX) (g : Gx) (S : List (V × Opd)) (σ : L2.St) (Q : Bool → Hp → Prop) : R Bool → Prop
  | .ok b e => ∀ H', EnvOk K g H' σ e S → Q b H'
  | .ex c e => ∀ C H', mg c = some (Value.ref C) → EnvOk K g H' σ e S → W (.ref C) none σ H'
  | .bad => False
theorem tT_ask {f : M Bool} {Q : Bool → Hp → Prop} : tT K mg W f σ H Q ↔ ∃ g S env, EnvOk K g H σ env S ∧ askT K mg W g S σ Q (f env) := by
  constructor
  · rintro ⟨g, S, env, x, k⟩
    refine ⟨g, S, env, x, ?_⟩
    generalize f env = r at k
    cases r <;> exact k
  · rintro ⟨g, S, env, x, k⟩
    refine ⟨g, S, env, x, ?_⟩
    generalize f env = r at k
    cases r <;> exact k
/-- an expression, then the rest -/
theorem tD_then {α : Type} {f : M Opd} {P : R α → Prop} {rest : Opd → M α} {Q : VK} (x : EnvOk K g H σ env S) (hex : ∀ c e, P (.ex c e) → ∀ C H', mg c = some (Value.ref C) → EnvOk K g H' σ e S → W (.ref C) none σ H') (hbad : ¬ P .bad)
    (h : P (f.bind rest env)) (hk : ∀ r e v H', EnvOk K g H' σ e ((v, r) :: S) → P (rest r e) → Q v H') : tD K mg W f σ H Q := by
  refine tD_ask.mpr ⟨g, S, env, x, ?_⟩
  unfold M.bind at h
  cases e : f env with
  | bad => rw [e] at h; exact hbad h
  | ex c e' => rw [e] at h; exact hex c e' h
  | ok r en => rw [e] at h; exact fun v H' y => hk r en v H' y h
theorem tT_then {α : Type} {f : M Bool} {P : R α → Prop} {rest : Bool → M α} {Q : Bool → Hp → Prop} (x : EnvOk K g H σ env S) (hex : ∀ c e, P (.ex c e) → ∀ C H', mg c = some (Value.ref C) → EnvOk K g H' σ e S → W (.ref C) none σ H') (hbad : ¬ P .bad)
    (h : P (f.bind rest env)) (hk : ∀ b e H', EnvOk K g H' σ e S → P (rest b e) → Q b H') : tT K mg W f σ H Q := by
  refine tT_ask.mpr ⟨g, S, env, x, ?_⟩
  unfold M.bind at h
  cases e : f env with
  | bad => rw [e] at h; exact hbad h
  | ex c e' => rw [e] at h; exact hex c e' h
  | ok r en => rw [e] at h; exact fun H' y => hk r en H' y h
def askA (K : PySem.W.Frag) (mg : Str → Option Value) (W : WX) (g : Gx) (S : List (V × Opd)) (σ : L2.St) (Q : List V → Hp → Prop) : R (List Opd) → Prop
  | .ok rs e => ∀ vs H', vs.length = rs.length → EnvOk K g H' σ e (pushes vs rs S) → Q vs H'
  | .ex c e => ∀ C H', mg c = some (Value.ref C) → EnvOk K g H' σ e S → W (.ref C) none σ H'
  | .bad => False
theorem tDs_ask {f : M (List Opd)} {Q : List V → Hp → Prop} : tDs K mg W f σ H Q ↔ ∃ g S env, EnvOk K g H σ env S ∧ askA K mg W g S σ Q (f env) := by
  constructor
  · rintro ⟨g, S, env, x, k⟩
    refine ⟨g, S, env, x, ?_⟩
    generalize f env = r at k
    cases r <;> exact k
  · rintro ⟨g, S, env, x, k⟩
    refine ⟨g, S, env, x, ?_⟩
    generalize f env = r at k
    cases r <;> exact k
theorem tDs_then {α : Type} {f : M (List Opd)} {P : R α → Prop} {rest : List Opd → M α} {Q : List V → Hp → Prop} (x : EnvOk K g H σ env S) (hex : ∀ c e, P (.ex c e) → ∀ C H', mg c = some (Value.ref C) → EnvOk K g H' σ e S → W (.ref C) none σ H') (hbad : ¬ P .bad)
    (h : P (f.bind rest env)) (hk : ∀ rs e vs H', vs.length = rs.length → EnvOk K g H' σ e (pushes vs rs S) → P (rest rs e) → Q vs H') : tDs K mg W f σ H Q := by
  refine tDs_ask.mpr ⟨g, S, env, x, ?_⟩
  unfold M.bind at h
  cases e : f env with
  | bad => rw [e] at h; exact hbad h
  | ex c e' => rw [e] at h; exact hex c e' h
  | ok r en => rw [e] at h; exact fun v H' l y => hk r en v H' l y h
theorem pushes_app : ∀ {vs : List V} {rs : List Opd} {S : List (V × Opd)}, vs.length = rs.length → ∃ T, pushes vs rs S = T ++ S ∧ ∀ (K : PySem.W.Frag) (g : Gx) (O : Addr → Option Role) (H : Hp) (σ : L2.St) (env : Ev) (ds : List D), EnvO K g O H σ env (T ++ S) → peeks rs env = some ds → PRepL K (fra g O) H vs ds
  | [], [], S, _ => ⟨[], rfl, fun K g O H σ env ds _ h => by
      obtain rfl := Option.some.inj h
      exact .nil⟩
  | v :: vs, r :: rs, S, hl => by
    obtain ⟨T, e, h⟩ := pushes_app (vs := vs) (rs := rs) (S := (v, r) :: S) (Nat.succ.inj hl)
    refine ⟨T ++ [(v, r)], by rw [List.append_assoc]; exact e, fun K g O H σ env ds x hp => ?_⟩
    rw [List.append_assoc] at x
    have hp' : (match DL.peek r env, peeks rs env with
      | some d, some ds => some (d :: ds)
      | _, _ => none) = some ds := hp
    cases e1 : DL.peek r env with
    | none => simp only [e1] at hp'; cases hp'
    | some d =>
      cases e2 : peeks rs env with
      | none => simp only [e1, e2] at hp'; cases hp'
      | some ds' =>
        simp only [e1, e2] at hp'
        obtain rfl := Option.some.inj hp'
        exact .cons (x.peek (List.mem_append_right _ List.mem_cons_self) e1) (h K g O H σ env ds' x e2)
  | [], _ :: _, _, hl => by cases hl
  | _ :: _, [], _, hl => by cases hl
end
section
variable {X : Cx} {W : WX} {a b c : Expr} {es : List Expr} {fa fb fc : M Opd} {fs : M (List Opd)} {pos p : Pos} {x : Str}
/-! ### arguments -/
theorem da_nil : DA X W [] aNil := PA.of pa_nil fun σ H Q q => by
  obtain ⟨g, S, env, x, k⟩ := tDs_ask.mp q
  exact k [] H rfl x
theorem da_cons (ha : DE X W a fa) (hb : DA X W es fs) (hs : starEach (a :: es) X.env = (false, eval a X.env) :: starEach es X.env := by rfl) : DA X W (a :: es) (aCons fa fs) := PA.of (pa_cons ha hb hs) fun σ H Q q => by
  obtain ⟨g, S, env, x, k⟩ := tDs_ask.mp q
  refine tD_then x (fun c e z => z) (fun z => z) k fun r1 e1 v1 H1 x1 z1 => ?_
  refine tDs_then x1 (P := askA X.K X.mg W g S σ Q) (fun c e z C H' hc y => z C H' hc (by obtain ⟨O, y⟩ := y; exact ⟨O, y.drop (T := [_])⟩)) (fun z => z) z1 fun rs e vs H' hl y z => ?_
  exact z (v1 :: vs) H' (congrArg (· + 1) hl) y
/-! ### displays -/
def xLst (a : M (List Opd)) : M Opd := a.bind fun rs => fun env => match frzs rs env with
  | some (ds, e) => if ds.length ≤ sizeLine then .ok (.tmp (.lst ds)) e else .bad
  | none => .bad
def xTup (a : M (List Opd)) : M Opd := a.bind fun rs => fun env => match frzs rs env with
  | some (ds, e) => if ds.length ≤ sizeLine then .ok (.val (.tup ds)) e else .bad
  | none => .bad
theorem EnvO.trkA {K : PySem.W.Frag} {g : Gx} {O : Addr → Option Role} {H : Hp} {σ : L2.St} {env : Ev} {S : List (V × Opd)} (x : EnvO K g O H σ env S) : ∀ a, fra g O a → ∃ o, H a = some o := fun a z => by
  rcases z with z | ⟨r, z⟩
  · exact x.trk a z
  · exact x.own a r z
theorem de_lst (h : DA X W es fs) : DE X W (.List es pos) (xLst fs) := PE.of (pe_lst h) fun σ H Q q => by
  obtain ⟨g, S, env, x, k⟩ := tD_ask.mp q
  refine tDs_then x (fun c e z => z) (fun z => z) k fun rs e vs H' hl y z => ?_
  obtain ⟨O, y⟩ := y
  cases q : frzs rs e with
  | none => simp only [q] at z; exact z.elim
  | some t =>
    obtain ⟨ds, e1⟩ := t
    simp only [q] at z
    obtain ⟨O1, y1, rl, _⟩ := y.frzs hl q
    by_cases hz : ds.length ≤ sizeLine
    · rw [if_pos hz] at z
      refine ⟨by rw [rl.len]; exact hz, ?_⟩
      exact rep_tmp (y1.res (T := []) z) rl
    · rw [if_neg hz] at z; exact z.elim
theorem de_tup {j} (h : DA X W es fs) : DE X W (.Tuple es j pos) (xTup fs) := PE.of (pe_tup h) fun σ H Q q => by
  obtain ⟨g, S, env, x, k⟩ := tD_ask.mp q
  refine tDs_then x (fun c e z => z) (fun z => z) k fun rs e vs H' hl y z => ?_
  obtain ⟨O, y⟩ := y
  cases q : frzs rs e with
  | none => simp only [q] at z; exact z.elim
  | some t =>
    obtain ⟨ds, e1⟩ := t
    simp only [q] at z
    obtain ⟨O1, y1, rl, _⟩ := y.frzs hl q
    by_cases hz : ds.length ≤ sizeLine
    · rw [if_pos hz] at z
      refine ⟨by rw [rl.len]; exact hz, ?_⟩
      exact rep_tup (y1.res (T := []) z) rl y1.trkA
    · rw [if_neg hz] at z; exact z.elim
/-! ### built-in functions -/
theorem xN_imp {r : List V → Hp → VK → Prop} {f : ON} (hr : ∀ A H vs ds res Q, PRepL X.K A H vs ds → f ds = some res → resQ X.K A H res Q → r vs H Q) {σ : L2.St} {H : Hp} {Q : VK} (q : tD X.K X.mg W (xN f fs) σ H Q) : tCB r (tDs X.K X.mg W fs) σ H Q := by
  obtain ⟨g, S, env, x, k⟩ := tD_ask.mp q
  refine tDs_then x (fun c e z => z) (fun z => z) k fun rs e vs H' hl y z => ?_
  obtain ⟨O, y⟩ := y
  obtain ⟨T, e1, e2⟩ := pushes_app (vs := vs) (rs := rs) (S := S) hl
  rw [e1] at y
  cases p : peeks rs e with
  | none => simp only [p] at z; exact z.elim
  | some ds =>
    simp only [p] at z
    have q1 := e2 _ _ _ _ _ _ _ y p
    cases ef : f ds with
    | none => simp only [ef] at z; exact z.elim
    | some res =>
      simp only [ef] at z
      cases res with
      | val d => exact hr _ _ _ _ _ _ q1 ef (y.res z)
      | tmp d => exact hr _ _ _ _ _ _ q1 ef (y.res z)
      | slot i => exact z.elim
theorem de_callB {id : String} {f : ON} (ho : CallD X (.builtin id) f) (hg : Gl X x) (hm : X.mg x = none) (hv : bootBuiltins x = some (.builtin id)) (ha : DA X W (a :: es) fs) (hn : x ≠ "__name__" := by decide) (hdb : (x == ("__debug__" : Str)) = false := by decide)
    (he : starEach (a :: es) X.env = (false, eval a X.env) :: starEach es X.env := by rfl) (hpl : (backTo pos (starEach es X.env)).any (·.1) = false := by rfl) : DE X W (.Call (.Name x p) (a :: es) [] pos) (xN f fs) := by
  obtain ⟨r, h1, h2⟩ := ho.ex
  exact PE.of (pe_callB h1 hg hm hv ha hn hdb he hpl) fun σ H Q q => xN_imp h2 q
theorem de_callTy {id : String} {f : ON} (ho : CallD X (.type id) f) (hg : Gl X x) (hm : X.mg x = none) (hv : bootBuiltins x = some (.type id)) (ha : DA X W (a :: es) fs) (hn : x ≠ "__name__" := by decide) (hdb : (x == ("__debug__" : Str)) = false := by decide)
    (he : starEach (a :: es) X.env = (false, eval a X.env) :: starEach es X.env := by rfl) (hpl : (backTo pos (starEach es X.env)).any (·.1) = false := by rfl) : DE X W (.Call (.Name x p) (a :: es) [] pos) (xN f fs) := by
  obtain ⟨r, h1, h2⟩ := ho.ex
  exact PE.of (pe_callTy h1 hg hm hv ha hn hdb he hpl) fun σ H Q q => xN_imp h2 q
/-! ### tests -/
def truth : D → Option Bool
  | .non => some false
  | .bl b => some b
  | .int i => some (i != 0)
  | .str x => if x.length ≤ sizeLine then some ((x.length : Int) != 0) else none
  | .lst l => some (!l.isEmpty)
  | .tup l => some (!l.isEmpty)
  | .dct _ => none
  | .scr l => some (!l.isEmpty)
def tB1 (f : M Opd) : M Bool := f.bind fun r => fun env => match peek r env with
  | some (.bl b) => .ok b env
  | _ => .bad
def tV1 (f : M Opd) : M Bool := f.bind fun r => fun env => match peek r env with
  | some d => match truth d with
    | some b => .ok b env
    | none => .bad
  | _ => .bad
theorem tB1_imp {f : M Opd} {σ : L2.St} {H : Hp} {Q : Bool → Hp → Prop} (q : tT X.K X.mg W (tB1 f) σ H Q) : tD X.K X.mg W f σ H fun x H' => ∃ k, x = .bl k ∧ Q k H' := by
  obtain ⟨g, S, env, x, k⟩ := tT_ask.mp q
  refine tD_then x (fun c e z => z) (fun z => z) k fun r e v H' y z => ?_
  obtain ⟨O, y⟩ := y
  cases p : peek r e with
  | none => simp only [p] at z; exact z.elim
  | some d =>
    cases d <;> simp only [p] at z <;> try exact z.elim
    rename_i b
    exact ⟨b, prep_bl (y.peek List.mem_cons_self p), z H' ⟨O, y.drop (T := [_])⟩⟩
theorem dt_val (h : DE X W a fa) (he : ∀ whole, isTrue a X.env whole = (do let v ← whole; standAt a.pos; holding [v] (truthy v)) := by intro _; rfl) : DT X W a (tB1 fa) := PT.of (pt_val h he) fun σ H Q q => tB1_imp q
theorem dt_truth (h : DE X W a fa) (he : ∀ whole, isTrue a X.env whole = (do let v ← whole; standAt a.pos; holding [v] (truthy v)) := by intro _; rfl) : DT X W a (tV1 fa) := PT.of (pt_truth h he) fun σ H Q q => by
  obtain ⟨g, S, env, x, k⟩ := tT_ask.mp q
  refine tD_then x (fun c e z => z) (fun z => z) k fun r e v H' y z => ?_
  obtain ⟨O, y⟩ := y
  cases p : peek r e with
  | none => simp only [p] at z; exact z.elim
  | some d =>
    simp only [p] at z
    have pr := y.peek List.mem_cons_self p
    cases t : truth d with
    | none => simp only [t] at z; exact z.elim
    | some b =>
      simp only [t] at z
      refine ⟨b, ?_, z H' ⟨O, y.drop (T := [_])⟩⟩
      cases d with
      | non => obtain rfl := prep_non pr; obtain rfl := Option.some.inj t; rfl
      | bl k => obtain rfl := prep_bl pr; obtain rfl := Option.some.inj t; rfl
      | int k => obtain rfl := prep_int pr; obtain rfl := Option.some.inj t; rfl
      | str k =>
        obtain rfl := prep_str pr
        have t' : (if k.length ≤ sizeLine then some ((k.length : Int) != 0) else none) = some b := t
        by_cases hz : k.length ≤ sizeLine
        · rw [if_pos hz] at t'
          obtain rfl := Option.some.inj t'
          exact ⟨hz, rfl⟩
        · rw [if_neg hz] at t'; cases t'
      | lst l =>
        obtain ⟨q, vs, rfl, h1, h2⟩ := pr
        obtain rfl := Option.some.inj t
        exact .inl ⟨vs, SqL.of h1, by cases h2 <;> rfl⟩
      | scr l =>
        obtain ⟨q, vs, rfl, h1, h2⟩ := pr
        obtain rfl := Option.some.inj t
        exact .inl ⟨vs, h1, by cases h2 <;> rfl⟩
      | tup l =>
        obtain ⟨q, vs, rfl, h1, h2⟩ := pr
        obtain rfl := Option.some.inj t
        exact .inr (.inl ⟨vs, h1, by cases h2 <;> rfl⟩)
      | dct l => cases t
theorem dt_cmp {op : CmpOp} {f : O2} (ho : OpD X (compareOp op) f) (ha : DE X W a fa) (hb : DE X W b fb) (hm : behindInMarks op b = false) : DT X W (.Compare a [op] [b] pos) (tB1 (x2 f fa fb)) := by
  obtain ⟨r, h1, h2⟩ := ho.ex
  refine PT.of (pt_cmpR h1 ha hb hm) fun σ H Q q => ?_
  obtain ⟨g, S, env, x, k⟩ := tD_ask.mp (tB1_imp q)
  exact t_two x (fun c e z => z) (fun z => z) k fun r1 r2 e v1 v2 H' y z => x2_ok h2 y z
def mAnd (a b : M Bool) : M Bool := a.bind fun c => if c = true then b else M.pure false
def mOr (a b : M Bool) : M Bool := a.bind fun c => if c = true then M.pure true else b
def mNot (a : M Bool) : M Bool := a.bind fun c => M.pure (!c)
abbrev DW (X : Cx) (W : WX) (e : Expr) (f : M Bool) : Prop := PW X e (tT X.K X.mg W f)
theorem PW.of' {e : Expr} {t t' : TT} (h : PW X e t) (w : ∀ σ H Q, t' σ H Q → t σ H Q) : PW X e t' := ⟨fun wh p s σ H Q I q => h.run wh p s σ H Q I (w σ H Q q)⟩
theorem dw_and1 {ma : M Bool} (ha : DT X W a ma) : DW X W (.BoolOp .And [a] pos) ma := pw_and1 ha
theorem dw_or1 {ma : M Bool} (ha : DT X W a ma) : DW X W (.BoolOp .Or [a] pos) ma := pw_or1 ha
theorem dw_and {ma mb : M Bool} (ha : DT X W a ma) (hb : DW X W (.BoolOp .And (b :: es) pos) mb) : DW X W (.BoolOp .And (a :: b :: es) pos) (mAnd ma mb) := PW.of' (pw_and ha hb) fun σ H Q q => by
  obtain ⟨g, S, env, x, k⟩ := tT_ask.mp q
  refine tT_then x (fun c e z => z) (fun z => z) k fun c e H' y z => ?_
  cases c with
  | true => exact tT_ask.mpr ⟨g, S, e, y, z⟩
  | false => exact z H' y
theorem dw_or {ma mb : M Bool} (ha : DT X W a ma) (hb : DW X W (.BoolOp .Or (b :: es) pos) mb) : DW X W (.BoolOp .Or (a :: b :: es) pos) (mOr ma mb) := PW.of' (pw_or ha hb) fun σ H Q q => by
  obtain ⟨g, S, env, x, k⟩ := tT_ask.mp q
  refine tT_then x (fun c e z => z) (fun z => z) k fun c e H' y z => ?_
  cases c with
  | false => exact tT_ask.mpr ⟨g, S, e, y, z⟩
  | true => exact z H' y
theorem dt_not {ma : M Bool} (ha : DT X W a ma) : DT X W (.UnaryOp .Not a pos) (mNot ma) := PT.of (pt_not ha) fun σ H Q q => by
  obtain ⟨g, S, env, x, k⟩ := tT_ask.mp q
  exact tT_then x (fun c e z => z) (fun z => z) k fun c e H' y z => z H' y
/-- and, or, not as values -/
def xAnd (a b : M Opd) : M Opd := a.bind fun r => fun env => match peek r env with
  | some (.bl true) => b env
  | some (.bl false) => .ok (.val (.bl false)) env
  | _ => .bad
def xOr (a b : M Opd) : M Opd := a.bind fun r => fun env => match peek r env with
  | some (.bl false) => b env
  | some (.bl true) => .ok (.val (.bl true)) env
  | _ => .bad
def xNot (a : M Opd) : M Opd := a.bind fun r => fun env => match peek r env with
  | some (.bl c) => .ok (.val (.bl (!c))) env
  | _ => .bad
def xIf (c : M Bool) (a b : M Opd) : M Opd := c.bind fun k => if k = true then a else b
theorem de_one {op} (h : DE X W a fa) : DE X W (.BoolOp op [a] pos) fa := pe_one h
theorem de_and (ha : DE X W a fa) (hb : DE X W (.BoolOp .And (b :: es) pos) fb) : DE X W (.BoolOp .And (a :: b :: es) pos) (xAnd fa fb) := PE.of (pe_and ha hb) fun σ H Q q => by
  obtain ⟨g, S, env, x, k⟩ := tD_ask.mp q
  refine tD_then x (fun c e z => z) (fun z => z) k fun r e v H' y z => ?_
  obtain ⟨O, y⟩ := y
  cases p : peek r e with
  | none => simp only [p] at z; exact z.elim
  | some d =>
    cases d <;> simp only [p] at z <;> try exact z.elim
    rename_i c
    refine ⟨c, prep_bl (y.peek List.mem_cons_self p), ?_⟩
    cases c with
    | true => exact tD_ask.mpr ⟨g, S, e, ⟨O, y.drop (T := [_])⟩, z⟩
    | false => exact z _ _ ⟨O, (y.drop (T := [_])).push (.bl false)⟩
theorem de_or (ha : DE X W a fa) (hb : DE X W (.BoolOp .Or (b :: es) pos) fb) : DE X W (.BoolOp .Or (a :: b :: es) pos) (xOr fa fb) := PE.of (pe_or ha hb) fun σ H Q q => by
  obtain ⟨g, S, env, x, k⟩ := tD_ask.mp q
  refine tD_then x (fun c e z => z) (fun z => z) k fun r e v H' y z => ?_
  obtain ⟨O, y⟩ := y
  cases p : peek r e with
  | none => simp only [p] at z; exact z.elim
  | some d =>
    cases d <;> simp only [p] at z <;> try exact z.elim
    rename_i c
    refine ⟨c, prep_bl (y.peek List.mem_cons_self p), ?_⟩
    cases c with
    | false => exact tD_ask.mpr ⟨g, S, e, ⟨O, y.drop (T := [_])⟩, z⟩
    | true => exact z _ _ ⟨O, (y.drop (T := [_])).push (.bl true)⟩
theorem de_not (ha : DE X W a fa) : DE X W (.UnaryOp .Not a pos) (xNot fa) := PE.of (pe_not ha) fun σ H Q q => by
  obtain ⟨g, S, env, x, k⟩ := tD_ask.mp q
  refine tD_then x (fun c e z => z) (fun z => z) k fun r e v H' y z => ?_
  obtain ⟨O, y⟩ := y
  cases p : peek r e with
  | none => simp only [p] at z; exact z.elim
  | some d =>
    cases d <;> simp only [p] at z <;> try exact z.elim
    rename_i c
    exact ⟨c, prep_bl (y.peek List.mem_cons_self p), z _ _ ⟨O, (y.drop (T := [_])).push (.bl _)⟩⟩
theorem de_if {ma : M Bool} (hc : DT X W c ma) (ha : DE X W a fa) (hb : DE X W b fb) : DE X W (.IfExp c a b pos) (xIf ma fa fb) := PE.of (pe_ifExp hc ha hb) fun σ H Q q => by
  obtain ⟨g, S, env, x, k⟩ := tD_ask.mp q
  refine tT_then x (fun c e z => z) (fun z => z) k fun c e H' y z => ?_
  cases c with
  | true => exact tD_ask.mpr ⟨g, S, e, y, z⟩
  | false => exact tD_ask.mpr ⟨g, S, e, y, z⟩
/-- a < b < c -/
def x3 (f f' : O2) (a b c : M Opd) : M Opd := a.bind fun r1 => b.bind fun r2 => fun env => match peek r1 env, peek r2 env with
  | some d1, some d2 => match f d1 d2 with
    | some (.val (.bl true)) => c.bind (fun r3 => fun env => match peek r2 env, peek r3 env with
      | some d2, some d3 => match f' d2 d3 with
        | some (.val d) => .ok (.val d) env
        | _ => .bad
      | _, _ => .bad) env
    | some (.val (.bl false)) => .ok (.val (.bl false)) env
    | _ => .bad
  | _, _ => .bad
theorem x3_imp {r r' : R2} {f f' : O2} (hr : ∀ A H x y d1 d2 res Q, PRep X.K A H x d1 → PRep X.K A H y d2 → f d1 d2 = some res → resQ X.K A H res Q → r x y H Q) (hr' : ∀ A H x y d1 d2 res Q, PRep X.K A H x d1 → PRep X.K A H y d2 → f' d1 d2 = some res → resQ X.K A H res Q → r' x y H Q)
    {σ : L2.St} {H : Hp} {Q : VK} (q : tD X.K X.mg W (x3 f f' fa fb fc) σ H Q) : tChain r r' (tD X.K X.mg W fa) (tD X.K X.mg W fb) (tD X.K X.mg W fc) σ H Q := by
  obtain ⟨g, S, env, x, k⟩ := tD_ask.mp q
  refine t_two x (fun c e z => z) (fun z => z) k fun r1 r2 e v1 v2 H' y z => ?_
  obtain ⟨O, y⟩ := y
  cases p1 : peek r1 e with
  | none => simp only [p1] at z; exact z.elim
  | some d1 =>
    cases p2 : peek r2 e with
    | none => simp only [p1, p2] at z; exact z.elim
    | some d2 =>
      simp only [p1, p2] at z
      have q1 := y.peek (List.mem_cons_of_mem _ List.mem_cons_self) p1
      have q2 := y.peek List.mem_cons_self p2
      cases ef : f d1 d2 with
      | none => simp only [ef] at z; exact z.elim
      | some res =>
        simp only [ef] at z
        cases res with
        | tmp d => exact z.elim
        | slot i => exact z.elim
        | val d =>
          cases d <;> try exact z.elim
          rename_i c
          refine hr _ _ _ _ _ _ _ _ q1 q2 ef fun v H2 m rp => ?_
          cases rp
          refine ⟨c, rfl, ?_⟩
          cases c with
          | false => exact z _ _ ⟨O, (y.move m).drop (T := [_, _]) |>.push (.bl false)⟩
          | true =>
            rw [if_pos rfl]
            refine tD_then (⟨O, y.move m⟩ : EnvOk X.K g H2 σ e _) (P := askE X.K X.mg W g S σ Q) (fun c e z C H' hc w => z C H' hc (by obtain ⟨O, w⟩ := w; exact ⟨O, w.drop (T := [_, _])⟩)) (fun z => z) z fun r3 e3 v3 H3 w3 z3 => ?_
            obtain ⟨O3, w3⟩ := w3
            cases p4 : peek r2 e3 with
            | none => simp only [p4] at z3; exact z3.elim
            | some d4 =>
              cases p3 : peek r3 e3 with
              | none => simp only [p4, p3] at z3; exact z3.elim
              | some d3 =>
                simp only [p4, p3] at z3
                have q4 := w3.peek (List.mem_cons_of_mem _ List.mem_cons_self) p4
                have q3 := w3.peek List.mem_cons_self p3
                cases eg : f' d4 d3 with
                | none => simp only [eg] at z3; exact z3.elim
                | some res =>
                  simp only [eg] at z3
                  cases res with
                  | val d => exact hr' _ _ _ _ _ _ _ _ q4 q3 eg (w3.res (T := [_, _, _]) z3)
                  | tmp d => exact z3.elim
                  | slot i => exact z3.elim
theorem de_chain {op op' : CmpOp} {f f' : O2} (ho : OpD X (compareOp op) f) (ho' : OpD X (compareOp op') f') (ha : DE X W a fa) (hb : DE X W b fb) (hc : DE X W c fc)
    (hm : lastMarks [op, op'] [b, c] = false := by with_unfolding_all rfl) : DE X W (.Compare a [op, op'] [b, c] pos) (x3 f f' fa fb fc) := by
  obtain ⟨r, h1, h2⟩ := ho.ex
  obtain ⟨r', h1', h2'⟩ := ho'.ex
  exact PE.of (pe_chain h1 h1' ha hb hc hm) fun σ H Q q => x3_imp h2 h2' q
theorem dt_chain {op op' : CmpOp} {f f' : O2} (ho : OpD X (compareOp op) f) (ho' : OpD X (compareOp op') f') (ha : DE X W a fa) (hb : DE X W b fb) (hc : DE X W c fc)
    (hm : lastMarks [op, op'] [b, c] = false := by with_unfolding_all rfl) : DT X W (.Compare a [op, op'] [b, c] pos) (tB1 (x3 f f' fa fb fc)) := by
  obtain ⟨r, h1, h2⟩ := ho.ex
  obtain ⟨r', h1', h2'⟩ := ho'.ex
  exact PT.of (pt_chain h1 h1' ha hb hc hm) fun σ H Q q => x3_imp h2 h2' (tB1_imp q)
end
end DL

/-! DL8: statements, targets, loops, comprehensions. -/
namespace DL
open PySem PySem.Spec PyProof.Rows L2
section
variable {X : Cx} {W : WX} {a b c : Expr} {es : List Expr} {fa fb fc : M Opd} {pos p : Pos} {x : Str} {st : Stmt} {rest sa sb : List Stmt} {ma mb : MS} {mc : M Bool} {k : Nat}
/-! ### small statements -/
def sNext : MS := fun e => .nx e
def sBr : MS := fun e => .br e
def sCt : MS := fun e => .ct e
def sSeq (m n : MS) : MS := fun e => match m e with
  | .nx e' => n e'
  | f => f
def sDrop (f : M Opd) : MS := fun e => match f e with
  | .ok _ e' => .nx e'
  | .ex c e' => .ex c e'
  | .bad => .bad
def sRet (f : M Opd) : MS := fun e => match f e with
  | .ok r e' => .rt r e'
  | .ex c e' => .ex c e'
  | .bad => .bad
def sIf (c : M Bool) (m n : MS) : MS := fun e => match c e with
  | .ok true e' => m e'
  | .ok false e' => n e'
  | .ex c e' => .ex c e'
  | .bad => .bad
def sSet (i : Nat) (f : M Opd) : MS := fun e => match f e with
  | .ok r e' => match sto r i e' with
    | some e2 => .nx e2
    | none => .bad
  | .ex c e' => .ex c e'
  | .bad => .bad
theorem dss_nil : DSs X W [] sNext := PSs.of pss_nil fun D σ H q => by
  obtain ⟨g, S, env, hv, x, k⟩ := tS_ask.mp q
  exact k σ H x
theorem dss_cons (h1 : DS X W st ma) (h2 : DSs X W rest mb) : DSs X W (st :: rest) (sSeq ma mb) := PSs.of (pss_cons h1 h2) fun D σ H q => by
  obtain ⟨g, S, env, hv, x, k⟩ := tS_ask.mp q
  refine tS_ask.mpr ⟨g, S, env, hv, x, ?_⟩
  unfold sSeq at k
  cases e : ma env with
  | nx e' => rw [e] at k; exact fun σ' H' y => tS_ask.mpr ⟨g, S, e', hv, y, k⟩
  | br e' => rw [e] at k; exact k
  | ct e' => rw [e] at k; exact k
  | rt r e' => rw [e] at k; exact k
  | ex c e' => rw [e] at k; exact k
  | bad => rw [e] at k; exact k
theorem dss_one (h1 : DS X W st ma) : DSs X W [st] ma := pss_one h1
theorem ds_pass : DS X W (.Pass pos) sNext := PS.of ps_pass fun D σ H q => by
  obtain ⟨g, S, env, hv, x, k⟩ := tS_ask.mp q
  exact k σ H x
theorem ds_break : DS X W (.Break pos) sBr := PS.of ps_break fun D σ H q => by
  obtain ⟨g, S, env, hv, x, k⟩ := tS_ask.mp q
  exact k σ H x
theorem ds_continue : DS X W (.Continue pos) sCt := PS.of ps_continue fun D σ H q => by
  obtain ⟨g, S, env, hv, x, k⟩ := tS_ask.mp q
  exact k σ H x
theorem tD_st {K : PySem.W.Frag} {mg : Str → Option Value} {f : M Opd} {g : Gx} {S : List (V × Opd)} {σ : L2.St} {H : Hp} {env : Ev} {Q : VK} (x : EnvOk K g H σ env S)
    (h : match f env with
      | .ok r e => ∀ v H', EnvOk K g H' σ e ((v, r) :: S) → Q v H'
      | .ex c e => ∀ C σ' H', mg c = some (Value.ref C) → EnvOk K g H' σ' e S → W (.ref C) none σ' H'
      | .bad => False) : tD K mg W f σ H Q := by
  refine tD_ask.mpr ⟨g, S, env, x, ?_⟩
  generalize f env = r at h
  cases r with
  | ok r e => exact h
  | ex c e => exact fun C H' => h C σ H'
  | bad => exact h
theorem ds_expr (h : DE X W a fa) (hs : swapsWith a none pos.line X.env = pure false := by rfl) : DS X W (.Expr a pos) (sDrop fa) := PS.of (ps_expr h hs) fun D σ H q => by
  obtain ⟨g, S, env, hv, x, k⟩ := tS_ask.mp q
  refine tD_st x ?_
  unfold sDrop at k
  cases e : fa env with
  | ok r e' =>
    rw [e] at k
    rintro v H' ⟨O, y⟩
    exact k σ H' ⟨O, y.drop (T := [_])⟩
  | ex c e' => rw [e] at k; exact k
  | bad => rw [e] at k; exact k
theorem ds_doc {s : Str} {j p1} : DS X W (.Expr (.Constant (.str s) j p1) pos) sNext := PS.of ps_doc fun D σ H q => by
  obtain ⟨g, S, env, hv, x, k⟩ := tS_ask.mp q
  exact k σ H x
theorem ds_ret (h : DE X W a fa) : DS X W (.Return (some a) pos) (sRet fa) := PS.of (ps_ret h) fun D σ H q => by
  obtain ⟨g, S, env, hv, x, k⟩ := tS_ask.mp q
  refine tD_st x ?_
  unfold sRet at k
  cases e : fa env with
  | ok r e' => rw [e] at k; exact fun v H' y => k v σ H' y
  | ex c e' => rw [e] at k; exact k
  | bad => rw [e] at k; exact k
def sRetN : MS := fun e => .rt (.val .non) e
theorem ds_retN : DS X W (.Return none pos) sRetN := PS.of ps_retN fun D σ H q => by
  obtain ⟨g, S, env, hv, ⟨O, x⟩, k⟩ := tS_ask.mp q
  exact k .non σ H ⟨O, x.push .non⟩
theorem ds_if (hc : DT X W c mc) (ha : DSs X W sa ma) (hb : DSs X W sb mb) : DS X W (.If c sa sb pos) (sIf mc ma mb) := PS.of (ps_if hc ha hb) fun D σ H q => by
  obtain ⟨g, S, env, hv, x, k⟩ := tS_ask.mp q
  refine tT_ask.mpr ⟨g, S, env, x, ?_⟩
  unfold sIf at k
  cases e : mc env with
  | ok d e' =>
    rw [e] at k
    intro H' y
    cases d with
    | true => exact tS_ask.mpr ⟨g, S, e', hv, y, k⟩
    | false => exact tS_ask.mpr ⟨g, S, e', hv, y, k⟩
  | ex c e' => rw [e] at k; exact fun C H' => k C σ H'
  | bad => rw [e] at k; exact k
theorem ds_set {i : Nat} {pos' : Pos} (C : At k X W) (hi : X.N[i]? = some x) (hx : Loc X.env.scope x) (he : DE X W a fa) (hs : swapsWith a (some (.Name x pos')) pos.line X.env = pure false := by rfl)
    (hf : X.fn x = true ∨ X.env.scope.names.lookup x = some .local := by first | exact .inl rfl | exact .inr rfl) : DS X W (.Assign [.Name x pos'] a pos) (sSet i fa) := PS.of (ps_set C.nd hi hx he hs hf) fun D σ H q => by
  obtain ⟨g, S, env, hv, x, k⟩ := tS_ask.mp q
  refine tD_st x ?_
  unfold sSet at k
  cases e : fa env with
  | ok r e' =>
    rw [e] at k
    rintro v H' ⟨O, y⟩
    cases q : sto r i e' with
    | none => simp only [q] at k; exact k.elim
    | some e2 => simp only [q] at k; exact k _ _ (y.sto hv.ns q)
  | ex c e' => rw [e] at k; exact k
  | bad => rw [e] at k; exact k
/-- x op= e by the operation of the two values -/
def sAug (i : Nat) (f : O2) (fa : M Opd) : MS := sSet i (x2 f (xVar i) fa)
theorem ds_aug {i : Nat} {f : O2} {op : Operator} {pos' : Pos} (C : At k X W) (hi : X.N[i]? = some x) (hx : Loc X.env.scope x) (ho : OpD X (inplaceOp op) f) (he : DE X W a fa)
    (hf : X.fn x = true ∨ X.env.scope.names.lookup x = some .local := by first | exact .inl rfl | exact .inr rfl) : DS X W (.AugAssign (.Name x pos') op a pos) (sAug i f fa) := by
  obtain ⟨r, h1, h2⟩ := ho.ex
  refine PS.of (ps_aug (ti := r) C.nd hi hx he (fun pins s σ H x y v u Q I rx ry z => h1 pins s σ H x y v u Q I rx ry z) hf) fun D σ H q => ?_
  obtain ⟨g, S, env, hv, x, k⟩ := tS_ask.mp q
  have go : ∃ v, σ[i]? = some (some v) ∧ ∃ r1, xVar i env = .ok r1 env ∧ EnvOk X.K g H σ env ((v, r1) :: S) := by
    obtain ⟨O, x⟩ := x
    unfold sAug sSet x2 M.bind at k
    cases e : env[i]? with
    | none => simp only [xVar, e] at k; exact k.elim
    | some s =>
      have hs := x.sl i s e
      cases s with
      | no => simp only [xVar, e] at k; exact k.elim
      | fz d =>
        obtain ⟨v, h1, h2⟩ := hs
        exact ⟨v, h1, .val d, by simp only [xVar, e], O, x.push h2⟩
      | ow d =>
        obtain ⟨p, h1, h2⟩ := hs
        exact ⟨_, h1, .slot i, by simp only [xVar, e], O, x.len, x.keep, x.trk, x.own, x.sl, h1, x.st⟩
      | io d =>
        obtain ⟨p, h1, h2⟩ := hs
        exact ⟨_, h1, .slot i, by simp only [xVar, e], O, x.len, x.keep, x.trk, x.own, x.sl, h1, x.st⟩
  obtain ⟨v, hv1, r1, hr1, x1⟩ := go
  refine ⟨v, hv1, ?_⟩
  have k' := k
  unfold sAug sSet x2 M.bind at k'
  simp only [hr1] at k'
  refine tD_ask.mpr ⟨g, _, env, x1, ?_⟩
  cases e : fa env with
  | bad => rw [e] at k'; exact k'.elim
  | ex c e' =>
    rw [e] at k'
    exact fun C H' hc y => k' C σ H' hc (by obtain ⟨O, y⟩ := y; exact ⟨O, y.drop (T := [_])⟩)
  | ok r2 e' =>
    rw [e] at k'
    intro v2 H2 y
    refine x2_ok (mg := X.mg) (W := fun _ _ _ _ => True) (S := S) (g := g) h2 y ?_
    dsimp only at k'
    cases p1 : peek r1 e' with
    | none => simp only [p1] at k'; exact k'.elim
    | some d1 =>
      cases p2 : peek r2 e' with
      | none => simp only [p1, p2] at k'; exact k'.elim
      | some d2 =>
        simp only [p1, p2] at k' ⊢
        cases ef : f d1 d2 with
        | none => simp only [ef] at k'; exact k'.elim
        | some res =>
          simp only [ef] at k' ⊢
          cases res with
          | slot j => exact k'.elim
          | val d =>
            rintro v H' ⟨O, z⟩
            dsimp only at k'
            cases q : sto (.val d) i e' with
            | none => simp only [q] at k'; exact k'.elim
            | some e2 => simp only [q] at k'; exact k' _ _ (z.sto hv.ns q)
          | tmp d =>
            rintro v H' ⟨O, z⟩
            dsimp only at k'
            cases q : sto (.tmp d) i e' with
            | none => simp only [q] at k'; exact k'.elim
            | some e2 => simp only [q] at k'; exact k' _ _ (z.sto hv.ns q)
/-! ### targets -/
abbrev Tg := D → Ev → Option Ev
abbrev Tgs := List D → Ev → Option Ev
/-- only slots of the list have changed -/
def Chg (is : List Nat) (σ σ' : L2.St) : Prop := σ'.length = σ.length ∧ ∀ k, k ∉ is → σ'[k]? = σ[k]?
def gNm (i : Nat) : Tg := fun d e => match e[i]? with
  | none => none
  | some (.io _) => none
  | some _ => some (e.set i (.fz d))
def gTp (n : Nat) (t : Tgs) : Tg := fun d e => match d with
  | .tup ds => if ds.length = n then t ds e else none
  | _ => none
def gNl : Tgs := fun ds e => match ds with
  | [] => some e
  | _ => none
def gCs (t : Tg) (u : Tgs) : Tgs := fun ds e => match ds with
  | d :: ds => match t d e with
    | some e1 => u ds e1
    | none => none
  | [] => none
structure GD (X : Cx) (tg : Expr) (is : List Nat) (gt : Tg) : Prop where
  ex : ∃ t : TG, PG X tg t ∧ ∀ g O H σ env S v d env' (Q : L2.St → Hp → Prop), NS S → EnvO X.K g O H σ env S → Rep X.K (fra g O) H v d → gt d env = some env' → (∀ σ', Chg is σ σ' → EnvO X.K g O H σ' env' S → Q σ' H) → t v σ H Q
structure GDs (X : Cx) (tg : List Expr) (is : List Nat) (gt : Tgs) : Prop where
  ex : ∃ t : TGs, PGs X tg t ∧ ∀ g O H σ env S vs ds env' (Q : L2.St → Hp → Prop), NS S → EnvO X.K g O H σ env S → RepL X.K (fra g O) H vs ds → gt ds env = some env' → (∀ σ', Chg is σ σ' → EnvO X.K g O H σ' env' S → Q σ' H) → t vs σ H Q
theorem gd_name {i : Nat} (hN : X.N.Nodup) (hi : X.N[i]? = some x) (hx : Loc X.env.scope x) (hf : X.fn x = true ∨ X.env.scope.names.lookup x = some .local := by first | exact .inl rfl | exact .inr rfl) : GD X (.Name x pos) [i] (gNm i) := by
  refine ⟨_, pg_name hN hi hx hf, fun g O H σ env S v d env' Q hv y r h k => ?_⟩
  unfold gNm at h
  have go : ∀ s, env[i]? = some s → (∀ d, s ≠ .io d) → some (env.set i (.fz d)) = some env' → gName i v σ H Q := fun s e ns h => by
    obtain rfl := Option.some.inj h
    refine k _ ⟨List.length_set .., fun j hj => ?_⟩ (y.setFz hv e ns r)
    rw [List.getElem?_set_ne (fun z => hj (by rw [z]; exact List.mem_singleton.mpr rfl))]
  cases e : env[i]? with
  | none => rw [e] at h; cases h
  | some s =>
    rw [e] at h
    cases s with
    | io d => cases h
    | no => exact go _ e (fun d z => by cases z) h
    | fz d => exact go _ e (fun d z => by cases z) h
    | ow d => exact go _ e (fun d z => by cases z) h
theorem gds_nil : GDs X [] [] gNl := by
  refine ⟨_, pgs_nil, fun g O H σ env S vs ds env' Q hv y r h k => ?_⟩
  cases r with
  | nil =>
    obtain rfl := Option.some.inj h
    exact ⟨rfl, k σ ⟨rfl, fun _ _ => rfl⟩ y⟩
  | cons _ _ => cases h
theorem gds_cons {is js : List Nat} {t : Tg} {u : Tgs} (h1 : GD X a is t) (h2 : GDs X es js u) (hs : (assignEach (a :: es) X.env).map (·.2) = assign a X.env :: (assignEach es X.env).map (·.2) := by rfl) : GDs X (a :: es) (is ++ js) (gCs t u) := by
  obtain ⟨t1, a1, b1⟩ := h1.ex
  obtain ⟨t2, a2, b2⟩ := h2.ex
  refine ⟨_, pgs_cons a1 a2 hs, fun g O H σ env S vs ds env' Q hv y r h k => ?_⟩
  cases r with
  | nil => cases h
  | @cons v d vs ds r1 r2 =>
    have h' : (match t d env with
      | some e1 => u ds e1
      | none => none) = some env' := h
    cases e : t d env with
    | none => rw [e] at h'; cases h'
    | some e1 =>
      rw [e] at h'
      refine ⟨v, vs, rfl, b1 g O H σ env S v d e1 _ hv y r1 e fun σ1 c1 y1 => ?_⟩
      refine b2 g O H σ1 e1 S vs ds env' Q hv y1 r2 h' fun σ2 c2 y2 => k σ2 ⟨c2.1.trans c1.1, fun j hj => ?_⟩ y2
      rw [c2.2 j fun z => hj (List.mem_append_right _ z), c1.2 j fun z => hj (List.mem_append_left _ z)]
theorem gd_tup {is : List Nat} {t : Tgs} {n : Nat} {j} (hc : X.calm = true) (h : GDs X es is t) (hn : (assignEach es X.env).length = n := by rfl) (hst : (assignEach es X.env).findIdx? (·.1) = none := by rfl) : GD X (.Tuple es j pos) is (gTp n t) := by
  obtain ⟨t1, a1, b1⟩ := h.ex
  refine ⟨_, pg_tup hc a1 hn hst, fun g O H σ env S v d env' Q hv y r h k => ?_⟩
  cases r with
  | @tup q vs ds h1 h2 =>
    have h' : (if ds.length = n then t ds env else none) = some env' := h
    by_cases hn : ds.length = n
    · rw [if_pos hn] at h'
      exact ⟨_, vs, rfl, (by rcases h1 with h1 | h1; exact .inl h1.1; exact h1.sq H), by rw [h2.len]; exact hn, b1 g O H σ env S vs ds env' Q hv y h2 h' k⟩
    · rw [if_neg hn] at h'; cases h'
  | _ => cases h
/-- a, b = e -/
def sUnp (gt : Tg) (f : M Opd) : MS := fun e => match f e with
  | .ok r e' => match frz r e' with
    | some (d, e2) => match gt d e2 with
      | some e3 => .nx e3
      | none => .bad
    | none => .bad
  | .ex c e' => .ex c e'
  | .bad => .bad
theorem ds_unp {tg : Expr} {is : List Nat} {gt : Tg} (he : DE X W a fa) (hg : GD X tg is gt) (hs : swapsWithSole [tg] a pos.line X.env = pure false := by rfl) (hw : swappedStores [tg] a X.env = pure none := by rfl)
    (h1 : (assignEach [tg] X.env).map (·.2) = [assign tg X.env] := by rfl) : DS X W (.Assign [tg] a pos) (sUnp gt fa) := by
  obtain ⟨t, g1, g2⟩ := hg.ex
  refine PS.of (ps_asg he g1 hs hw h1) fun D σ H q => ?_
  obtain ⟨g, S, env, hv, x, k⟩ := tS_ask.mp q
  refine tD_st x ?_
  unfold sUnp at k
  cases e : fa env with
  | ok r e' =>
    rw [e] at k
    rintro v H' ⟨O, y⟩
    cases q : frz r e' with
    | none => simp only [q] at k; exact k.elim
    | some t =>
      obtain ⟨d, e2⟩ := t
      simp only [q] at k
      obtain ⟨O', y', rp, _⟩ := y.frz q
      cases q2 : gt d e2 with
      | none => simp only [q2] at k; exact k.elim
      | some e3 =>
        simp only [q2] at k
        exact g2 g O' H' σ e2 S v d e3 _ hv.ns y' rp q2 fun σ' _ z => k σ' H' ⟨O', z⟩
  | ex c e' => rw [e] at k; exact k
  | bad => rw [e] at k; exact k

/-! ### for -/
/-- what is walked gives these values, while the objects at Z stand -/
def ItOk (K : PySem.W.Frag) (g : Gx) (S Z : List (V × Opd)) (J : It) (ds : List D) : Prop := ∀ i H σ env O, EnvO K g O H σ env (Z ++ S) →
  (i < ds.length → J.go i H ∧ ∀ x H', J.yld i H x H' → ∃ d, ds[i]? = some d ∧ EnvO K g O H' σ env (Z ++ S) ∧ Rep K (fra g O) H' x d) ∧ (ds.length ≤ i → J.stop i H)
def tI (K : PySem.W.Frag) (mg : Str → Option Value) (W : WX) (f : M (List D)) : TI := fun σ H R => ∃ g S env, EnvOk K g H σ env S ∧ (match f env with
  | .ok ds e => ∀ J H' Z, VS Z → EnvOk K g H' σ e (Z ++ S) → (∀ S', ItOk K g S' Z J ds) → R J H'
  | .ex c e => ∀ C H', mg c = some (Value.ref C) → EnvOk K g H' σ e S → W (.ref C) none σ H'
  | .bad => False)
abbrev DI (X : Cx) (W : WX) (tg iter : Expr) (f : M (List D)) : Prop := PI X tg iter (tI X.K X.mg W f)
theorem PI.of {tg iter : Expr} {t t' : TI} (h : PI X tg iter t) (w : ∀ σ H R, t' σ H R → t σ H R) : PI X tg iter t' := ⟨fun p s σ H Q I q => h.run p s σ H Q I (w σ H Q q)⟩
def loopF (gt : Tg) (body : MS) : List D → Ev → F
  | [], e => .nx e
  | d :: ds, e => match gt d e with
    | none => .bad
    | some e1 => match body e1 with
      | .nx e2 => loopF gt body ds e2
      | .ct e2 => loopF gt body ds e2
      | .br e2 => .nx e2
      | .rt r e2 => .rt r e2
      | .ex c e2 => .ex c e2
      | .bad => .bad
def sFor (it : M (List D)) (gt : Tg) (body : MS) : MS := fun e => match it e with
  | .ok ds e' => loopF gt body ds e'
  | .ex c e' => .ex c e'
  | .bad => .bad
theorem vs_app {S Z : List (V × Opd)} (h1 : VS Z) (h2 : VS S) : VS (Z ++ S) := fun e he => (List.mem_append.mp he).elim (h1 e) (h2 e)
theorem drop_get {α : Type} {l : List α} {i : Nat} {d : α} (h : l[i]? = some d) : l.drop i = d :: l.drop (i + 1) := by
  obtain ⟨h1, h2⟩ := List.getElem?_eq_some_iff.mp h
  rw [List.drop_eq_getElem_cons h1, h2]
theorem ds_for {tg : Expr} {it : M (List D)} {is : List Nat} {gt : Tg} (C : At k X W) (hi : DI X W tg a it) (hg : GD X tg is gt) (hb : DSs X W sa ma) (hs : ∀ x, foldedSetIterable a X.env x = pure x := by intro _; rfl) :
    DS X W (.For tg a sa [] pos) (sFor it gt ma) := by
  obtain ⟨t, g1, g2⟩ := hg.ex
  refine PS.of (ps_for C.hp C.calm hi g1 hb hs) fun D σ H q => ?_
  obtain ⟨g, S, env, hv, x, k⟩ := tS_ask.mp q
  unfold sFor at k
  refine ⟨g, S, env, x, ?_⟩
  cases e : it env with
  | bad => simp only [e] at k; exact k
  | ex c e' => simp only [e] at k; exact fun C H' => k C σ H'
  | ok ds e' =>
    simp only [e] at k
    intro J H1 Z hZ x1 hJ
    refine ⟨fun i m σ H => m = ds.length - i ∧ i ≤ ds.length ∧ ∃ env, EnvOk X.K g H σ env (Z ++ S) ∧ askS X.K X.mg W g S D (loopF gt ma (ds.drop i) env), ⟨ds.length, by simp, Nat.zero_le _, e', x1, k⟩, ?_⟩
    rintro i m σ H ⟨rfl, hi, en, ⟨O, y⟩, ask⟩
    obtain ⟨j1, j2⟩ := hJ S i H σ en O y
    by_cases hlt : i < ds.length
    · obtain ⟨go, yl⟩ := j1 hlt
      refine .inr ⟨go, fun σ' H' => ∃ env, EnvOk X.K g H' σ' env (Z ++ S) ∧ askS X.K X.mg W g S D (loopF gt ma (ds.drop (i + 1)) env), fun σ' H' ⟨en', p, q⟩ => ⟨ds.length - (i + 1), by omega, rfl, hlt, en', p, q⟩, fun x H2 hy => ?_⟩
      obtain ⟨d, hd, y2, rp⟩ := yl x H2 hy
      rw [drop_get hd] at ask
      unfold loopF at ask
      cases q : gt d en with
      | none => simp only [q] at ask; exact ask.elim
      | some e1 =>
        simp only [q] at ask
        refine g2 g O H2 σ en (Z ++ S) x d e1 _ (vs_app hZ hv).ns y2 rp q fun σ2 _ y3 => ?_
        refine tS_ask.mpr ⟨g, Z ++ S, e1, vs_app hZ hv, ⟨O, y3⟩, ?_⟩
        cases qb : ma e1 with
        | nx e2 => simp only [qb] at ask; exact fun σ' H' w => ⟨e2, w, ask⟩
        | ct e2 => simp only [qb] at ask; exact fun σ' H' w => ⟨e2, w, ask⟩
        | br e2 => simp only [qb] at ask; exact fun σ' H' w => ask σ' H' (by obtain ⟨O', w⟩ := w; exact ⟨O', w.drop⟩)
        | rt r e2 => simp only [qb] at ask; exact fun v σ' H' w => ask v σ' H' (by obtain ⟨O', w⟩ := w; exact w.under)
        | ex c e2 => simp only [qb] at ask; exact fun C σ' H' hc w => ask C σ' H' hc (by obtain ⟨O', w⟩ := w; exact ⟨O', w.drop⟩)
        | bad => simp only [qb] at ask; exact ask.elim
    · have ei : i = ds.length := by omega
      refine .inl ⟨j2 (by omega), ?_⟩
      rw [ei, List.drop_length] at ask
      exact ask σ H ⟨O, y.drop⟩
/-! ### while -/
def loopW (c : M Bool) (body : MS) : Nat → Ev → F
  | 0, _ => .bad
  | n + 1, e => match c e with
    | .ok false e1 => .nx e1
    | .ok true e1 => match body e1 with
      | .nx e2 => loopW c body n e2
      | .ct e2 => loopW c body n e2
      | .br e2 => .nx e2
      | .rt r e2 => .rt r e2
      | .ex c e2 => .ex c e2
      | .bad => .bad
    | .ex c e1 => .ex c e1
    | .bad => .bad
def sWhile (n : Nat) (c : M Bool) (body : MS) : MS := loopW c body n
theorem ds_while {n : Nat} (C : At k X W) (hc : DT X W c mc) (hb : DSs X W sa ma) : DS X W (.While c sa [] pos) (sWhile n mc ma) := PS.of (ps_while C.hp hc hb) fun D σ H q => by
  obtain ⟨g, S, env, hv, x, k⟩ := tS_ask.mp q
  refine ⟨fun m σ H => ∃ env, EnvOk X.K g H σ env S ∧ askS X.K X.mg W g S D (loopW mc ma m env), ⟨n, env, x, k⟩, ?_⟩
  rintro m σ H ⟨en, y, ask⟩
  cases m with
  | zero => exact ask.elim
  | succ m =>
    unfold loopW at ask
    refine tT_ask.mpr ⟨g, S, en, y, ?_⟩
    cases e : mc en with
    | bad => simp only [e] at ask; exact ask
    | ex c e1 => simp only [e] at ask; exact fun C H' => ask C σ H'
    | ok b e1 =>
      simp only [e] at ask
      intro H1 y1
      cases b with
      | false => exact ask σ H1 y1
      | true =>
        rw [if_pos rfl]
        refine ⟨fun σ' H' => ∃ env, EnvOk X.K g H' σ' env S ∧ askS X.K X.mg W g S D (loopW mc ma m env), fun σ' H' z => ⟨m, Nat.lt_succ_self _, z⟩, ?_⟩
        refine tS_ask.mpr ⟨g, S, e1, hv, y1, ?_⟩
        dsimp only at ask
        cases qb : ma e1 with
        | nx e2 => simp only [qb] at ask; exact fun σ' H' w => ⟨e2, w, ask⟩
        | ct e2 => simp only [qb] at ask; exact fun σ' H' w => ⟨e2, w, ask⟩
        | br e2 => simp only [qb] at ask; exact ask
        | rt r e2 => simp only [qb] at ask; exact ask
        | ex c e2 => simp only [qb] at ask; exact ask
        | bad => simp only [qb] at ask; exact ask.elim
end
end DL

/-! DL9: what is walked; comprehensions. -/
namespace DL
open PySem PySem.Spec PyProof.Rows L2
section
variable {K : PySem.W.Frag} {A : Addr → Prop} {H : Hp} {v : V}
theorem rep_lst {ds : List D} (h : Rep K A H v (.lst ds)) : ∃ a vs, v = .ref a ∧ SqL K H a vs ∧ RepL K A H vs ds := by
  obtain ⟨a, vs, e, h1, h2⟩ := h.p
  exact ⟨a, vs, e, SqL.of h1, h2⟩
theorem rep_scr {ds : List D} (h : Rep K A H v (.scr ds)) : ∃ a vs, v = .ref a ∧ SqL K H a vs ∧ RepL K A H vs ds := h.p
theorem rep_tupI {ds : List D} (h : Rep K A H v (.tup ds)) : ∃ a vs, v = .ref a ∧ SqT K H a vs ∧ RepL K A H vs ds := h.p
theorem RepL.get : ∀ {vs : List V} {ds : List D} {i : Nat} {x : V}, RepL K A H vs ds → vs[i]? = some x → ∃ d, ds[i]? = some d ∧ Rep K A H x d
  | _, _, _, _, .nil, h => by simp at h
  | _, _, 0, _, .cons r _, h => by
    obtain rfl := Option.some.inj (by simpa using h)
    exact ⟨_, rfl, r⟩
  | _, _, i + 1, _, .cons _ t, h => by
    obtain ⟨d, e, r⟩ := RepL.get (i := i) t (by simpa using h)
    exact ⟨d, by simpa using e, r⟩
theorem RepL.get' : ∀ {vs : List V} {ds : List D} {i : Nat} {d : D}, RepL K A H vs ds → ds[i]? = some d → ∃ x, vs[i]? = some x ∧ Rep K A H x d
  | _, _, _, _, .nil, h => by simp at h
  | _, _, 0, _, .cons r _, h => by
    obtain rfl := Option.some.inj (by simpa using h)
    exact ⟨_, rfl, r⟩
  | _, _, i + 1, _, .cons _ t, h => by
    obtain ⟨d, e, r⟩ := RepL.get' (i := i) t (by simpa using h)
    exact ⟨d, by simpa using e, r⟩
variable {g : Gx} {S : List (V × Opd)}
theorem it_list {a : Addr} {ds : List D} : ItOk K g S [(.ref a, .val (.lst ds))] (Itl K a) ds := fun i H σ env O x => by
  obtain ⟨b, vs, e, h1, h2⟩ := rep_lst x.st.1
  obtain rfl := V.ref.inj e
  refine ⟨fun hi => ⟨?_, fun y H' hy => ?_⟩, fun hi => ⟨vs, h1, by rw [h2.len]; exact hi⟩⟩
  · exact ⟨vs, vs[i]'(by rw [h2.len]; exact hi), h1, by rw [List.getElem?_eq_getElem]⟩
  · obtain ⟨rfl, q⟩ := hy
    obtain ⟨d, e, r⟩ := h2.get (q vs h1)
    exact ⟨d, e, x, r⟩
theorem it_scr {a : Addr} {ds : List D} : ItOk K g S [(.ref a, .val (.scr ds))] (Itl K a) ds := fun i H σ env O x => by
  obtain ⟨b, vs, e, h1, h2⟩ := rep_scr x.st.1
  obtain rfl := V.ref.inj e
  refine ⟨fun hi => ⟨?_, fun y H' hy => ?_⟩, fun hi => ⟨vs, h1, by rw [h2.len]; exact hi⟩⟩
  · exact ⟨vs, vs[i]'(by rw [h2.len]; exact hi), h1, by rw [List.getElem?_eq_getElem]⟩
  · obtain ⟨rfl, q⟩ := hy
    obtain ⟨d, e, r⟩ := h2.get (q vs h1)
    exact ⟨d, e, x, r⟩
theorem it_tup {a : Addr} {ds : List D} : ItOk K g S [(.ref a, .val (.tup ds))] (Itt K a) ds := fun i H σ env O x => by
  obtain ⟨b, vs, e, h1, h2⟩ := rep_tupI x.st.1
  obtain rfl := V.ref.inj e
  refine ⟨fun hi => ⟨?_, fun y H' hy => ?_⟩, fun hi => ⟨vs, h1, by rw [h2.len]; exact hi⟩⟩
  · exact ⟨vs, vs[i]'(by rw [h2.len]; exact hi), h1, by rw [List.getElem?_eq_getElem]⟩
  · obtain ⟨rfl, q⟩ := hy
    obtain ⟨d, e, r⟩ := h2.get (q vs h1)
    exact ⟨d, e, x, r⟩
/-- the signs of a text -/
def signs (x : Str) : List D := x.cps.toList.map fun c => .str ⟨#[c]⟩
theorem it_str {x : Str} : ItOk K g S [] (Its x) (signs x) := fun i H σ env O y => by
  have hl : (signs x).length = x.cps.size := by unfold signs; rw [List.length_map, Array.length_toList]
  refine ⟨fun hi => ⟨by rw [hl] at hi; exact hi, fun v H' hy => ?_⟩, fun hi => by rw [hl] at hi; exact hi⟩
  obtain ⟨rfl, c, hc, rfl⟩ := hy
  refine ⟨.str ⟨#[c]⟩, ?_, y, .str _⟩
  unfold signs
  rw [List.getElem?_map, Array.getElem?_toList, hc]
  rfl
def rngD (lo c : Int) (n : Nat) : List D := (List.range n).map fun (i : Nat) => .int (lo + (i : Int) * c)
theorem rngD_len {lo c : Int} {n : Nat} : (rngD lo c n).length = n := by unfold rngD; rw [List.length_map, List.length_range]
theorem rngD_get {lo c : Int} {n i : Nat} (h : i < n) : (rngD lo c n)[i]? = some (.int (lo + (i : Int) * c)) := by
  unfold rngD
  rw [List.getElem?_map, List.getElem?_range h]
  rfl
theorem it_rng {lo : Int} {n : Nat} : ItOk K g S [] (Itr lo n) (rngD lo 1 n) := fun i H σ env O y => by
  refine ⟨fun hi => ?_, fun hi => by rw [rngD_len] at hi; exact hi⟩
  rw [rngD_len] at hi
  refine ⟨hi, fun v H' hy => ?_⟩
  obtain ⟨rfl, rfl⟩ := hy
  exact ⟨_, rngD_get hi, y, by rw [Int.mul_one]; exact .int _⟩
theorem it_rngC {lo c : Int} {n : Nat} : ItOk K g S [] (Itc lo c n) (rngD lo c n) := fun i H σ env O y => by
  refine ⟨fun hi => ?_, fun hi => by rw [rngD_len] at hi; exact hi⟩
  rw [rngD_len] at hi
  refine ⟨hi, fun v H' hy => ?_⟩
  obtain ⟨rfl, rfl⟩ := hy
  exact ⟨_, rngD_get hi, y, .int _⟩
/-- a new tuple comes -/
theorem new_tup {O : Addr → Option Role} {σ : L2.St} {env : Ev} {Z : List (V × Opd)} (x : EnvO K g O H σ env Z) {T : Addr} (hT : H T = none) {vs : List V} {ds : List D} (r : RepL K (fra g O) H vs ds) :
    EnvO K g O (upd H T (.tup vs)) σ env Z ∧ Rep K (fra g O) (upd H T (.tup vs)) (.ref T) (.tup ds) := by
  have m : ∀ a o, H a = some o → upd H T (.tup vs) a = some o := fun a o e => by rw [upd_ne (ne_of_none e hT)]; exact e
  exact ⟨x.move m, .tup (.inl ⟨.inl upd_same, fun z => by
    obtain ⟨o, e⟩ := x.trkA T z
    rw [hT] at e; cases e⟩) (r.move (fun a o q _ => m a o q) fun a z => .inl z)⟩
def enumD (ds : List D) : List D := (List.range ds.length).map fun (i : Nat) => .tup [.int (i : Int), ds.getD i .non]
theorem enumD_len {ds : List D} : (enumD ds).length = ds.length := by unfold enumD; rw [List.length_map, List.length_range]
theorem it_enum {a : Addr} {ds : List D} : ItOk K g S [(.ref a, .val (.lst ds))] (Ite K a) (enumD ds) := fun i H σ env O x => by
  obtain ⟨b, vs, e, h1, h2⟩ := rep_lst x.st.1
  obtain rfl := V.ref.inj e
  refine ⟨fun hi => ?_, fun hi => ⟨vs, h1, by rw [h2.len]; rw [enumD_len] at hi; exact hi⟩⟩
  rw [enumD_len] at hi
  refine ⟨⟨vs, vs[i]'(by rw [h2.len]; exact hi), h1, by rw [List.getElem?_eq_getElem]⟩, fun y H' hy => ?_⟩
  obtain ⟨T, z, rfl, hT, rfl, q⟩ := hy
  obtain ⟨d, e, r⟩ := h2.get (q vs h1)
  obtain ⟨n1, n2⟩ := new_tup x hT (.cons (.int (i : Nat)) (.cons r .nil))
  refine ⟨_, ?_, n1, n2⟩
  unfold enumD
  rw [List.getElem?_map, List.getElem?_range hi, Option.map_some, List.getD_eq_getElem?_getD, e]
  rfl
theorem it_enumS {a : Addr} {ds : List D} : ItOk K g S [(.ref a, .val (.scr ds))] (Ite K a) (enumD ds) := fun i H σ env O x => by
  obtain ⟨b, vs, e, h1, h2⟩ := rep_scr x.st.1
  obtain rfl := V.ref.inj e
  refine ⟨fun hi => ?_, fun hi => ⟨vs, h1, by rw [h2.len]; rw [enumD_len] at hi; exact hi⟩⟩
  rw [enumD_len] at hi
  refine ⟨⟨vs, vs[i]'(by rw [h2.len]; exact hi), h1, by rw [List.getElem?_eq_getElem]⟩, fun y H' hy => ?_⟩
  obtain ⟨T, z, rfl, hT, rfl, q⟩ := hy
  obtain ⟨d, e, r⟩ := h2.get (q vs h1)
  obtain ⟨n1, n2⟩ := new_tup x hT (.cons (.int (i : Nat)) (.cons r .nil))
  refine ⟨_, ?_, n1, n2⟩
  unfold enumD
  rw [List.getElem?_map, List.getElem?_range hi, Option.map_some, List.getD_eq_getElem?_getD, e]
  rfl
def zipD (ds es : List D) : List D := (ds.zip es).map fun p => .tup [p.1, p.2]
theorem it_zip {a b : Addr} {ds es : List D} : ItOk K g S [(.ref b, .val (.lst es)), (.ref a, .val (.lst ds))] (Itz K a b) (zipD ds es) := fun i H σ env O x => by
  obtain ⟨b', us, e, g1, g2⟩ := rep_lst x.st.1
  obtain rfl := V.ref.inj e
  obtain ⟨a', vs, e, h1, h2⟩ := rep_lst x.st.2.1
  obtain rfl := V.ref.inj e
  have hl : (zipD ds es).length = min ds.length es.length := by unfold zipD; rw [List.length_map, List.length_zip]
  refine ⟨fun hi => ?_, fun hi => ⟨vs, us, h1, g1, by rw [h2.len, g2.len]; rw [hl] at hi; omega⟩⟩
  rw [hl] at hi
  refine ⟨⟨vs, us, vs[i]'(by rw [h2.len]; omega), us[i]'(by rw [g2.len]; omega), h1, g1, by rw [List.getElem?_eq_getElem], by rw [List.getElem?_eq_getElem]⟩, fun y H' hy => ?_⟩
  obtain ⟨T, z, z', rfl, hT, rfl, q, q'⟩ := hy
  obtain ⟨d, e, r⟩ := h2.get (q vs h1)
  obtain ⟨d', e', r'⟩ := g2.get (q' us g1)
  obtain ⟨n1, n2⟩ := new_tup x hT (.cons r (.cons r' .nil))
  refine ⟨_, ?_, n1, n2⟩
  unfold zipD
  rw [List.getElem?_map, List.getElem?_zip_eq_some (z := (d, d')) |>.mpr ⟨e, e'⟩]
  rfl
end
section
variable {X : Cx} {W : WX} {tg a b c : Expr} {es : List Expr} {fa fb fc : M Opd} {fs : M (List Opd)} {pos p : Pos} {x : Str} {k : Nat}
theorem vs1 {v : V} {d : D} : VS [(v, .val d)] := fun e he => by
  obtain rfl := List.mem_singleton.mp he
  exact ⟨d, rfl⟩
/-- the things of a list, a tuple, a text -/
def iSeq (f : M Opd) : M (List D) := f.bind fun r => fun env => match frz r env with
  | some (.lst ds, e) => .ok ds e
  | some (.tup ds, e) => .ok ds e
  | some (.scr ds, e) => .ok ds e
  | some (.str s, e) => .ok (signs s) e
  | _ => .bad
theorem PI.or {iter : Expr} {t t' : TI} (h : PI X tg iter t) (h' : PI X tg iter t') : PI X tg iter (fun σ H R => t σ H R ∨ t' σ H R) := ⟨fun p s σ H Q I q => q.elim (h.run p s σ H Q I) (h'.run p s σ H Q I)⟩
def askI (K : PySem.W.Frag) (mg : Str → Option Value) (W : WX) (g : Gx) (S : List (V × Opd)) (σ : L2.St) (R : It → Hp → Prop) : DL.R (List D) → Prop
  | .ok ds e => ∀ J H' Z, VS Z → EnvOk K g H' σ e (Z ++ S) → (∀ S', ItOk K g S' Z J ds) → R J H'
  | .ex c e => ∀ C H', mg c = some (Value.ref C) → EnvOk K g H' σ e S → W (.ref C) none σ H'
  | .bad => False
theorem tI_ask {K : PySem.W.Frag} {mg : Str → Option Value} {f : M (List D)} {σ : L2.St} {H : Hp} {R : It → Hp → Prop} : tI K mg W f σ H R ↔ ∃ g S env, EnvOk K g H σ env S ∧ askI K mg W g S σ R (f env) := by
  constructor
  · rintro ⟨g, S, env, x, k⟩
    refine ⟨g, S, env, x, ?_⟩
    generalize f env = r at k
    cases r <;> exact k
  · rintro ⟨g, S, env, x, k⟩
    refine ⟨g, S, env, x, ?_⟩
    generalize f env = r at k
    cases r <;> exact k
theorem di_seq (h : DE X W a fa) : DI X W tg a (iSeq fa) := PI.of (PI.or (pi_list (tg := tg) h) (PI.or (pi_tup (tg := tg) h) (pi_str (tg := tg) h))) fun σ H R q => by
  obtain ⟨g, S, env, x, k⟩ := tI_ask.mp q
  unfold iSeq M.bind at k
  cases e : fa env with
  | bad => rw [e] at k; exact k.elim
  | ex c e' => rw [e] at k; exact .inl (tD_ask.mpr ⟨g, S, env, x, by rw [e]; exact k⟩)
  | ok r e' =>
    rw [e] at k
    dsimp only at k
    cases q : frz r e' with
    | none => rw [q] at k; exact k.elim
    | some t =>
      obtain ⟨d, e2⟩ := t
      rw [q] at k
      cases d with
      | lst ds =>
        refine .inl (tD_ask.mpr ⟨g, S, env, x, ?_⟩)
        rw [e]
        rintro v H' ⟨O, y⟩
        obtain ⟨O', y', rp, _⟩ := y.frz q
        obtain ⟨ad, vs, rfl, h1, _⟩ := rep_lst rp
        exact ⟨ad, rfl, ⟨vs, h1⟩, k _ _ [(.ref ad, .val (.lst ds))] vs1 ⟨O', y'.push rp⟩ fun S' => it_list⟩
      | scr ds =>
        refine .inl (tD_ask.mpr ⟨g, S, env, x, ?_⟩)
        rw [e]
        rintro v H' ⟨O, y⟩
        obtain ⟨O', y', rp, _⟩ := y.frz q
        obtain ⟨ad, vs, rfl, h1, _⟩ := rep_scr rp
        exact ⟨ad, rfl, ⟨vs, h1⟩, k _ _ [(.ref ad, .val (.scr ds))] vs1 ⟨O', y'.push rp⟩ fun S' => it_scr⟩
      | tup ds =>
        refine .inr (.inl (tD_ask.mpr ⟨g, S, env, x, ?_⟩))
        rw [e]
        rintro v H' ⟨O, y⟩
        obtain ⟨O', y', rp, _⟩ := y.frz q
        obtain ⟨ad, vs, rfl, h1, _⟩ := rep_tupI rp
        exact ⟨ad, rfl, ⟨vs, h1⟩, k _ _ [(.ref ad, .val (.tup ds))] vs1 ⟨O', y'.push rp⟩ fun S' => it_tup⟩
      | str s =>
        refine .inr (.inr (tD_ask.mpr ⟨g, S, env, x, ?_⟩))
        rw [e]
        rintro v H' ⟨O, y⟩
        obtain ⟨O', y', rp, _⟩ := y.frz q
        cases rp
        exact ⟨s, rfl, k _ _ [] (fun e he => nomatch he) ⟨O', y'⟩ fun S' => it_str⟩
      | non => exact k.elim
      | bl _ => exact k.elim
      | int _ => exact k.elim
      | dct _ => exact k.elim
/-- range(..) -/
def rangeD1 : List D → Option (List D)
  | [.int j] => if fit62 j = true then some (rngD 0 1 j.toNat) else none
  | _ => none
def rangeD2 : List D → Option (List D)
  | [.int i, .int j] => if (fit62 i && fit62 j) = true then some (rngD i 1 (j - i).toNat) else none
  | _ => none
def cR3 (i j c : Int) : Bool := fit62 i && fit62 j && (Nat.blt c.natAbs.log2 30 && !(c == 0))
theorem cR3_of {i j c : Int} (h : cR3 i j c = true) : (c ≠ 0 ∧ c.natAbs < 1073741824) ∧ Builtin.Range.small i j c = true ∧ 0 ≤ Builtin.Range.rangeSize i j c := by
  unfold cR3 at h
  simp only [Bool.and_eq_true, Bool.not_eq_true', beq_eq_false_iff_ne] at h
  obtain ⟨⟨h1, h2⟩, h3, h4⟩ := h
  have h1 := fit62_of h1
  have h2 := fit62_of h2
  have h3 := Nat.blt_eq.mp h3
  have h5 : c.natAbs < 1073741824 := (Nat.log2_lt (by omega)).mp h3
  have sz : 0 ≤ Builtin.Range.rangeSize i j c ∧ Builtin.Range.rangeSize i j c < 2 ^ 63 := by
    unfold Builtin.Range.rangeSize
    split
    · split
      · have a := Int.ediv_nonneg (a := j - i - 1) (b := c) (by omega) (by omega)
        have b := Int.ediv_le_self (a := j - i - 1) c (by omega)
        omega
      · omega
    · split
      · have a := Int.ediv_nonneg (a := i - j - 1) (b := -c) (by omega) (by omega)
        have b := Int.ediv_le_self (a := i - j - 1) (-c) (by omega)
        omega
      · omega
  refine ⟨⟨h4, h5⟩, ?_, sz.1⟩
  unfold Builtin.Range.small
  simp only [Builtin.Range.rangeFitsLong, Bool.and_eq_true, Bool.or_eq_true, decide_eq_true_eq, beq_iff_eq]
  refine ⟨⟨⟨⟨by omega, by omega⟩, by omega⟩, by omega⟩, .inr ?_⟩
  split <;> simp only [Bool.and_eq_true, decide_eq_true_eq] <;> omega
def rangeD3 : List D → Option (List D)
  | [.int i, .int j, .int c] => if cR3 i j c = true then some (rngD i c (Builtin.Range.rangeSize i j c).toNat) else none
  | _ => none
def iRange (f : List D → Option (List D)) (fs : M (List Opd)) : M (List D) := fs.bind fun rs => fun env => match peeks rs env with
  | some ds => match f ds with
    | some l => .ok l env
    | none => .bad
  | none => .bad
theorem prepL_nil {K : PySem.W.Frag} {A : Addr → Prop} {H : Hp} {vs : List V} (h : PRepL K A H vs []) : vs = [] := by cases h; rfl
theorem prepL_cons {K : PySem.W.Frag} {A : Addr → Prop} {H : Hp} {vs : List V} {d : D} {ds : List D} (h : PRepL K A H vs (d :: ds)) : ∃ v us, vs = v :: us ∧ PRep K A H v d ∧ PRepL K A H us ds := by
  cases h with
  | cons a b => exact ⟨_, _, rfl, a, b⟩
theorem range_imp {f : List D → Option (List D)} {σ : L2.St} {H : Hp} {R : It → Hp → Prop} {r : List V → Hp → Prop} (q : tI X.K X.mg W (iRange f fs) σ H R)
    (hr : ∀ vs ds l H A, PRepL X.K A H vs ds → f ds = some l → (∀ J, (∀ g S, ItOk X.K g S [] J l) → R J H) → r vs H) : tDs X.K X.mg W fs σ H r := by
  obtain ⟨g, S, env, x, k⟩ := tI_ask.mp q
  refine tDs_then x (P := askI X.K X.mg W g S σ R) (fun c e z => z) (fun z => z) k fun rs e vs H' hl y z => ?_
  obtain ⟨O, y⟩ := y
  obtain ⟨T, e1, e2⟩ := pushes_app (vs := vs) (rs := rs) (S := S) hl
  rw [e1] at y
  cases p : peeks rs e with
  | none => simp only [p] at z; exact z.elim
  | some ds =>
    simp only [p] at z
    have q1 := e2 _ _ _ _ _ _ _ y p
    cases ef : f ds with
    | none => simp only [ef] at z; exact z.elim
    | some l =>
      simp only [ef] at z
      exact hr vs ds l H' _ q1 ef fun J hJ => z J H' [] (fun e he => nomatch he) ⟨O, y.drop⟩ fun S' => hJ g S'
theorem if_some {α : Type} {c : Bool} {a b : α} (h : (if c = true then some a else none) = some b) : c = true ∧ a = b := by
  cases c with
  | true => exact ⟨rfl, Option.some.inj h⟩
  | false => cases h
theorem di_range1 (hg : Gl X "range") (hm : X.mg "range" = none) (ha : DA X W [a] fs) (hs : starEach [a] X.env = [(false, eval a X.env)] := by rfl) : DI X W tg (.Call (.Name "range" p) [a] [] pos) (iRange rangeD1 fs) := PI.of (pi_range1 hg hm ha hs) fun σ H R q => by
  refine range_imp (r := fun vs H => ∃ j : Int, vs = [.int j] ∧ -(2 ^ 62) ≤ j ∧ j < 2 ^ 62 ∧ R (Itr 0 j.toNat) H) q fun vs ds l H A pr h k => ?_
  unfold rangeD1 at h
  split at h <;> try (cases h; done)
  rename_i j
  obtain ⟨c, rfl⟩ := if_some h
  obtain ⟨v, us, rfl, p1, p2⟩ := prepL_cons pr
  obtain rfl := prep_int p1
  obtain rfl := prepL_nil p2
  exact ⟨j, rfl, (fit62_of c).1, (fit62_of c).2, k _ fun g S => it_rng⟩
theorem di_range2 (hg : Gl X "range") (hm : X.mg "range" = none) (ha : DA X W [a, b] fs) (hs : starEach [a, b] X.env = [(false, eval a X.env), (false, eval b X.env)] := by rfl) (hs2 : starEach [b] X.env = [(false, eval b X.env)] := by rfl) :
    DI X W tg (.Call (.Name "range" p) [a, b] [] pos) (iRange rangeD2 fs) := PI.of (pi_range2 hg hm ha hs hs2) fun σ H R q => by
  refine range_imp (r := fun vs H => ∃ i j : Int, vs = [.int i, .int j] ∧ (-(2 ^ 62) ≤ i ∧ i < 2 ^ 62 ∧ -(2 ^ 62) ≤ j ∧ j < 2 ^ 62) ∧ R (Itr i (j - i).toNat) H) q fun vs ds l H A pr h k => ?_
  unfold rangeD2 at h
  split at h <;> try (cases h; done)
  rename_i i j
  obtain ⟨c, rfl⟩ := if_some h
  obtain ⟨c1, c2⟩ := Bool.and_eq_true_iff.mp c
  obtain ⟨v, us, rfl, p1, p2⟩ := prepL_cons pr
  obtain ⟨v2, us2, rfl, p3, p4⟩ := prepL_cons p2
  obtain rfl := prep_int p1
  obtain rfl := prep_int p3
  obtain rfl := prepL_nil p4
  exact ⟨i, j, rfl, ⟨(fit62_of c1).1, (fit62_of c1).2, (fit62_of c2).1, (fit62_of c2).2⟩, k _ fun g S => it_rng⟩
theorem di_range3 (hg : Gl X "range") (hm : X.mg "range" = none) (ha : DA X W [a, b, c] fs) (hs : starEach [a, b, c] X.env = (false, eval a X.env) :: starEach [b, c] X.env := by rfl) (hpl : (backTo pos (starEach [b, c] X.env)).any (·.1) = false := by rfl) :
    DI X W tg (.Call (.Name "range" p) [a, b, c] [] pos) (iRange rangeD3 fs) := PI.of (pi_range3 hg hm ha hs hpl) fun σ H R q => by
  refine range_imp (r := fun vs H => ∃ (i j c : Int) (n : Nat), vs = [.int i, .int j, .int c] ∧ RgC i j c n ∧ R (Itc i c n) H) q fun vs ds l H A pr h k => ?_
  unfold rangeD3 at h
  split at h <;> try (cases h; done)
  rename_i i j c
  obtain ⟨cc, rfl⟩ := if_some h
  have cc := cR3_of cc
  obtain ⟨v, us, rfl, p1, p2⟩ := prepL_cons pr
  obtain ⟨v2, us2, rfl, p3, p4⟩ := prepL_cons p2
  obtain ⟨v3, us3, rfl, p5, p6⟩ := prepL_cons p4
  obtain rfl := prep_int p1
  obtain rfl := prep_int p3
  obtain rfl := prep_int p5
  obtain rfl := prepL_nil p6
  exact ⟨i, j, c, (Builtin.Range.rangeSize i j c).toNat, rfl, ⟨cc.1.1, cc.1.2, cc.2.1, (Int.toNat_of_nonneg cc.2.2).symm⟩, k _ fun g S => it_rngC⟩
/-- what is walked is made of frozen values -/
def iFrz (f : List D → Option (List D)) (fs : M (List Opd)) : M (List D) := fs.bind fun rs => fun env => match frzs rs env with
  | some (ds, e) => match f ds with
    | some l => .ok l e
    | none => .bad
  | none => .bad
def enumF : List D → Option (List D)
  | [.lst ds] => some (enumD ds)
  | [.scr ds] => some (enumD ds)
  | _ => none
def zipF : List D → Option (List D)
  | [.lst ds, .lst es] => some (zipD ds es)
  | _ => none
theorem frz_imp {f : List D → Option (List D)} {σ : L2.St} {H : Hp} {R : It → Hp → Prop} {r : List V → Hp → Prop} (q : tI X.K X.mg W (iFrz f fs) σ H R)
    (hr : ∀ vs ds l H A, RepL X.K A H vs ds → f ds = some l → (∀ J Z, VS Z → (∀ g S, ItOk X.K g S Z J l) → (∀ g O σ e S, A = fra g O → EnvO X.K g O H σ e S → EnvO X.K g O H σ e (Z ++ S)) → R J H) → r vs H) : tDs X.K X.mg W fs σ H r := by
  obtain ⟨g, S, env, x, k⟩ := tI_ask.mp q
  refine tDs_then x (P := askI X.K X.mg W g S σ R) (fun c e z => z) (fun z => z) k fun rs e vs H' hl y z => ?_
  obtain ⟨O, y⟩ := y
  cases p : frzs rs e with
  | none => simp only [p] at z; exact z.elim
  | some t =>
    obtain ⟨ds, e2⟩ := t
    simp only [p] at z
    obtain ⟨O', y', rl, _⟩ := y.frzs hl p
    cases ef : f ds with
    | none => simp only [ef] at z; exact z.elim
    | some l =>
      simp only [ef] at z
      exact hr vs ds l H' _ rl ef fun J Z hZ hJ hE => z J H' Z hZ ⟨O', hE g O' σ e2 S rfl y'⟩ fun S' => hJ g S'
theorem di_enum {elts : List Expr} {kk : Nat} {tpos : Pos} (hg : Gl X "enumerate") (hm : X.mg "enumerate" = none) (ha : DA X W [a] fs) (hs : starEach [a] X.env = [(false, eval a X.env)] := by rfl) :
    DI X W (.Tuple elts kk tpos) (.Call (.Name "enumerate" p) [a] [] pos) (iFrz enumF fs) := PI.of (pi_enum hg hm ha hs) fun σ H R q => by
  refine frz_imp (r := fun vs H => ∃ a xs, vs = [.ref a] ∧ SqL X.K H a xs ∧ R (Ite X.K a) H) q fun vs ds l H A pr h k => ?_
  unfold enumF at h
  split at h <;> try (cases h; done)
  · rename_i ds
    obtain rfl := Option.some.inj h
    cases pr with
    | @cons v d vs ds r1 r2 =>
      cases r2
      obtain ⟨ad, us, rfl, h1, h2⟩ := rep_lst r1
      refine ⟨ad, us, rfl, h1, k _ [(.ref ad, .val (.lst _))] vs1 (fun g S => it_enum) fun g O σ e S hA y => ?_⟩
      subst hA
      exact y.push r1
  · rename_i ds
    obtain rfl := Option.some.inj h
    cases pr with
    | @cons v d vs ds r1 r2 =>
      cases r2
      obtain ⟨ad, us, rfl, h1, h2⟩ := rep_scr r1
      refine ⟨ad, us, rfl, h1, k _ [(.ref ad, .val (.scr _))] vs1 (fun g S => it_enumS) fun g O σ e S hA y => ?_⟩
      subst hA
      exact y.push r1
theorem di_zip {elts : List Expr} {kk : Nat} {tpos : Pos} (hg : Gl X "zip") (hm : X.mg "zip" = none) (ha : DA X W [a, b] fs) (hs : starEach [a, b] X.env = (false, eval a X.env) :: starEach [b] X.env := by rfl) (hpl : (backTo pos (starEach [b] X.env)).any (·.1) = false := by rfl) :
    DI X W (.Tuple elts kk tpos) (.Call (.Name "zip" p) [a, b] [] pos) (iFrz zipF fs) := PI.of (pi_zip hg hm ha hs hpl) fun σ H R q => by
  refine frz_imp (r := fun vs H => ∃ a b xs ys, vs = [.ref a, .ref b] ∧ SqL X.K H a xs ∧ SqL X.K H b ys ∧ R (Itz X.K a b) H) q fun vs ds l H A pr h k => ?_
  unfold zipF at h
  split at h <;> try (cases h; done)
  rename_i ds es
  obtain rfl := Option.some.inj h
  cases pr with
  | @cons v d vs ds r1 r2 =>
    cases r2 with
    | @cons v2 d2 vs2 ds2 r3 r4 =>
      cases r4
      obtain ⟨ad, us, rfl, h1, h2⟩ := rep_lst r1
      obtain ⟨bd, ws, rfl, h3, h4⟩ := rep_lst r3
      refine ⟨ad, bd, us, ws, rfl, h1, h3, k _ [(.ref bd, .val (.lst _)), (.ref ad, .val (.lst _))] (fun e he => ?_) (fun g S => it_zip) fun g O σ e S hA y => ?_⟩
      · rcases List.mem_cons.mp he with rfl | he
        · exact ⟨_, rfl⟩
        · rw [List.mem_singleton.mp he]; exact ⟨_, rfl⟩
      · subst hA
        exact (y.push r1).push r3
end
end DL

/-! DL10: an owned object changed; comprehensions. -/
namespace DL
open PySem PySem.Spec PyProof.Rows L2
section
variable {K : PySem.W.Frag} {g : Gx} {O : Addr → Option Role} {H H' : Hp} {σ σ' : L2.St} {env env' : Ev} {S : List (V × Opd)} {v : V} {d d' : D} {p : Addr} {r : Opd}
theorem upd_move {o : HO} {ρ : Role} (hp : O p = some ρ) : ∀ a u, H a = some u → ¬ fra g O a → upd H p o a = some u := fun a u e n => by
  rw [upd_ne fun z => n (.inr ⟨ρ, by rw [z]; exact hp⟩)]
  exact e
theorem own_upd {o : HO} {ρ : Role} {q : Addr} (hp : O p = some ρ) (h : Own K (fra g O) H q d) (n : q ≠ p) : Own K (fra g O) (upd H p o) q d := h.move (upd_move hp) (fun a z => .inl z) (by rw [upd_ne n])
/-- the object at p is changed; the slots and the stack but its owner's stay -/
theorem EnvO.chg {o : HO} {ρ : Role} (x : EnvO K g O H σ env S) (hp : O p = some ρ) (hk : ∀ u, g.H0 p = some u → ∃ i, g.ios i = some p) (hl : env'.length = env.length)
    (hs : ∀ i s, env'[i]? = some s → (env[i]? = some s ∧ ρ ≠ .s i) ∨ SlOk K g O (upd H p o) σ i s) (hS : ∀ k, k < S.length → ρ ≠ .t k) : EnvO K g O (upd H p o) σ env' S := by
  have mv := upd_move (g := g) (O := O) (H := H) (o := o) hp
  refine ⟨x.len.trans hl.symm, fun a u h1 h2 => ?_, fun a h => ?_, fun a r h => ?_, fun i s h => ?_, ?_⟩
  · have e := x.keep a u h1 h2
    by_cases q : a = p
    · subst q
      obtain ⟨i, z⟩ := hk u h1
      exact absurd z (h2 i)
    · rw [upd_ne q]; exact e
  · obtain ⟨u, e⟩ := x.trk a h
    by_cases q : a = p
    · subst q; exact ⟨_, upd_same⟩
    · exact ⟨u, by rw [upd_ne q]; exact e⟩
  · obtain ⟨u, e⟩ := x.own a r h
    by_cases q : a = p
    · subst q; exact ⟨_, upd_same⟩
    · exact ⟨u, by rw [upd_ne q]; exact e⟩
  · rcases hs i s h with ⟨h, n⟩ | h
    · have q := x.sl i s h
      have ne : ∀ {b : Addr}, O b = some (.s i) → b ≠ p := fun {b} z1 z2 => by
        rw [z2, hp] at z1
        exact n (Option.some.inj z1)
      cases s with
      | no => trivial
      | fz d => obtain ⟨v, h1, h2⟩ := q; exact ⟨v, h1, h2.move mv fun a z => .inl z⟩
      | ow d => obtain ⟨b, h1, h2, h3, h4⟩ := q; exact ⟨b, h1, h2, h3, own_upd hp h4 (ne h2)⟩
      | io d => obtain ⟨b, h1, h2, h3, h4⟩ := q; exact ⟨b, h1, h2, h3, own_upd hp h4 (ne h2)⟩
    · exact h
  · have st := x.st
    clear x hs
    induction S with
    | nil => trivial
    | cons e S ih =>
      obtain ⟨v, e⟩ := e
      have hS' : ∀ k, k < S.length → ρ ≠ .t k := fun k h => hS k (Nat.lt_succ_of_lt h)
      cases e with
      | val d => exact ⟨st.1.move mv fun a z => .inl z, ih hS' st.2⟩
      | slot i => exact ⟨st.1, ih hS' st.2⟩
      | tmp d =>
        obtain ⟨⟨q, h1, h2, h3, h4⟩, t⟩ := st
        refine ⟨⟨q, h1, h2, h3, own_upd hp h4 fun z => ?_⟩, ih hS' t⟩
        rw [z, hp] at h2
        exact hS S.length (Nat.lt_succ_self _) (Option.some.inj h2)
theorem EnvO.chgT {o : HO} (x : EnvO K g O H σ env ((.ref p, .tmp d) :: S)) (h : Own K (fra g O) (upd H p o) p d') : EnvO K g O (upd H p o) σ env ((.ref p, .tmp d') :: S) := by
  obtain ⟨q, e0, h2, h3, h4⟩ := x.st.1
  obtain rfl := V.ref.inj e0
  have y := (x.drop (T := [_])).chg (o := o) (env' := env) h2 (fun u z => by rw [h3] at z; cases z) rfl (fun i s e => .inl ⟨e, fun z => by cases z⟩) fun k hk z => by
    have := Role.t.inj z
    omega
  exact ⟨y.len, y.keep, y.trk, y.own, y.sl, ⟨p, rfl, h2, h3, h⟩, y.st⟩
theorem EnvO.chgS {o : HO} {i : Nat} (x : EnvO K g O H σ env S) (e : env[i]? = some (.ow d)) (hp : σ[i]? = some (some (.ref p))) (h : Own K (fra g O) (upd H p o) p d') : EnvO K g O (upd H p o) σ (env.set i (.ow d')) S := by
  obtain ⟨q, h1, h2, h3, h4⟩ := x.sl i _ e
  rw [hp] at h1
  obtain rfl := V.ref.inj (Option.some.inj (Option.some.inj h1))
  refine x.chg h2 (fun u z => by rw [h3] at z; cases z) (List.length_set ..) (fun j s z => ?_) fun k _ z => by cases z
  rcases get_set z with ⟨e1, e2, _⟩ | ⟨e1, e2⟩
  · subst e1 e2
    exact .inr ⟨p, hp, h2, h3, h⟩
  · exact .inl ⟨e2, fun z => e1 (Role.s.inj z)⟩
theorem EnvO.chgI {o : HO} {i : Nat} (x : EnvO K g O H σ env S) (e : env[i]? = some (.io d)) (hp : σ[i]? = some (some (.ref p))) (h : Own K (fra g O) (upd H p o) p d') : EnvO K g O (upd H p o) σ (env.set i (.io d')) S := by
  obtain ⟨q, h1, h2, h3, h4⟩ := x.sl i _ e
  rw [hp] at h1
  obtain rfl := V.ref.inj (Option.some.inj (Option.some.inj h1))
  refine x.chg h2 (fun u z => ⟨i, h3⟩) (List.length_set ..) (fun j s z => ?_) fun k _ z => by cases z
  rcases get_set z with ⟨e1, e2, _⟩ | ⟨e1, e2⟩
  · subst e1 e2
    exact .inr ⟨p, hp, h2, h3, h⟩
  · exact .inl ⟨e2, fun z => e1 (Role.s.inj z)⟩
/-! ### a block's slots -/
def wipeE (e : Ev) : List Nat → Ev
  | [] => e
  | v :: vs => (wipeE e vs).set v .no
theorem wipeE_len (e : Ev) : ∀ vs, (wipeE e vs).length = e.length
  | [] => rfl
  | v :: vs => by unfold wipeE; rw [List.length_set, wipeE_len e vs]
theorem wipeE_get {e : Ev} {i : Nat} {s : Sl} : ∀ {vs : List Nat}, (wipeE e vs)[i]? = some s → s = .no ∨ (e[i]? = some s ∧ i ∉ vs)
  | [], h => .inr ⟨h, List.not_mem_nil⟩
  | v :: vs, h => by
    unfold wipeE at h
    rcases get_set h with ⟨_, e2, _⟩ | ⟨e1, e2⟩
    · exact .inl e2.symm
    · rcases wipeE_get e2 with z | ⟨z1, z2⟩
      · exact .inl z
      · refine .inr ⟨z1, fun m => ?_⟩
        rcases List.mem_cons.mp m with m | m
        · exact e1 m.symm
        · exact z2 m
theorem wipe_ne {i : Nat} : ∀ {vs : List Nat}, i ∉ vs → (wipe σ vs)[i]? = σ[i]?
  | [], _ => rfl
  | v :: vs, h => by
    unfold wipe
    rw [List.getElem?_set_ne (fun z => h (by rw [z]; exact List.mem_cons_self))]
    exact wipe_ne fun m => h (List.mem_cons_of_mem _ m)
theorem wipe_mem {i : Nat} (hi : i < σ.length) : ∀ {vs : List Nat}, i ∈ vs → (wipe σ vs)[i]? = some none
  | v :: vs, h => by
    unfold wipe
    by_cases e : v = i
    · subst e
      rw [List.getElem?_set_self (by rw [wipe_length]; exact hi)]
    · rw [List.getElem?_set_ne e]
      exact wipe_mem hi ((List.mem_cons.mp h).resolve_left fun z => e z.symm)
theorem wipe_eq {vs : List Nat} (hl : σ'.length = σ.length) (h : ∀ k, k ∉ vs → σ'[k]? = σ[k]?) : wipe σ' vs = wipe σ vs := by
  apply List.ext_getElem?
  intro i
  by_cases m : i ∈ vs
  · by_cases hi : i < σ.length
    · rw [wipe_mem hi m, wipe_mem (by rw [hl]; exact hi) m]
    · rw [List.getElem?_eq_none (by rw [wipe_length]; omega), List.getElem?_eq_none (by rw [wipe_length]; omega)]
  · rw [wipe_ne m, wipe_ne m, h i m]
theorem EnvO.wipe {vs : List Nat} (x : EnvO K g O H σ env S) (hS : NS S) (hl : σ'.length = σ.length) (h : ∀ k, k ∉ vs → σ'[k]? = σ[k]?) : EnvO K g O H σ' (wipeE env vs) S := by
  refine ⟨by rw [hl, wipeE_len]; exact x.len, x.keep, x.trk, x.own, fun i s q => ?_, ns_st hS x.st⟩
  rcases wipeE_get q with rfl | ⟨q, n⟩
  · trivial
  · have z := x.sl i s q
    cases s with
    | no => trivial
    | fz d => obtain ⟨v, h1, h2⟩ := z; exact ⟨v, (h i n).trans h1, h2⟩
    | ow d => obtain ⟨v, h1, h2⟩ := z; exact ⟨v, (h i n).trans h1, h2⟩
    | io d => obtain ⟨v, h1, h2⟩ := z; exact ⟨v, (h i n).trans h1, h2⟩
def dum : V × Opd → V × Opd
  | (_, .slot _) => (.non, .val .non)
  | e => e
theorem dum_ns (S : List (V × Opd)) : NS (S.map dum) := fun e he i q => by
  obtain ⟨⟨v, r⟩, _, rfl⟩ := List.mem_map.mp he
  cases r <;> cases q
theorem dum_st : ∀ {S : List (V × Opd)}, StOk K g O H σ S → StOk K g O H σ' (S.map dum)
  | [], _ => trivial
  | (v, .val d) :: S, h => ⟨h.1, dum_st h.2⟩
  | (v, .tmp d) :: S, h => ⟨by rw [List.length_map]; exact h.1, dum_st h.2⟩
  | (v, .slot i) :: S, h => ⟨.non, dum_st h.2⟩
def Sls (σ : L2.St) (S : List (V × Opd)) : Prop := ∀ v i, (v, Opd.slot i) ∈ S → σ[i]? = some (some v)
theorem sls_of : ∀ {S : List (V × Opd)}, StOk K g O H σ S → Sls σ S
  | [], _ => fun v i h => absurd h List.not_mem_nil
  | (u, .val d) :: S, h => fun v i m => sls_of h.2 v i ((List.mem_cons.mp m).resolve_left fun z => by cases z)
  | (u, .tmp d) :: S, h => fun v i m => sls_of h.2 v i ((List.mem_cons.mp m).resolve_left fun z => by cases z)
  | (u, .slot j) :: S, h => fun v i m => by
    rcases List.mem_cons.mp m with m | m
    · cases m; exact h.1
    · exact sls_of h.2 v i m
theorem dum_back {O' : Addr → Option Role} {H' : Hp} : ∀ {S : List (V × Opd)}, Sls σ S → StOk K g O' H' σ' (S.map dum) → StOk K g O' H' σ S
  | [], _, _ => trivial
  | (v, .val d) :: S, s, h => ⟨h.1, dum_back (fun v i m => s v i (List.mem_cons_of_mem _ m)) h.2⟩
  | (v, .tmp d) :: S, s, h => ⟨by have q := h.1; rw [List.length_map] at q; exact q, dum_back (fun v i m => s v i (List.mem_cons_of_mem _ m)) h.2⟩
  | (v, .slot i) :: S, s, h => ⟨s v i List.mem_cons_self, dum_back (fun v i m => s v i (List.mem_cons_of_mem _ m)) h.2⟩
end
def W0 : WX := fun _ _ _ _ => False
def tGD (K : PySem.W.Frag) (is : List Nat) (gt : Tg) : TG := fun v σ H Q => ∃ g O env S d env', NS S ∧ EnvO K g O H σ env S ∧ Rep K (fra g O) H v d ∧ gt d env = some env' ∧ ∀ σ', Chg is σ σ' → EnvO K g O H σ' env' S → Q σ' H
theorem GD.pg {X : Cx} {tg : Expr} {is : List Nat} {gt : Tg} (h : GD X tg is gt) : PG X tg (tGD X.K is gt) := by
  obtain ⟨t, h1, h2⟩ := h.ex
  refine ⟨fun pins s σ H v u Q I r q => h1.run pins s σ H v u Q I r ?_⟩
  obtain ⟨g, O, env, S, d, env', a1, a2, a3, a4, a5⟩ := q
  exact h2 g O H σ env S v d env' Q a1 a2 a3 a4 a5
abbrev DTs (X : Cx) (W : WX) (es : List Expr) (f : M Bool) : Prop := PTs X es (tT X.K X.mg W f)
theorem dts_nil {X : Cx} {W : WX} : DTs X W [] (M.pure true) := ⟨fun p s σ H Q I q => by
  obtain ⟨g, S, env, x, k⟩ := tT_ask.mp q
  exact pts_nil.run p s σ H Q I (k H x)⟩
theorem dts_one {X : Cx} {W : WX} {c : Expr} {f : M Bool} (h : DT X W c f) : DTs X W [c] f := pts_one h
def loopC (gt : Tg) (cond : M Bool) (elt : M Opd) (own : List Nat) : List D → Ev → R (List D)
  | [], e => .ok [] e
  | d :: ds, e => match gt d e with
    | none => .bad
    | some e1 => match cond e1 with
      | .ok true e2 => match elt e2 with
        | .ok r e3 => match frz r e3 with
          | some (y, e4) => match loopC gt cond elt own ds (wipeE e4 own) with
            | .ok l e5 => .ok (y :: l) e5
            | _ => .bad
          | none => .bad
        | _ => .bad
      | .ok false e2 => loopC gt cond elt own ds (wipeE e2 own)
      | _ => .bad
def xComp (it : M (List D)) (gt : Tg) (cond : M Bool) (elt : M Opd) (own : List Nat) : M Opd := fun e => match it e with
  | .ok ds e1 => if ds.length ≤ sizeLine then match loopC gt cond elt own ds (wipeE e1 own) with
    | .ok l e2 => .ok (.tmp (.lst l)) e2
    | _ => .bad
    else .bad
  | .ex c e1 => .ex c e1
  | .bad => .bad
/-- what a comprehension's turns ask -/
def askC (K : PySem.W.Frag) (g : Gx) (S : List (V × Opd)) (σ : L2.St) (Q : VK) (D0 : Addr) (acc : List D) : R (List D) → Prop
  | .ok l e => ∀ H', EnvOk K g H' σ e ((.ref D0, .tmp (.lst (acc ++ l))) :: S) → Q (.ref D0) H'
  | _ => False
theorem RepL.snoc {K : PySem.W.Frag} {A : Addr → Prop} {H : Hp} {vs : List V} {ds : List D} {v : V} {d : D} (h : RepL K A H vs ds) (r : Rep K A H v d) : RepL K A H (vs ++ [v]) (ds ++ [d]) := h.append (.cons r .nil)
/-- frozen values over another stack -/
theorem st_top {K : PySem.W.Frag} {g : Gx} {O O' : Addr → Option Role} {H H' : Hp} {σ σ' : L2.St} (w : ∀ v d, Rep K (fra g O) H v d → Rep K (fra g O') H' v d) : ∀ {Z S T : List (V × Opd)}, VS Z → StOk K g O H σ (Z ++ S) → StOk K g O' H' σ' T → StOk K g O' H' σ' (Z ++ T)
  | [], _, _, _, _, h => h
  | (v, r) :: Z, S, T, hv, h, t => by
    obtain ⟨d, e⟩ := hv _ List.mem_cons_self
    simp only at e
    subst e
    exact ⟨w _ _ h.1, st_top w (fun e q => hv e (List.mem_cons_of_mem _ q)) h.2 t⟩
def Cln (own : List Nat) (e : Ev) : Prop := ∀ i ∈ own, ∀ s, e[i]? = some s → s = .no
theorem cln_wipe {own : List Nat} {e : Ev} : Cln own (wipeE e own) := fun i hi s h => by
  rcases wipeE_get h with h | ⟨_, h⟩
  · exact h
  · exact absurd hi h
section
variable {X : Cx} {W : WX} {tg elt iter : Expr} {ifs : List Expr} {it : M (List D)} {is : List Nat} {gt : Tg} {cond : M Bool} {fe : M Opd} {scope : Scope} {own : List (Str × Nat)} {pos : Pos} {k : Nat}
theorem lc_imp {ow : List Nat} (his : ∀ i ∈ is, i ∈ ow) {σ : L2.St} {H : Hp} {Q : VK} (q : tD X.K X.mg W (xComp it gt cond fe ow) σ H Q) :
    tLc (tI X.K X.mg W it) (tGD X.K is gt) (tT X.K X.mg W0 cond) (tD X.K X.mg W0 fe) ow σ H Q := by
  obtain ⟨g, S, env, x, k⟩ := tD_ask.mp q
  unfold xComp at k
  refine tI_ask.mpr ⟨g, S, env, x, ?_⟩
  cases e : it env with
  | bad => simp only [e] at k; exact k.elim
  | ex c e' => simp only [e] at k; exact k
  | ok ds e1 =>
    simp only [e] at k
    rintro J H1 Z hZ ⟨O1, x1⟩ hJ D0 hD
    by_cases hz : ds.length ≤ sizeLine
    case neg => rw [if_neg hz] at k; exact k.elim
    rw [if_pos hz] at k
    have k1 : askC X.K g S σ Q D0 [] (loopC gt cond fe ow ds (wipeE e1 ow)) := by
      cases q : loopC gt cond fe ow ds (wipeE e1 ow) with
      | ok l e2 => simp only [q] at k; exact fun H' y => k _ H' y
      | ex c e2 => simp only [q] at k; exact k.elim
      | bad => simp only [q] at k; exact k.elim
    clear k
    have sl := sls_of (x1.drop).st
    have nsB : NS (S.map dum) := dum_ns S
    have nsZ : ∀ {T : List (V × Opd)}, NS T → NS (Z ++ T) := fun h e he => (List.mem_append.mp he).elim (hZ.ns e) (h e)
    have nsT : ∀ {acc : List D}, NS ((V.ref D0, Opd.tmp (.lst acc)) :: (S.map dum)) := fun {acc} e he i z => by
      rcases List.mem_cons.mp he with rfl | he
      · cases z
      · exact nsB e he i z
    -- the block's frame, then the new list under what is walked
    have b0 : EnvO X.K g O1 H1 σ e1 (S.map dum) := ⟨x1.len, x1.keep, x1.trk, x1.own, x1.sl, dum_st (x1.drop).st⟩
    have b1 : EnvO X.K g O1 H1 (L2.wipe σ ow) (wipeE e1 ow) (S.map dum) := b0.wipe nsB (wipe_length ..) fun i hi => wipe_ne hi
    obtain ⟨O2, b2, mv⟩ := b1.tmpX (p := D0) (d := .lst []) (H' := upd H1 D0 (.lst [])) (fun a o q => by rw [upd_ne (ne_of_none q hD)]; exact q) hD ⟨[], upd_same, .nil⟩
    have b3 : EnvO X.K g O2 (upd H1 D0 (.lst [])) (L2.wipe σ ow) (wipeE e1 ow) (Z ++ ((V.ref D0, Opd.tmp (.lst [])) :: (S.map dum))) := ⟨b2.len, b2.keep, b2.trk, b2.own, b2.sl, st_top mv hZ x1.st b2.st⟩
    refine ⟨fun i m H => m = ds.length - i ∧ i ≤ ds.length ∧ ∃ O en acc, acc.length ≤ i ∧ Cln ow en ∧ EnvO X.K g O H (L2.wipe σ ow) en (Z ++ ((V.ref D0, Opd.tmp (.lst acc)) :: (S.map dum))) ∧ askC X.K g S σ Q D0 acc (loopC gt cond fe ow (ds.drop i) en),
      ⟨ds.length, by simp, Nat.zero_le _, O2, _, [], Nat.le_refl _, cln_wipe, b3, k1⟩, ?_⟩
    rintro i m H ⟨rfl, hi, O, en, acc, hacc, cl, y, ask⟩
    obtain ⟨j1, j2⟩ := hJ _ i H _ en O y
    by_cases hlt : i < ds.length
    · obtain ⟨go, yl⟩ := j1 hlt
      refine .inr ⟨go, fun H' => ∃ O en acc, acc.length ≤ i + 1 ∧ Cln ow en ∧ EnvO X.K g O H' (L2.wipe σ ow) en (Z ++ ((V.ref D0, Opd.tmp (.lst acc)) :: (S.map dum))) ∧ askC X.K g S σ Q D0 acc (loopC gt cond fe ow (ds.drop (i + 1)) en), fun H' h => ⟨ds.length - (i + 1), by omega, rfl, hlt, h⟩, fun x H2 hy => ?_⟩
      obtain ⟨d, hd, y2, rp⟩ := yl x H2 hy
      rw [drop_get hd] at ask
      unfold loopC at ask
      cases q1 : gt d en with
      | none => simp only [q1] at ask; exact ask.elim
      | some e2 =>
        simp only [q1] at ask
        refine ⟨g, O, en, _, d, e2, nsZ nsT, y2, rp, q1, fun σ2 ch y3 => ?_⟩
        have out : ∀ j, j ∉ ow → σ2[j]? = (L2.wipe σ ow)[j]? := fun j hj => ch.2 j fun z => hj (his j z)
        have len2 : σ2.length = σ.length := by rw [ch.1, wipe_length]
        refine ⟨wipe_eq len2 fun j hj => by rw [out j hj, wipe_ne hj], ?_⟩
        refine tT_ask.mpr ⟨g, _, e2, ⟨O, y3⟩, ?_⟩
        have next : ∀ {O' : Addr → Option Role} {H' : Hp} {e' : Ev} {acc' : List D}, EnvO X.K g O' H' σ2 e' (Z ++ ((V.ref D0, Opd.tmp (.lst acc')) :: (S.map dum))) → EnvO X.K g O' H' (L2.wipe σ ow) (wipeE e' ow) (Z ++ ((V.ref D0, Opd.tmp (.lst acc')) :: (S.map dum))) := fun z =>
          z.wipe (nsZ nsT) (by rw [wipe_length, len2]) fun j hj => by rw [out j hj]
        cases q2 : cond e2 with
        | bad => simp only [q2] at ask; exact ask.elim
        | ex c e3 => simp only [q2] at ask; exact ask.elim
        | ok b e3 =>
          simp only [q2] at ask
          rintro H3 ⟨O3, y4⟩
          cases b with
          | false => exact ⟨O3, _, acc, Nat.le_succ_of_le hacc, cln_wipe, next y4, ask⟩
          | true =>
            rw [if_pos rfl]
            refine tD_ask.mpr ⟨g, _, e3, ⟨O3, y4⟩, ?_⟩
            dsimp only at ask
            cases q3 : fe e3 with
            | bad => simp only [q3] at ask; exact ask.elim
            | ex c e4 => simp only [q3] at ask; exact ask.elim
            | ok r e4 =>
              simp only [q3] at ask
              rintro v H4 ⟨O4, y5⟩
              cases q4 : frz r e4 with
              | none => simp only [q4] at ask; exact ask.elim
              | some t =>
                obtain ⟨yd, e5⟩ := t
                simp only [q4] at ask
                obtain ⟨O5, y6, rp6, _⟩ := y5.frz q4
                have top := y6.drop (T := Z)
                obtain ⟨p0, ep, h2, h3, vs, h4, h5⟩ := top.st.1
                obtain rfl := V.ref.inj ep
                refine ⟨vs, h4, ?_, ?_⟩
                · rw [h5.len]
                  exact Nat.lt_of_le_of_lt hacc (Nat.lt_of_lt_of_le hlt hz)
                · have own' : Own X.K (fra g O5) (upd H4 D0 (.lst (vs ++ [v]))) D0 (.lst (acc ++ [yd])) := ⟨vs ++ [v], upd_same, (h5.snoc rp6).move (upd_move h2) fun a z => .inl z⟩
                  have t2 := top.chgT own'
                  have t3 : EnvO X.K g O5 (upd H4 D0 (.lst (vs ++ [v]))) σ2 e5 (Z ++ ((V.ref D0, Opd.tmp (.lst (acc ++ [yd]))) :: (S.map dum))) :=
                    ⟨t2.len, t2.keep, t2.trk, t2.own, t2.sl, st_top (fun v d r => r.move (upd_move h2) fun a z => .inl z) hZ y6.st t2.st⟩
                  refine ⟨O5, _, acc ++ [yd], by rw [List.length_append]; exact Nat.succ_le_succ hacc, cln_wipe, next t3, ?_⟩
                  cases q5 : loopC gt cond fe ow (ds.drop (i + 1)) (wipeE e5 ow) with
                  | ok l e6 =>
                    simp only [q5] at ask
                    intro H' z
                    rw [List.append_assoc] at z
                    exact ask H' z
                  | ex c e6 => simp only [q5] at ask; exact ask.elim
                  | bad => simp only [q5] at ask; exact ask.elim
    · have ei : i = ds.length := by omega
      refine .inl ⟨j2 (by omega), ?_⟩
      rw [ei, List.drop_length] at ask
      have y2 := y.drop (T := Z)
      have back : EnvO X.K g O H σ en ((V.ref D0, Opd.tmp (.lst acc)) :: S) := by
        refine ⟨by rw [← wipe_length σ ow]; exact y2.len, y2.keep, y2.trk, y2.own, fun j s h => ?_, ?_⟩
        · by_cases m : j ∈ ow
          · rw [cl j m s h]; trivial
          · have z := y2.sl j s h
            cases s with
            | no => trivial
            | fz d => obtain ⟨v, h1, h2⟩ := z; exact ⟨v, (wipe_ne m).symm.trans h1, h2⟩
            | ow d => obtain ⟨v, h1, h2⟩ := z; exact ⟨v, (wipe_ne m).symm.trans h1, h2⟩
            | io d => obtain ⟨v, h1, h2⟩ := z; exact ⟨v, (wipe_ne m).symm.trans h1, h2⟩
        · have z := y2.st
          have z1 := z.1
          rw [List.length_map] at z1
          exact ⟨z1, dum_back sl z.2⟩
      refine ask H ?_
      rw [List.append_nil]
      exact ⟨O, back⟩
theorem de_lc {W' : WX} (C : At k X W') (hi : DI X W tg iter it) (ok : BlkOk X.N X.env.scope scope own)
    (hg : ∀ (s : Shared) (H : Hp) (C : Addr) (cl : List (Str × Addr)) (fp : List Addr), GD (X.blk s H scope (compEnvC scope cl C X.env) fp) tg is gt) (his : ∀ i ∈ is, i ∈ own.map (·.2))
    (ht : ∀ (s : Shared) (H : Hp) (C : Addr) (cl : List (Str × Addr)) (fp : List Addr), DTs (X.blk s H scope (compEnvC scope cl C X.env) fp) W0 ifs cond)
    (he : ∀ (s : Shared) (H : Hp) (C : Addr) (cl : List (Str × Addr)) (fp : List Addr), DE (X.blk s H scope (compEnvC scope cl C X.env) fp) W0 elt fe) (hs : ∀ x, foldedSetIterable iter X.env x = pure x := by intro _; rfl) :
    DE X W (.ListComp elt [⟨tg, iter, ifs, 0⟩] scope pos) (xComp it gt cond fe (own.map (·.2))) :=
  PE.of (pe_lc C.calm C.nd hi ok (fun s H C cl fp => (hg s H C cl fp).pg) ht he hs) fun σ H Q q => lc_imp his q
/-- name = [..] -/
theorem ds_setLc {W' : WX} {i : Nat} {y : Str} {py spos : Pos} (C : At k X W') (hy : X.N[i]? = some y) (hyl : X.env.scope.names.lookup y = some .local) (hsw : swapsWith (.ListComp elt [⟨tg, iter, ifs, 0⟩] scope pos) (some (.Name y py)) spos.line X.env = pure true)
    (hi : DI X W tg iter it) (ok : BlkOk X.N X.env.scope scope own)
    (hg : ∀ (s : Shared) (H : Hp) (C : Addr) (cl : List (Str × Addr)) (fp : List Addr), GD (X.blk s H scope (compEnvC scope cl C X.env) fp) tg is gt) (his : ∀ i ∈ is, i ∈ own.map (·.2))
    (ht : ∀ (s : Shared) (H : Hp) (C : Addr) (cl : List (Str × Addr)) (fp : List Addr), DTs (X.blk s H scope (compEnvC scope cl C X.env) fp) W0 ifs cond)
    (he : ∀ (s : Shared) (H : Hp) (C : Addr) (cl : List (Str × Addr)) (fp : List Addr), DE (X.blk s H scope (compEnvC scope cl C X.env) fp) W0 elt fe) (hs : ∀ x, foldedSetIterable iter X.env x = pure x := by intro _; rfl) :
    DS X W (.Assign [.Name y py] (.ListComp elt [⟨tg, iter, ifs, 0⟩] scope pos) spos) (sSet i (xComp it gt cond fe (own.map (·.2)))) :=
  PS.of (ps_setLc C.calm C.nd hy hyl hsw hi ok (fun s H C cl fp => (hg s H C cl fp).pg) ht he hs) fun D σ H q => by
    obtain ⟨g, S, env, hv, x, k⟩ := tS_ask.mp q
    refine lc_imp (W := W) (it := it) (gt := gt) (cond := cond) (fe := fe) his (tD_st x ?_)
    unfold sSet at k
    cases e : xComp it gt cond fe (own.map (·.2)) env with
    | ok r e' =>
      rw [e] at k
      rintro v H' ⟨O, y⟩
      cases q : sto r i e' with
      | none => simp only [q] at k; exact k.elim
      | some e2 => simp only [q] at k; exact k _ _ (y.sto hv.ns q)
    | ex c e' => rw [e] at k; exact k
    | bad => rw [e] at k; exact k
end
end DL

/-! DL11: the call of a def by its mirror. -/
namespace DL
open PySem PySem.Spec PyProof.Rows L2
/-- the arguments that are handed on frozen -/
def fzs : List Bool → List Opd → Ev → Option (List D × Ev)
  | [], [], e => some ([], e)
  | true :: ks, _ :: rs, e => match fzs ks rs e with
    | some (ds, e1) => some (.non :: ds, e1)
    | none => none
  | false :: ks, r :: rs, e => match fzs ks rs e with
    | some (ds, e1) => match frz r e1 with
      | some (d, e2) => some (d :: ds, e2)
      | none => none
    | none => none
  | _, _, _ => none
/-- all arguments -/
def argsD : List Bool → List Opd → List D → Ev → Option (List D)
  | [], [], [], _ => some []
  | false :: ks, _ :: rs, d :: ds, e => (argsD ks rs ds e).map (d :: ·)
  | true :: ks, .tmp d :: rs, _ :: ds, e => (argsD ks rs ds e).map (d :: ·)
  | true :: ks, .slot j :: rs, _ :: ds, e => match e[j]? with
    | some (.ow d) => (argsD ks rs ds e).map (d :: ·)
    | some (.io d) => (argsD ks rs ds e).map (d :: ·)
    | _ => none
  | _, _, _, _ => none
def ioR : List Bool → List Opd → Nat → List Role
  | true :: ks, .slot j :: rs, h => .s j :: ioR ks rs (h + 1)
  | true :: ks, _ :: rs, h => .t h :: ioR ks rs (h + 1)
  | false :: ks, _ :: rs, h => ioR ks rs (h + 1)
  | _, _, _ => []
def putO : List Bool → List Opd → List D → Ev → Option Ev
  | [], [], [], e => some e
  | false :: ks, _ :: rs, os, e => putO ks rs os e
  | true :: ks, .slot j :: rs, d :: os, e => match e[j]? with
    | some (.ow _) => putO ks rs os (e.set j (.ow d))
    | some (.io _) => putO ks rs os (e.set j (.io d))
    | _ => none
  | true :: ks, .tmp _ :: rs, _ :: os, e => putO ks rs os e
  | _, _, _, _ => none
def callE (ks : List Bool) (f : FD) (rs : List Opd) : M Opd := fun env => match fzs ks rs env with
  | none => .bad
  | some (fd, e1) => match argsD ks rs fd e1 with
    | none => .bad
    | some ds => if (ioR ks rs 0).Nodup then match f ds with
        | .ok fresh d os => match putO ks rs os e1 with
          | some e2 => .ok (if fresh = true then .tmp d else .val d) e2
          | none => .bad
        | .ex c os => match putO ks rs os e1 with
          | some e2 => .ex c e2
          | none => .bad
        | .bad => .bad
      else .bad
def xCall (ks : List Bool) (f : FD) (a : M (List Opd)) : M Opd := a.bind (callE ks f)
section
variable {K : PySem.W.Frag} {g : Gx} {O O' : Addr → Option Role} {H H' : Hp} {σ σ' : L2.St} {env env' : Ev} {S : List (V × Opd)} {v : V} {d d' : D} {p : Addr} {r : Opd}
/-- the arguments on the stack, the frozen ones done -/
inductive PF (K : PySem.W.Frag) (g : Gx) (O : Addr → Option Role) (H : Hp) (σ : L2.St) : Nat → List Bool → List V → List Opd → List D → Prop
  | nil {h : Nat} : PF K g O H σ h [] [] [] []
  | fz {h : Nat} {ks : List Bool} {v : V} {vs : List V} {r : Opd} {rs : List Opd} {d : D} {ds : List D} : Rep K (fra g O) H v d → PF K g O H σ (h + 1) ks vs rs ds → PF K g O H σ h (false :: ks) (v :: vs) (r :: rs) (d :: ds)
  | sl {h : Nat} {ks : List Bool} {v : V} {vs : List V} {j : Nat} {rs : List Opd} {ds : List D} : σ[j]? = some (some v) → PF K g O H σ (h + 1) ks vs rs ds → PF K g O H σ h (true :: ks) (v :: vs) (.slot j :: rs) (.non :: ds)
  | tm {h : Nat} {ks : List Bool} {p : Addr} {vs : List V} {d : D} {rs : List Opd} {ds : List D} : O p = some (.t h) → g.H0 p = none → Own K (fra g O) H p d → PF K g O H σ (h + 1) ks vs rs ds → PF K g O H σ h (true :: ks) (.ref p :: vs) (.tmp d :: rs) (.non :: ds)
  | vl {h : Nat} {ks : List Bool} {v : V} {vs : List V} {d : D} {rs : List Opd} {ds : List D} : PF K g O H σ (h + 1) ks vs rs ds → PF K g O H σ h (true :: ks) (v :: vs) (.val d :: rs) (.non :: ds)
theorem PF.less {h : Nat} {ks : List Bool} {vs : List V} {rs : List Opd} {ds : List D} (x : PF K g O H σ h ks vs rs ds) (w : ∀ a, fra g O' a → fra g O a) (k : ∀ p h', h ≤ h' → O p = some (.t h') → O' p = some (.t h')) : PF K g O' H σ h ks vs rs ds := by
  induction x with
  | nil => exact .nil
  | fz a _ ih => exact .fz (a.move (fun _ _ q _ => q) fun a z => .inl (w a z)) (ih fun p h' q => k p h' (Nat.le_of_succ_le q))
  | sl a _ ih => exact .sl a (ih fun p h' q => k p h' (Nat.le_of_succ_le q))
  | tm a b c _ ih => exact .tm (k _ _ (Nat.le_refl _) a) b (c.move (fun _ _ q _ => q) (fun a z => .inl (w a z)) rfl) (ih fun p h' q => k p h' (Nat.le_of_succ_le q))
  | vl _ ih => exact .vl (ih fun p h' q => k p h' (Nat.le_of_succ_le q))
/-- freezing keeps the roles of what lies higher -/
theorem EnvO.frzR (x : EnvO K g O H σ env ((v, r) :: S)) (h : DL.frz r env = some (d, env')) : ∃ O', EnvO K g O' H σ env' S ∧ Rep K (fra g O') H v d ∧ (∀ a, fra g O' a → fra g O a) ∧ ∀ q k, S.length < k → O q = some (.t k) → O' q = some (.t k) := by
  have key : ∀ p ρ, O p = some ρ → (∀ k, S.length < k → ρ ≠ .t k) → ∀ q k, S.length < k → O q = some (.t k) → setO O p none q = some (.t k) := fun p ρ e n q k hk z => by
    rw [setO_ne fun y => by rw [y, e] at z; exact n k hk (Option.some.inj z)]
    exact z
  cases r with
  | val d' =>
    obtain ⟨rfl, rfl⟩ := Prod.mk.inj (Option.some.inj h)
    exact ⟨O, x.drop (T := [_]), x.st.1, fun _ z => z, fun _ _ _ z => z⟩
  | tmp d' =>
    obtain ⟨rfl, rfl⟩ := Prod.mk.inj (Option.some.inj h)
    obtain ⟨p, rfl, h2, h3, h4⟩ := x.st.1
    refine ⟨setO O p none, (x.drop (T := [_])).less p (fun j s q => (x.sl j s q).less fun q a z => ?_) rfl (fun q k a b z => ?_), h4.rep (fun a z => less_sub z) (less_out (Gx.notA h3)), fun a z => less_sub z, key p _ h2 fun k hk z => ?_⟩
    · rw [z, h2] at a; cases a
    · rw [z, h2] at a
      have := Role.t.inj (Option.some.inj a)
      omega
    · have := Role.t.inj z
      omega
  | slot i =>
    have es := x.st.1
    have y := x.drop (T := [_])
    have h' : (match env[i]? with
      | some (.fz d) => some (d, env)
      | some (.ow d) => some (d, env.set i (.fz d))
      | _ => none) = some (d, env') := h
    cases e : env[i]? with
    | none => rw [e] at h'; cases h'
    | some s =>
      rw [e] at h'
      cases s with
      | no => cases h'
      | io d' => cases h'
      | fz d' =>
        obtain ⟨rfl, rfl⟩ := Prod.mk.inj (Option.some.inj h')
        obtain ⟨u, e1, e2⟩ := y.sl i _ e
        rw [es] at e1
        obtain rfl := Option.some.inj (Option.some.inj e1)
        exact ⟨O, y, e2, fun _ z => z, fun _ _ _ z => z⟩
      | ow d' =>
        obtain ⟨rfl, rfl⟩ := Prod.mk.inj (Option.some.inj h')
        obtain ⟨p, h1, h2, h3, h4⟩ := y.sl i _ e
        have hl : i < env.length := (List.getElem?_eq_some_iff.mp e).1
        have z : EnvO K g (setO O p none) H σ (env.set i (.fz d')) S := y.less p (fun j s q => by
          rcases get_set q with ⟨e1, e2, _⟩ | ⟨e1, e2⟩
          · subst e1 e2
            exact ⟨_, h1, h4.rep (fun a z => less_sub z) (less_out (Gx.notA h3))⟩
          · refine (y.sl j s e2).less fun q a z => ?_
            rw [z, h2] at a
            exact e1 (Role.s.inj (Option.some.inj a))) (List.length_set ..) (fun q k a _ z => by rw [z, h2] at a; cases a)
        obtain ⟨u, e1, e2⟩ := z.sl i (.fz d') (by rw [List.getElem?_set_self hl])
        rw [es] at e1
        obtain rfl := Option.some.inj (Option.some.inj e1)
        exact ⟨_, z, e2, fun a z => less_sub z, key p _ h2 fun k _ z => by cases z⟩
theorem pf_of : ∀ {ks : List Bool} {vs : List V} {rs : List Opd} {S : List (V × Opd)} {O : Addr → Option Role} {fd : List D} {e1 : Ev}, EnvO K g O H σ env (pushes vs rs S) → vs.length = rs.length → fzs ks rs env = some (fd, e1) →
    ∃ O', EnvO K g O' H σ e1 S ∧ PF K g O' H σ S.length ks vs rs fd
  | [], [], [], S, O, fd, e1, x, _, h => by
    obtain ⟨rfl, rfl⟩ := Prod.mk.inj (Option.some.inj h)
    exact ⟨O, x, .nil⟩
  | true :: ks, v :: vs, r :: rs, S, O, fd, e1, x, hl, h => by
    have h' : (match fzs ks rs env with
      | some (ds, e1) => some (.non :: ds, e1)
      | none => none) = some (fd, e1) := h
    cases e : fzs ks rs env with
    | none => rw [e] at h'; cases h'
    | some t =>
      obtain ⟨ds, e2⟩ := t
      rw [e] at h'
      obtain ⟨rfl, rfl⟩ := Prod.mk.inj (Option.some.inj h')
      have x' : EnvO K g O H σ env (pushes vs rs ((v, r) :: S)) := x
      obtain ⟨O1, y, pf⟩ := pf_of x' (Nat.succ.inj hl) e
      refine ⟨O1, y.drop (T := [_]), ?_⟩
      cases r with
      | val d => exact .vl pf
      | tmp d =>
        obtain ⟨p, rfl, h2, h3, h4⟩ := y.st.1
        exact .tm h2 h3 h4 pf
      | slot j => exact .sl y.st.1 pf
  | false :: ks, v :: vs, r :: rs, S, O, fd, e1, x, hl, h => by
    have h' : (match fzs ks rs env with
      | some (ds, e1) => match DL.frz r e1 with
        | some (d, e2) => some (d :: ds, e2)
        | none => none
      | none => none) = some (fd, e1) := h
    cases e : fzs ks rs env with
    | none => rw [e] at h'; cases h'
    | some t =>
      obtain ⟨ds, e2⟩ := t
      rw [e] at h'
      have x' : EnvO K g O H σ env (pushes vs rs ((v, r) :: S)) := x
      obtain ⟨O1, y, pf⟩ := pf_of x' (Nat.succ.inj hl) e
      dsimp only at h'
      cases e3 : DL.frz r e2 with
      | none => rw [e3] at h'; cases h'
      | some t =>
        obtain ⟨d, e4⟩ := t
        rw [e3] at h'
        obtain ⟨rfl, rfl⟩ := Prod.mk.inj (Option.some.inj h')
        obtain ⟨O2, z, rp, w, kr⟩ := y.frzR e3
        exact ⟨O2, z, .fz rp (pf.less w fun p h' q => kr p h' q)⟩
  | [], _ :: _, _ :: _, _, _, _, _, _, _, h => by simp [fzs] at h
  | [], _ :: _, [], _, _, _, _, _, hl, _ => by cases hl
  | k :: _, [], [], _, _, _, _, _, _, h => by cases k <;> simp [fzs] at h
  | _ :: _, [], _ :: _, _, _, _, _, _, hl, _ => by cases hl
  | _ :: _, _ :: _, [], _, _, _, _, _, hl, _ => by cases hl
  | [], [], _ :: _, _, _, _, _, _, hl, _ => by cases hl
/-- all arguments ready -/
inductive FA (K : PySem.W.Frag) (g : Gx) (O : Addr → Option Role) (H : Hp) (σ : L2.St) (e : Ev) : Nat → List Bool → List V → List Opd → List D → Prop
  | nil {h : Nat} : FA K g O H σ e h [] [] [] []
  | fz {h : Nat} {ks : List Bool} {v : V} {vs : List V} {r : Opd} {rs : List Opd} {d : D} {ds : List D} : Rep K (fra g O) H v d → FA K g O H σ e (h + 1) ks vs rs ds → FA K g O H σ e h (false :: ks) (v :: vs) (r :: rs) (d :: ds)
  | ow {h : Nat} {ks : List Bool} {p : Addr} {vs : List V} {j : Nat} {rs : List Opd} {d : D} {ds : List D} : e[j]? = some (.ow d) → σ[j]? = some (some (.ref p)) → O p = some (.s j) → g.H0 p = none → Own K (fra g O) H p d → FA K g O H σ e (h + 1) ks vs rs ds → FA K g O H σ e h (true :: ks) (.ref p :: vs) (.slot j :: rs) (d :: ds)
  | io {h : Nat} {ks : List Bool} {p : Addr} {vs : List V} {j : Nat} {rs : List Opd} {d : D} {ds : List D} : e[j]? = some (.io d) → σ[j]? = some (some (.ref p)) → O p = some (.s j) → g.ios j = some p → Own K (fra g O) H p d → FA K g O H σ e (h + 1) ks vs rs ds → FA K g O H σ e h (true :: ks) (.ref p :: vs) (.slot j :: rs) (d :: ds)
  | tm {h : Nat} {ks : List Bool} {p : Addr} {vs : List V} {rs : List Opd} {d : D} {ds : List D} : O p = some (.t h) → g.H0 p = none → Own K (fra g O) H p d → FA K g O H σ e (h + 1) ks vs rs ds → FA K g O H σ e h (true :: ks) (.ref p :: vs) (.tmp d :: rs) (d :: ds)
theorem map_cons {α : Type} {o : Option (List α)} {a : α} {l : List α} (h : o.map (a :: ·) = some l) : ∃ l', o = some l' ∧ l = a :: l' := by
  cases o with
  | none => cases h
  | some l' => exact ⟨l', rfl, (Option.some.inj h).symm⟩
theorem fa_of (x : EnvO K g O H σ env S) {h : Nat} {ks : List Bool} {vs : List V} {rs : List Opd} {fd : List D} (pf : PF K g O H σ h ks vs rs fd) : ∀ {ds : List D}, argsD ks rs fd env = some ds → FA K g O H σ env h ks vs rs ds := by
  induction pf with
  | nil =>
    intro ds e
    obtain rfl := Option.some.inj e
    exact .nil
  | fz a _ ih =>
    intro ds e
    obtain ⟨l, e1, rfl⟩ := map_cons e
    exact .fz a (ih e1)
  | tm a b c _ ih =>
    intro ds e
    obtain ⟨l, e1, rfl⟩ := map_cons e
    exact .tm a b c (ih e1)
  | vl _ _ => intro ds e; cases e
  | @sl h ks v vs j rs ds' a _ ih =>
    intro ds e
    have e' : (match env[j]? with
      | some (.ow d) => (argsD ks rs ds' env).map (d :: ·)
      | some (.io d) => (argsD ks rs ds' env).map (d :: ·)
      | _ => none) = some ds := e
    cases q : env[j]? with
    | none => rw [q] at e'; cases e'
    | some s =>
      rw [q] at e'
      cases s with
      | no => cases e'
      | fz d => cases e'
      | ow d =>
        obtain ⟨l, e1, rfl⟩ := map_cons e'
        obtain ⟨p, h1, h2, h3, h4⟩ := x.sl j _ q
        rw [a] at h1
        obtain rfl := Option.some.inj (Option.some.inj h1)
        exact .ow q a h2 h3 h4 (ih e1)
      | io d =>
        obtain ⟨l, e1, rfl⟩ := map_cons e'
        obtain ⟨p, h1, h2, h3, h4⟩ := x.sl j _ q
        rw [a] at h1
        obtain rfl := Option.some.inj (Option.some.inj h1)
        exact .io q a h2 h3 h4 (ih e1)
theorem FA.args {h : Nat} {ks : List Bool} {vs : List V} {rs : List Opd} {ds : List D} (x : FA K g O H σ env h ks vs rs ds) : ArgsD K (fra g O) H ks vs ds := by
  induction x with
  | nil => exact .nil
  | fz a _ ih => exact .fz a ih
  | ow _ _ a _ b _ ih => exact .io (.inr ⟨_, a⟩) b ih
  | io _ _ a _ b _ ih => exact .io (.inr ⟨_, a⟩) b ih
  | tm a _ b _ ih => exact .io (.inr ⟨_, a⟩) b ih
theorem FA.mem {h : Nat} {ks : List Bool} {vs : List V} {rs : List Opd} {ds : List D} (x : FA K g O H σ env h ks vs rs ds) : ∀ q ∈ ioA ks vs, ∃ ρ ∈ ioR ks rs h, O q = some ρ := by
  induction x with
  | nil => intro q m; cases m
  | fz a _ ih => intro q m; rw [ioA_fz] at m; exact ih q m
  | ow _ _ a _ _ _ ih =>
    intro q m
    rcases List.mem_cons.mp m with rfl | m
    · exact ⟨_, List.mem_cons_self, a⟩
    · obtain ⟨ρ, h1, h2⟩ := ih q m; exact ⟨ρ, List.mem_cons_of_mem _ h1, h2⟩
  | io _ _ a _ _ _ ih =>
    intro q m
    rcases List.mem_cons.mp m with rfl | m
    · exact ⟨_, List.mem_cons_self, a⟩
    · obtain ⟨ρ, h1, h2⟩ := ih q m; exact ⟨ρ, List.mem_cons_of_mem _ h1, h2⟩
  | tm a _ _ _ ih =>
    intro q m
    rcases List.mem_cons.mp m with rfl | m
    · exact ⟨_, List.mem_cons_self, a⟩
    · obtain ⟨ρ, h1, h2⟩ := ih q m; exact ⟨ρ, List.mem_cons_of_mem _ h1, h2⟩
theorem FA.nodup {h : Nat} {ks : List Bool} {vs : List V} {rs : List Opd} {ds : List D} (x : FA K g O H σ env h ks vs rs ds) : (ioR ks rs h).Nodup → (ioA ks vs).Nodup := by
  have key : ∀ {p : Addr} {ρ : Role} {l : List Role} {ps : List Addr}, O p = some ρ → (∀ q ∈ ps, ∃ ρ ∈ l, O q = some ρ) → (l.Nodup → ps.Nodup) → (ρ :: l).Nodup → (p :: ps).Nodup := fun {p ρ l ps} a m ih nd => by
    obtain ⟨n1, n2⟩ := List.nodup_cons.mp nd
    refine List.nodup_cons.mpr ⟨fun z => ?_, ih n2⟩
    obtain ⟨ρ', h1, h2⟩ := m p z
    rw [a] at h2
    exact n1 (Option.some.inj h2 ▸ h1)
  induction x with
  | nil => intro _; exact List.nodup_nil
  | fz a _ ih => intro nd; rw [ioA_fz]; exact ih nd
  | ow _ _ a _ _ t ih => exact key a t.mem ih
  | io _ _ a _ _ t ih => exact key a t.mem ih
  | tm a _ _ t ih => exact key a t.mem ih
theorem ioR_shift (n : Nat) : ∀ {ks : List Bool} {rs : List Opd} {h : Nat}, ioR ks rs (n + h) = (ioR ks rs h).map (fun ρ => match ρ with | .s j => .s j | .t k => .t (n + k))
  | [], _, _ => by cases ‹List Opd› <;> rfl
  | true :: ks, [], _ => rfl
  | false :: ks, [], _ => rfl
  | true :: ks, .slot j :: rs, h => congrArg (Role.s j :: ·) (ioR_shift n (ks := ks) (rs := rs) (h := h + 1))
  | true :: ks, .val d :: rs, h => congrArg (Role.t (n + h) :: ·) (ioR_shift n (ks := ks) (rs := rs) (h := h + 1))
  | true :: ks, .tmp d :: rs, h => congrArg (Role.t (n + h) :: ·) (ioR_shift n (ks := ks) (rs := rs) (h := h + 1))
  | false :: ks, r :: rs, h => ioR_shift n (ks := ks) (rs := rs) (h := h + 1)
theorem ioR_nd {n : Nat} {ks : List Bool} {rs : List Opd} (h : (ioR ks rs 0).Nodup) : (ioR ks rs n).Nodup := by
  have e := ioR_shift n (ks := ks) (rs := rs) (h := 0)
  rw [Nat.add_zero] at e
  rw [e]
  unfold List.Nodup at h ⊢
  rw [List.pairwise_map]
  refine h.imp fun {a b} ne z => ne ?_
  cases a <;> cases b <;> simp only [Role.s.injEq, Role.t.injEq, reduceCtorEq] at z ⊢ <;> omega
theorem ioR_high : ∀ {ks : List Bool} {rs : List Opd} {h k : Nat}, Role.t k ∈ ioR ks rs h → h ≤ k
  | [], _, _, _, m => by cases ‹List Opd› <;> cases m
  | true :: ks, [], _, _, m => by cases m
  | false :: ks, [], _, _, m => by cases m
  | true :: ks, .slot j :: rs, h, k, m => Nat.le_of_succ_le (ioR_high (ks := ks) (rs := rs) ((List.mem_cons.mp m).resolve_left fun z => by cases z))
  | true :: ks, .val d :: rs, h, k, m => by
    rcases List.mem_cons.mp m with m | m
    · cases m; exact Nat.le_refl _
    · exact Nat.le_of_succ_le (ioR_high (ks := ks) (rs := rs) m)
  | true :: ks, .tmp d :: rs, h, k, m => by
    rcases List.mem_cons.mp m with m | m
    · cases m; exact Nat.le_refl _
    · exact Nat.le_of_succ_le (ioR_high (ks := ks) (rs := rs) m)
  | false :: ks, r :: rs, h, k, m => Nat.le_of_succ_le (ioR_high (ks := ks) (rs := rs) m)
/-- behind a call -/
theorem put_ok {A' : Addr → Prop} (hO : ∀ a r, O a = some r → O' a = some r) (hA : ∀ a, fra g O' a → A' a) {h : Nat} {ks : List Bool} {vs : List V} {rs : List Opd} {ds : List D} {e1 : Ev} (x : FA K g O H σ e1 h ks vs rs ds) :
    ∀ {e e2 : Ev} {os : List D}, putO ks rs os e = some e2 → (ioR ks rs h).Nodup → OutsD K A' H' (ioA ks vs) os → (∀ j, Role.s j ∈ ioR ks rs h → e[j]? = e1[j]?) → (∀ i s, e[i]? = some s → Role.s i ∈ ioR ks rs h ∨ SlOk K g O' H' σ i s) →
      e2.length = e.length ∧ ∀ i s, e2[i]? = some s → SlOk K g O' H' σ i s := by
  induction x with
  | nil =>
    intro e e2 os hp _ _ _ hs
    cases os with
    | nil =>
      obtain rfl := Option.some.inj hp
      exact ⟨rfl, fun i s q => (hs i s q).resolve_left fun z => by cases z⟩
    | cons _ _ => cases hp
  | fz a _ ih =>
    intro e e2 os hp nd ho hj hs
    rw [ioA_fz] at ho
    exact ih hp nd ho hj hs
  | tm a b c _ ih =>
    intro e e2 os hp nd ho hj hs
    cases os with
    | nil => cases hp
    | cons d os =>
      exact ih hp (List.nodup_cons.mp nd).2 ho.2 (fun j m => hj j (List.mem_cons_of_mem _ m)) fun i s q => by
        rcases hs i s q with z | z
        · exact .inl ((List.mem_cons.mp z).resolve_left fun y => by cases y)
        · exact .inr z
  | @ow h ks p vs j rs d0 ds h1 h2 h3 h4 h5 _ ih =>
    intro e e2 os hp nd ho hj hs
    cases os with
    | nil => cases hp
    | cons d os =>
      have nd' := List.nodup_cons.mp nd
      have ej : e[j]? = some (.ow d0) := (hj j List.mem_cons_self).trans h1
      have hp' : putO ks rs os (e.set j (.ow d)) = some e2 := by
        have q : (match e[j]? with
          | some (.ow _) => putO ks rs os (e.set j (.ow d))
          | some (.io _) => putO ks rs os (e.set j (.io d))
          | _ => none) = some e2 := hp
        rw [ej] at q
        exact q
      obtain ⟨l1, l2⟩ := ih hp' nd'.2 ho.2 (fun i m => by
        rw [List.getElem?_set_ne (fun z : j = i => nd'.1 (by rw [z]; exact m))]
        exact hj i (List.mem_cons_of_mem _ m)) fun i s q => by
        rcases get_set q with ⟨e1, e2, _⟩ | ⟨e1, e2⟩
        · subst e1 e2
          exact .inr ⟨p, h2, hO _ _ h3, h4, ho.1.move (fun _ _ q _ => q) (fun a z => .inl (hA a z)) rfl⟩
        · rcases hs i s e2 with z | z
          · exact .inl ((List.mem_cons.mp z).resolve_left fun y => e1 (Role.s.inj y).symm)
          · exact .inr z
      exact ⟨l1.trans (List.length_set ..), l2⟩
  | @io h ks p vs j rs d0 ds h1 h2 h3 h4 h5 _ ih =>
    intro e e2 os hp nd ho hj hs
    cases os with
    | nil => cases hp
    | cons d os =>
      have nd' := List.nodup_cons.mp nd
      have ej : e[j]? = some (.io d0) := (hj j List.mem_cons_self).trans h1
      have hp' : putO ks rs os (e.set j (.io d)) = some e2 := by
        have q : (match e[j]? with
          | some (.ow _) => putO ks rs os (e.set j (.ow d))
          | some (.io _) => putO ks rs os (e.set j (.io d))
          | _ => none) = some e2 := hp
        rw [ej] at q
        exact q
      obtain ⟨l1, l2⟩ := ih hp' nd'.2 ho.2 (fun i m => by
        rw [List.getElem?_set_ne (fun z : j = i => nd'.1 (by rw [z]; exact m))]
        exact hj i (List.mem_cons_of_mem _ m)) fun i s q => by
        rcases get_set q with ⟨e1, e2, _⟩ | ⟨e1, e2⟩
        · subst e1 e2
          exact .inr ⟨p, h2, hO _ _ h3, h4, ho.1.move (fun _ _ q _ => q) (fun a z => .inl (hA a z)) rfl⟩
        · rcases hs i s e2 with z | z
          · exact .inl ((List.mem_cons.mp z).resolve_left fun y => e1 (Role.s.inj y).symm)
          · exact .inr z
      exact ⟨l1.trans (List.length_set ..), l2⟩
theorem outs_own {A' : Addr → Prop} : ∀ {ps : List Addr} {os : List D}, OutsD K A' H' ps os → ∀ p ∈ ps, ∃ o, H' p = some o
  | [], _, _, _, m => nomatch m
  | q :: ps, [], h, _, _ => h.elim
  | q :: ps, d :: os, h, p, m => by
    rcases List.mem_cons.mp m with rfl | m
    · exact h.1.some
    · exact outs_own h.2 p m
/-- the frame behind a call -/
theorem EnvO.aft {A' : Addr → Prop} (x : EnvO K g O H σ env S) (hO : ∀ a r, O a = some r → O' a = some r) (hA : ∀ a, fra g O' a → A' a) (hA' : ∀ a, A' a → fra g O a ∨ H a = none) (hn : ∀ a r, O' a = some r → O a = some r ∨ ∃ o, H' a = some o)
    {ks : List Bool} {vs : List V} {rs : List Opd} {ds os : List D} {e2 : Ev} (fa : FA K g O H σ env S.length ks vs rs ds) (nd : (ioR ks rs S.length).Nodup) (hp : putO ks rs os env = some e2) (af : Aft K (fra g O) A' H H' (ioA ks vs) os) : EnvO K g O' H' σ e2 S := by
  have out : ∀ {q : Addr} {ρ : Role}, O q = some ρ → ρ ∉ ioR ks rs S.length → q ∉ ioA ks vs := fun {q ρ} a n m => by
    obtain ⟨ρ', h1, h2⟩ := fa.mem q m
    rw [a] at h2
    exact n (Option.some.inj h2 ▸ h1)
  have fro : ∀ q, q ∈ ioA ks vs → fra g O q := fun q m => by
    obtain ⟨ρ, _, h2⟩ := fa.mem q m
    exact .inr ⟨ρ, h2⟩
  have mv : ∀ a o, H a = some o → ¬ fra g O a → H' a = some o := fun a o e n => af.keep a o e fun m => n (fro a m)
  have wv : ∀ a, fra g O' a → fra g O a ∨ H a = none := fun a z => hA' a (hA a z)
  have mr : ∀ {v : V} {d : D}, Rep K (fra g O) H v d → Rep K (fra g O') H' v d := fun r => r.move mv wv
  have mo : ∀ {q : Addr} {d : D} {ρ : Role}, O q = some ρ → ρ ∉ ioR ks rs S.length → Own K (fra g O) H q d → Own K (fra g O') H' q d := fun {q d ρ} a n r => r.move mv wv (by
    obtain ⟨o, e⟩ := r.some
    rw [e, af.keep q o e (out a n)])
  have trk : ∀ a o, H a = some o → ∃ o, H' a = some o := fun a o e => by
    by_cases m : a ∈ ioA ks vs
    · exact outs_own af.outs a m
    · exact ⟨o, af.keep a o e m⟩
  obtain ⟨l1, l2⟩ := put_ok (H' := H') hO hA fa hp nd af.outs (fun _ _ => rfl) fun i s q => by
    by_cases m : Role.s i ∈ ioR ks rs S.length
    · exact .inl m
    · refine .inr ?_
      have z := x.sl i s q
      cases s with
      | no => trivial
      | fz d => obtain ⟨v, h1, h2⟩ := z; exact ⟨v, h1, mr h2⟩
      | ow d => obtain ⟨b, h1, h2, h3, h4⟩ := z; exact ⟨b, h1, hO _ _ h2, h3, mo h2 m h4⟩
      | io d => obtain ⟨b, h1, h2, h3, h4⟩ := z; exact ⟨b, h1, hO _ _ h2, h3, mo h2 m h4⟩
  refine ⟨by rw [l1]; exact x.len, fun a o h1 h2 => ?_, fun a h => ?_, fun a r h => ?_, l2, ?_⟩
  · refine af.keep a o (x.keep a o h1 h2) fun m => ?_
    -- an object that the frame may not change is not among those of the call
    have key : ∀ {h : Nat} {ks : List Bool} {vs : List V} {rs : List Opd} {ds : List D}, FA K g O H σ env h ks vs rs ds → a ∉ ioA ks vs := by
      intro h ks vs rs ds fa
      induction fa with
      | nil => intro m; cases m
      | fz _ _ ih => rw [ioA_fz]; exact ih
      | ow _ _ _ n _ _ ih =>
        intro m
        rcases List.mem_cons.mp m with rfl | m
        · rw [h1] at n; cases n
        · exact ih m
      | io _ _ _ n _ _ ih =>
        intro m
        rcases List.mem_cons.mp m with rfl | m
        · exact h2 _ n
        · exact ih m
      | tm _ n _ _ ih =>
        intro m
        rcases List.mem_cons.mp m with rfl | m
        · rw [h1] at n; cases n
        · exact ih m
    exact key fa m
  · obtain ⟨o, e⟩ := x.trk a h; exact trk a o e
  · rcases hn a r h with h | h
    · obtain ⟨o, e⟩ := x.own a r h; exact trk a o e
    · exact h
  · have st := x.st
    have go : ∀ {T : List (V × Opd)}, T.length ≤ S.length → StOk K g O H σ T → StOk K g O' H' σ T := by
      intro T
      induction T with
      | nil => intro _ _; trivial
      | cons e T ih =>
        obtain ⟨v, e⟩ := e
        intro hl st
        cases e with
        | val d => exact ⟨mr st.1, ih (Nat.le_of_lt hl) st.2⟩
        | slot i => exact ⟨st.1, ih (Nat.le_of_lt hl) st.2⟩
        | tmp d =>
          obtain ⟨⟨q, h1, h2, h3, h4⟩, t⟩ := st
          exact ⟨⟨q, h1, hO _ _ h2, h3, mo h2 (fun m => absurd (ioR_high m) (Nat.not_le_of_lt hl)) h4⟩, ih (Nat.le_of_lt hl) t⟩
    exact go (Nat.le_refl _) st
end
section
variable {X : Cx} {W : WX} {k : Nat} {f : Addr} {fd : FuncData} {ps : List Str} {x : Str} {p pos : Pos} {e : Expr} {es : List Expr} {ks : List Bool} {ff : FD} {fs : M (List Opd)}
theorem call_imp {σ : L2.St} {H : Hp} {Q : VK} (q : tD X.K X.mg W (xCall ks ff fs) σ H Q) : tCallW W (spD X.K X.mg ks ff) [] (tDs X.K X.mg W fs) σ H Q := by
  obtain ⟨g, S, env, x, k⟩ := tD_ask.mp q
  refine tDs_then x (fun c e z => z) (fun z => z) k fun rs e vs H' hl y z => ?_
  rw [List.append_nil]
  obtain ⟨O, y⟩ := y
  unfold callE at z
  cases e1 : fzs ks rs e with
  | none => simp only [e1] at z; exact z.elim
  | some t =>
    obtain ⟨fd, en1⟩ := t
    simp only [e1] at z
    obtain ⟨O1, y1, pf⟩ := pf_of y hl e1
    cases e2 : argsD ks rs fd en1 with
    | none => simp only [e2] at z; exact z.elim
    | some ds =>
      simp only [e2] at z
      have fa := fa_of y1 pf e2
      by_cases nd0 : (ioR ks rs 0).Nodup
      case neg => rw [if_neg nd0] at z; exact z.elim
      rw [if_pos nd0] at z
      have nd := ioR_nd (n := S.length) nd0
      refine ⟨fra g O1, ds, y1.trkA, fa.args, fa.nodup nd, ?_⟩
      cases e3 : ff ds with
      | bad => simp only [e3] at z; exact z.elim
      | ex c os =>
        simp only [e3] at z
        cases e4 : putO ks rs os en1 with
        | none => simp only [e4] at z; exact z.elim
        | some en2 =>
          simp only [e4] at z
          exact fun C H2 hc af => z C H2 hc ⟨O1, y1.aft (fun _ _ q => q) (fun _ q => q) (fun _ q => .inl q) (fun _ _ q => .inl q) fa nd e4 af⟩
      | ok fresh d os =>
        simp only [e3] at z
        cases e4 : putO ks rs os en1 with
        | none => simp only [e4] at z; exact z.elim
        | some en2 =>
          simp only [e4] at z
          intro v H2 res
          cases fresh with
          | false =>
            obtain ⟨af, rp⟩ := res
            have y2 := y1.aft (fun _ _ q => q) (fun _ q => q) (fun _ q => .inl q) (fun _ _ q => .inl q) fa nd e4 af
            exact z v H2 ⟨O1, y2.push rp⟩
          | true =>
            obtain ⟨p, rfl, hp, af, own⟩ := res
            have np : O1 p = none := by
              cases q : O1 p with
              | none => rfl
              | some r =>
                obtain ⟨o, e⟩ := y1.own p r q
                rw [hp] at e; cases e
            have w : ∀ a, fra g (setO O1 p (some (Role.t S.length))) a → fra g O1 a ∨ a = p := fun a z => by
              by_cases q : a = p
              · exact .inr q
              · rcases z with z | ⟨r, z⟩
                · exact .inl (.inl z)
                · rw [setO_ne q] at z; exact .inl (.inr ⟨r, z⟩)
            obtain ⟨op, hop⟩ := own.some
            have y2 : EnvO X.K g (setO O1 p (some (Role.t S.length))) H2 σ en2 S := y1.aft (A' := fun a => fra g O1 a ∨ a = p) (fun a r q => by rw [setO_ne fun z => by rw [z, np] at q; cases q]; exact q) w (fun a z => by
              rcases z with z | z
              · exact .inl z
              · exact .inr (z ▸ hp)) (fun a r q => by
              by_cases z : a = p
              · exact .inr ⟨op, z ▸ hop⟩
              · rw [setO_ne z] at q; exact .inl q) fa nd e4 af
            exact z _ H2 ⟨_, y2.len, y2.keep, y2.trk, y2.own, y2.sl, ⟨p, rfl, setO_same, y1.h0 hp, own.move (fun _ _ q _ => q) (fun a z => .inl (w a z)) rfl⟩, y2.st⟩
theorem de_call (F : FnG X.prog X.w X.K X.mg X.base k f fd ps (spD X.K X.mg ks ff)) (C : At k X W) (hg : Gl X x) (hm : X.mg x = some (.ref f)) (hk : PySem.W.keepIn X.K (.ref f) = true) (hb : Binds X.K fd ps []) (ha : DA X W (e :: es) fs)
    (hdb : (x == ("__debug__" : Str)) = false := by decide) (he : starEach (e :: es) X.env = (false, eval e X.env) :: starEach es X.env := by rfl) (hpl : (backTo pos (starEach es X.env)).any (·.1) = false := by rfl) :
    DE X W (.Call (.Name x p) (e :: es) [] pos) (xCall ks ff fs) := PE.of (peG_call F C hg hm hk hb .nil ha hdb he hpl) fun σ H Q q => call_imp q
theorem de_call0 (F : FnG X.prog X.w X.K X.mg X.base k f fd ps (spD X.K X.mg ks ff)) (C : At k X W) (hg : Gl X x) (hm : X.mg x = some (.ref f)) (hk : PySem.W.keepIn X.K (.ref f) = true) (hb : Binds X.K fd ps [])
    (hdb : (x == ("__debug__" : Str)) = false := by decide) : DE X W (.Call (.Name x p) [] [] pos) (xCall ks ff aNil) := PE.of (peG_call0 F C hg hm hk hb .nil hdb) fun σ H Q q => by
  have h := call_imp q
  obtain ⟨g, S, env, x, k⟩ := tDs_ask.mp (show tDs X.K X.mg W aNil σ H (fun vs H1 => spD X.K X.mg ks ff (vs ++ []) H1 Q (fun cls d H' => W cls d σ H')) from h)
  exact k [] H rfl x
end
end DL

/-! DL12: built-in functions, items, slices, methods that change a list, raise. -/
namespace DL
open PySem PySem.Spec PyProof.Rows L2
/-! ### lists of ints, of bools -/
def asInts : List D → Option (List Int)
  | [] => some []
  | .int i :: l => (asInts l).map (i :: ·)
  | _ => none
def asBls : List D → Option (List Bool)
  | [] => some []
  | .bl i :: l => (asBls l).map (i :: ·)
  | _ => none
theorem asInts_map (ns : List Int) : asInts (ns.map D.int) = some ns := by
  induction ns with
  | nil => rfl
  | cons n r ih => show (asInts (r.map D.int)).map (n :: ·) = _; rw [ih]; rfl
theorem asBls_map (ns : List Bool) : asBls (ns.map D.bl) = some ns := by
  induction ns with
  | nil => rfl
  | cons n r ih => show (asBls (r.map D.bl)).map (n :: ·) = _; rw [ih]; rfl
section
variable {K : PySem.W.Frag} {A : Addr → Prop} {H : Hp}
theorem asInts_v : ∀ {vs : List V} {ds : List D} {ns : List Int}, RepL K A H vs ds → asInts ds = some ns → vs = ns.map V.int
  | _, _, _, .nil, h => by
    obtain rfl := Option.some.inj h
    rfl
  | v :: vs, d :: ds, ns, .cons r t, h => by
    cases d <;> try (cases h; done)
    obtain ⟨l, e, rfl⟩ := map_cons h
    cases r
    rw [asInts_v t e]
    rfl
theorem asBls_v : ∀ {vs : List V} {ds : List D} {ns : List Bool}, RepL K A H vs ds → asBls ds = some ns → vs = ns.map V.bl
  | _, _, _, .nil, h => by
    obtain rfl := Option.some.inj h
    rfl
  | v :: vs, d :: ds, ns, .cons r t, h => by
    cases d <;> try (cases h; done)
    obtain ⟨l, e, rfl⟩ := map_cons h
    cases r
    rw [asBls_v t e]
    rfl
theorem RepL.take : ∀ {vs : List V} {ds : List D} (n : Nat), RepL K A H vs ds → RepL K A H (vs.take n) (ds.take n)
  | _, _, 0, _ => .nil
  | _, _, _ + 1, .nil => .nil
  | _, _, n + 1, .cons r t => .cons r (RepL.take n t)
theorem RepL.drop : ∀ {vs : List V} {ds : List D} (n : Nat), RepL K A H vs ds → RepL K A H (vs.drop n) (ds.drop n)
  | _, _, 0, r => r
  | _, _, _ + 1, .nil => .nil
  | _, _, n + 1, .cons r t => RepL.drop n t
theorem RepL.rev {vs : List V} {ds : List D} (h : RepL K A H vs ds) : RepL K A H vs.reverse ds.reverse := by
  induction vs generalizing ds with
  | nil => cases h; exact .nil
  | cons v vs ih =>
    cases h with
    | cons r t =>
      rw [List.reverse_cons, List.reverse_cons]
      exact (ih t).append (.cons r .nil)
theorem RepL.set : ∀ {vs : List V} {ds : List D} {v : V} {d : D} (n : Nat), Rep K A H v d → RepL K A H vs ds → RepL K A H (vs.set n v) (ds.set n d)
  | _, _, _, _, _, _, .nil => .nil
  | _, _, _, _, 0, r, .cons _ t => .cons r t
  | _, _, _, _, n + 1, r, .cons q t => .cons q (RepL.set n r t)
theorem RepL.erase : ∀ {vs : List V} {ds : List D} (n : Nat), RepL K A H vs ds → RepL K A H (vs.eraseIdx n) (ds.eraseIdx n)
  | _, _, _, .nil => .nil
  | _, _, 0, .cons _ t => t
  | _, _, n + 1, .cons q t => .cons q (RepL.erase n t)
theorem RepL.dropLast {vs : List V} {ds : List D} (h : RepL K A H vs ds) : RepL K A H vs.dropLast ds.dropLast := by
  rw [List.dropLast_eq_take, List.dropLast_eq_take, h.len]
  exact h.take _
theorem RepL.flat {vs : List V} {ds : List D} (h : RepL K A H vs ds) : ∀ n : Nat, RepL K A H (List.replicate n vs).flatten (List.replicate n ds).flatten
  | 0 => .nil
  | n + 1 => by
    rw [List.replicate_succ, List.replicate_succ, List.flatten_cons, List.flatten_cons]
    exact h.append (RepL.flat h n)
end
/-! ### built-in functions -/
section
variable {X : Cx}
def oLen : ON
  | [.lst l] => some (.val (.int l.length))
  | [.scr l] => some (.val (.int l.length))
  | [.tup l] => some (.val (.int l.length))
  | [.str s] => if s.length ≤ sizeLine then some (.val (.int s.length)) else none
  | _ => none
theorem oLen_d : CallD X (.builtin "len") oLen := by
  refine ⟨_, fun pins s σ H xs us Q I r z => Or.elim z (call_len_seq pins s σ H xs us Q I r) (call_len_str pins s σ H xs us Q I r), fun A H vs ds res Q pr e q => ?_⟩
  unfold oLen at e
  split at e
  · obtain ⟨v, us, rfl, p1, p2⟩ := prepL_cons pr
    obtain rfl := prepL_nil p2
    obtain ⟨a, ws, rfl, h1, h2⟩ := p1
    obtain rfl := Option.some.inj e
    exact .inl ⟨a, ws, rfl, .inl (SqL.of h1), by rw [h2.len]; exact q.same (.int _)⟩
  · obtain ⟨v, us, rfl, p1, p2⟩ := prepL_cons pr
    obtain rfl := prepL_nil p2
    obtain ⟨a, ws, rfl, h1, h2⟩ := p1
    obtain rfl := Option.some.inj e
    exact .inl ⟨a, ws, rfl, .inl h1, by rw [h2.len]; exact q.same (.int _)⟩
  · obtain ⟨v, us, rfl, p1, p2⟩ := prepL_cons pr
    obtain rfl := prepL_nil p2
    obtain ⟨a, ws, rfl, h1, h2⟩ := p1
    obtain rfl := Option.some.inj e
    exact .inl ⟨a, ws, rfl, .inr h1, by rw [h2.len]; exact q.same (.int _)⟩
  · rename_i s
    obtain ⟨v, us, rfl, p1, p2⟩ := prepL_cons pr
    obtain rfl := prepL_nil p2
    obtain rfl := prep_str p1
    by_cases hz : s.length ≤ sizeLine
    · rw [if_pos hz] at e
      obtain rfl := Option.some.inj e
      exact .inr ⟨s, rfl, hz, q.same (.int _)⟩
    · rw [if_neg hz] at e; cases e
  · cases e
def oMax : ON
  | [.int i, .int j] => some (.val (.int (max i j)))
  | _ => none
def oMin : ON
  | [.int i, .int j] => some (.val (.int (min i j)))
  | _ => none
theorem prepL_ints2 {K : PySem.W.Frag} {A : Addr → Prop} {H : Hp} {vs : List V} {i j : Int} (pr : PRepL K A H vs [.int i, .int j]) : vs = [.int i, .int j] := by
  obtain ⟨v, us, rfl, p1, p2⟩ := prepL_cons pr
  obtain ⟨v2, us2, rfl, p3, p4⟩ := prepL_cons p2
  obtain rfl := prep_int p1
  obtain rfl := prep_int p3
  obtain rfl := prepL_nil p4
  rfl
theorem prepL_one {K : PySem.W.Frag} {A : Addr → Prop} {H : Hp} {vs : List V} {d : D} (pr : PRepL K A H vs [d]) : ∃ v, vs = [v] ∧ PRep K A H v d := by
  obtain ⟨v, us, rfl, p1, p2⟩ := prepL_cons pr
  obtain rfl := prepL_nil p2
  exact ⟨v, rfl, p1⟩
theorem oMax_d (hc : X.calm = true) : CallD X (.builtin "max") oMax := by
  refine ⟨_, call_max2 hc, fun A H vs ds res Q pr e q => ?_⟩
  unfold oMax at e
  split at e
  · obtain rfl := prepL_ints2 pr
    obtain rfl := Option.some.inj e
    refine ⟨_, _, rfl, q.same ?_⟩
    rename_i i j
    have e : max i j = if j > i then j else i := by by_cases h : j > i <;> simp [h] <;> omega
    rw [e]
    exact .int _
  · cases e
theorem oMin_d (hc : X.calm = true) : CallD X (.builtin "min") oMin := by
  refine ⟨_, call_min2 hc, fun A H vs ds res Q pr e q => ?_⟩
  unfold oMin at e
  split at e
  · obtain rfl := prepL_ints2 pr
    obtain rfl := Option.some.inj e
    refine ⟨_, _, rfl, q.same ?_⟩
    rename_i i j
    have e : min i j = if j < i then j else i := by by_cases h : j < i <;> simp [h] <;> omega
    rw [e]
    exact .int _
  · cases e
def oAbs : ON
  | [.int i] => some (.val (.int (if i < 0 then -i else i)))
  | _ => none
theorem oAbs_d : CallD X (.builtin "abs") oAbs := by
  refine ⟨_, call_abs, fun A H vs ds res Q pr e q => ?_⟩
  unfold oAbs at e
  split at e
  · obtain ⟨v, rfl, p1⟩ := prepL_one pr
    obtain rfl := prep_int p1
    obtain rfl := Option.some.inj e
    exact ⟨_, rfl, q.same (.int _)⟩
  · cases e
def oInt : ON
  | [.int i] => some (.val (.int i))
  | [.bl b] => some (.val (.int (if b = true then 1 else 0)))
  | _ => none
theorem oInt_d : CallD X (.type "int") oInt := by
  refine ⟨_, call_int1, fun A H vs ds res Q pr e q => ?_⟩
  unfold oInt at e
  split at e
  · obtain ⟨v, rfl, p1⟩ := prepL_one pr
    obtain rfl := prep_int p1
    obtain rfl := Option.some.inj e
    exact .inl ⟨_, rfl, q.same (.int _)⟩
  · obtain ⟨v, rfl, p1⟩ := prepL_one pr
    obtain rfl := prep_bl p1
    obtain rfl := Option.some.inj e
    exact .inr ⟨_, rfl, q.same (.int _)⟩
  · cases e
def oSum : ON
  | [.lst l] => (asInts l).map fun ns => .val (.int ns.sum)
  | _ => none
theorem oSum_d (hc : X.calm = true) : CallD X (.builtin "sum") oSum := by
  refine ⟨_, cr_sum hc, fun A H vs ds res Q pr e q => ?_⟩
  unfold oSum at e
  split at e
  · rename_i l
    obtain ⟨v, rfl, p1⟩ := prepL_one pr
    obtain ⟨a, ws, rfl, h1, h2⟩ := p1
    cases ei : asInts l with
    | none => rw [ei] at e; cases e
    | some ns =>
      rw [ei] at e
      obtain rfl := Option.some.inj e
      obtain rfl := asInts_v h2 ei
      exact ⟨a, ns, rfl, SqL.of h1, q.same (.int _)⟩
  · cases e
def oAll : ON
  | [.lst l] => (asBls l).map fun ns => .val (.bl (ns.all id))
  | _ => none
def oAny : ON
  | [.lst l] => (asBls l).map fun ns => .val (.bl (ns.any id))
  | _ => none
theorem oAll_d (hc : X.calm = true) : CallD X (.builtin "all") oAll := by
  refine ⟨_, cr_all hc, fun A H vs ds res Q pr e q => ?_⟩
  unfold oAll at e
  split at e
  · rename_i l
    obtain ⟨v, rfl, p1⟩ := prepL_one pr
    obtain ⟨a, ws, rfl, h1, h2⟩ := p1
    cases ei : asBls l with
    | none => rw [ei] at e; cases e
    | some ns =>
      rw [ei] at e
      obtain rfl := Option.some.inj e
      obtain rfl := asBls_v h2 ei
      exact ⟨a, ns, rfl, SqL.of h1, q.same (.bl _)⟩
  · cases e
theorem oAny_d (hc : X.calm = true) : CallD X (.builtin "any") oAny := by
  refine ⟨_, cr_any hc, fun A H vs ds res Q pr e q => ?_⟩
  unfold oAny at e
  split at e
  · rename_i l
    obtain ⟨v, rfl, p1⟩ := prepL_one pr
    obtain ⟨a, ws, rfl, h1, h2⟩ := p1
    cases ei : asBls l with
    | none => rw [ei] at e; cases e
    | some ns =>
      rw [ei] at e
      obtain rfl := Option.some.inj e
      obtain rfl := asBls_v h2 ei
      exact ⟨a, ns, rfl, SqL.of h1, q.same (.bl _)⟩
  · cases e
def oList : ON
  | [.lst l] => some (.tmp (.lst l))
  | [.scr l] => some (.tmp (.lst l))
  | [.tup l] => some (.tmp (.lst l))
  | _ => none
theorem oList_d : CallD X (.type "list") oList := by
  refine ⟨_, call_list_of, fun A H vs ds res Q pr e q => ?_⟩
  unfold oList at e
  split at e
  · obtain ⟨v, rfl, p1⟩ := prepL_one pr
    obtain ⟨a, ws, rfl, h1, h2⟩ := p1
    obtain rfl := Option.some.inj e
    exact ⟨a, ws, rfl, .inl (SqL.of h1), rep_tmp q h2⟩
  · obtain ⟨v, rfl, p1⟩ := prepL_one pr
    obtain ⟨a, ws, rfl, h1, h2⟩ := p1
    obtain rfl := Option.some.inj e
    exact ⟨a, ws, rfl, .inl h1, rep_tmp q h2⟩
  · obtain ⟨v, rfl, p1⟩ := prepL_one pr
    obtain ⟨a, ws, rfl, h1, h2⟩ := p1
    obtain rfl := Option.some.inj e
    exact ⟨a, ws, rfl, .inr h1, rep_tmp q h2⟩
  · cases e
/-- ascending -/
def srt (l : List Int) : List Int := l.mergeSort (fun a b => decide (a ≤ b))
theorem srt_perm (l : List Int) : (srt l).Perm l := List.mergeSort_perm l _
theorem srt_pw (l : List Int) : (srt l).Pairwise (· ≤ ·) := by
  have h := List.pairwise_mergeSort (le := fun a b : Int => decide (a ≤ b)) (fun a b c h1 h2 => by simp only [decide_eq_true_eq] at *; omega) (fun a b => by simp only [Bool.or_eq_true, decide_eq_true_eq]; omega) l
  exact h.imp fun h => of_decide_eq_true h
theorem srt_unique {l l' : List Int} (hp : l'.Perm l) (hs : l'.Pairwise (· ≤ ·)) : l' = srt l :=
  List.Perm.eq_of_pairwise (fun a b _ _ h1 h2 => Int.le_antisymm h1 h2) hs (srt_pw l) (hp.trans (srt_perm l).symm)
def oSorted : ON
  | [.lst l] => (asInts l).map fun ns => .tmp (.lst ((srt ns).map D.int))
  | _ => none
theorem oSorted_d : CallD X (.builtin "sorted") oSorted := by
  refine ⟨_, cr_sortedI, fun A H vs ds res Q pr e q => ?_⟩
  unfold oSorted at e
  split at e
  · rename_i l
    obtain ⟨v, rfl, p1⟩ := prepL_one pr
    obtain ⟨a, ws, rfl, h1, h2⟩ := p1
    cases ei : asInts l with
    | none => rw [ei] at e; cases e
    | some ns =>
      rw [ei] at e
      obtain rfl := Option.some.inj e
      obtain rfl := asInts_v h2 ei
      refine ⟨a, ns, rfl, SqL.of h1, fun ns' p hp hw hn => ?_⟩
      obtain rfl := srt_unique hp hw
      exact rep_tmp q (repL_ints _) p hn
  · cases e
/-! ### isinstance -/
def tyName : D → String
  | .non => "NoneType"
  | .bl _ => "bool"
  | .int _ => "int"
  | .str _ => "str"
  | .lst _ => "list"
  | .scr _ => "list"
  | .tup _ => "tuple"
  | .dct _ => "dict"
def isTy (n : String) (d : D) : Bool := match n, tyName d with
  | "int", "bool" => true
  | n, m => n == m
def oIsi (n : String) : O1 := fun d => if kitB (tyName d) n = some (isTy n d) then some (.val (.bl (isTy n d))) else none
theorem prep_ty {K : PySem.W.Frag} {A : Addr → Prop} {H : Hp} {v : V} {d : D} (h : PRep K A H v d) : TyX K H v (.type (tyName d)) := by
  cases d with
  | non => obtain rfl := prep_non h; exact .base .non
  | bl b => obtain rfl := prep_bl h; exact .base (.bl b)
  | int i => obtain rfl := prep_int h; exact .base (.int i)
  | str x => obtain rfl := prep_str h; exact .base (.str x)
  | lst l => obtain ⟨a, vs, rfl, h1, h2⟩ := h; exact .base (.lst h1)
  | scr l =>
    obtain ⟨a, vs, rfl, h1, h2⟩ := h
    rcases h1 with (h1 | ⟨o, h1⟩) | ⟨o, its, n, h1, h2, _⟩
    · exact .base (.lst h1)
    · exact .base (.frz h1)
    · exact .kList h1 h2
  | tup l =>
    obtain ⟨a, vs, rfl, h1, h2⟩ := h
    rcases h1 with (h1 | ⟨o, h1⟩) | ⟨o, its, n, h1, h2, _⟩
    · exact .base (.tup h1)
    · exact .fTuple h1
    · exact .kTuple h1 h2
  | dct l =>
    obtain ⟨a, vs, rfl, h1, h2⟩ := h
    rcases h1 with h1 | ⟨o, h1⟩
    · exact .base (.dK h1)
    · exact .fDict h1
end
section
variable {X : Cx} {W : WX} {a b c : Expr} {es : List Expr} {fa fb fc : M Opd} {pos p p2 : Pos} {x : Str} {k : Nat}
theorem de_isi {n : String} (hg : Gl X "isinstance") (hm : X.mg "isinstance" = none) (ha : DE X W a fa) (hg2 : Gl X x) (hm2 : X.mg x = none) (hv2 : bootBuiltins x = some (.type n)) (hn2 : x ≠ "__name__" := by decide) (hd2 : (x == ("__debug__" : Str)) = false := by decide)
    (he : starEach [a, .Name x p2] X.env = (false, eval a X.env) :: starEach [.Name x p2] X.env := by rfl) (he2 : starEach [.Name x p2] X.env = (false, eval (.Name x p2) X.env) :: starEach [] X.env := by rfl) (hpl : (backTo pos (starEach [.Name x p2] X.env)).any (·.1) = false := by rfl) :
    DE X W (.Call (.Name "isinstance" p) [a, .Name x p2] [] pos) (x1 (oIsi n) fa) := PE.of (pe_callB call_isi hg hm (by decide +kernel) (pa_cons ha (pa_cons (pe_bltn (v := .ty n) hg2 hm2 hv2 rfl hn2 hd2) pa_nil he2) he) (by decide) (by decide) he hpl) fun σ H Q q => by
  obtain ⟨g, S, env, x, k⟩ := tD_ask.mp q
  refine tD_then x (fun c e z => z) (fun z => z) k fun r e v H' y z => ?_
  obtain ⟨O, y⟩ := y
  cases pk : peek r e with
  | none => simp only [pk] at z; exact z.elim
  | some d =>
    simp only [pk] at z
    unfold oIsi at z
    by_cases hk : kitB (tyName d) n = some (isTy n d)
    · rw [if_pos hk] at z
      exact ⟨v, .ty n, _, _, _, rfl, .ty n, prep_ty (y.peek List.mem_cons_self pk), kit_ty hk, z _ _ ⟨O, (y.drop (T := [_])).push (.bl _)⟩⟩
    · rw [if_neg hk] at z; exact z.elim
/-! ### items -/
def atD (l : List D) (i : Int) : Option D := atI l i
theorem atD_v {K : PySem.W.Frag} {A : Addr → Prop} {H : Hp} {vs : List V} {ds : List D} {i : Int} {d : D} (h : RepL K A H vs ds) (e : atD ds i = some d) : ∃ v, atI vs i = some v ∧ Rep K A H v d := by
  unfold atD atI at e
  unfold atI
  rw [h.len]
  cases q : ixN ds.length i with
  | none => rw [q] at e; cases e
  | some j =>
    rw [q] at e
    exact h.get' (i := j) e
def oIx : O2
  | .lst l, .int i => (atD l i).map .val
  | .scr l, .int i => (atD l i).map .val
  | .tup l, .int i => (atD l i).map .val
  | .str s, .int i => if s.length ≤ sizeLine then (atI s.cps.toList i).map fun c => .val (.str ⟨#[c]⟩) else none
  | _, _ => none
theorem ixr_or {r r' : R2} (h : IxR X r) (h' : IxR X r') : IxR X (fun x y H Q => r x y H Q ∨ r' x y H Q) := fun va sl pins s σ H x y v u Q I rx ry z => z.elim (h va sl pins s σ H x y v u Q I rx ry) (h' va sl pins s σ H x y v u Q I rx ry)
theorem oIx_d : IxD X oIx := by
  refine ⟨_, ixr_or ix_list (ixr_or ix_tup ix_str), fun A H x y d1 d2 res Q p1 p2 e q => ?_⟩
  unfold oIx at e
  split at e
  · rename_i l i
    obtain rfl := prep_int p2
    obtain ⟨a, vs, rfl, h1, h2⟩ := p1
    cases ed : atD l i with
    | none => rw [ed] at e; cases e
    | some d =>
      rw [ed] at e
      obtain rfl := Option.some.inj e
      obtain ⟨v, e1, r⟩ := atD_v h2 ed
      exact .inl ⟨a, vs, i, v, rfl, rfl, SqL.of h1, e1, q.same r⟩
  · rename_i l i
    obtain rfl := prep_int p2
    obtain ⟨a, vs, rfl, h1, h2⟩ := p1
    cases ed : atD l i with
    | none => rw [ed] at e; cases e
    | some d =>
      rw [ed] at e
      obtain rfl := Option.some.inj e
      obtain ⟨v, e1, r⟩ := atD_v h2 ed
      exact .inl ⟨a, vs, i, v, rfl, rfl, h1, e1, q.same r⟩
  · rename_i l i
    obtain rfl := prep_int p2
    obtain ⟨a, vs, rfl, h1, h2⟩ := p1
    cases ed : atD l i with
    | none => rw [ed] at e; cases e
    | some d =>
      rw [ed] at e
      obtain rfl := Option.some.inj e
      obtain ⟨v, e1, r⟩ := atD_v h2 ed
      exact .inr (.inl ⟨a, vs, i, v, rfl, rfl, h1, e1, q.same r⟩)
  · rename_i s i
    obtain rfl := prep_int p2
    obtain rfl := prep_str p1
    by_cases hz : s.length ≤ sizeLine
    · rw [if_pos hz] at e
      cases ed : atI s.cps.toList i with
      | none => rw [ed] at e; cases e
      | some c =>
        rw [ed] at e
        obtain rfl := Option.some.inj e
        exact .inr (.inr ⟨s, i, c, rfl, rfl, hz, ed, q.same (.str _)⟩)
    · rw [if_neg hz] at e; cases e
  · cases e
/-! ### slices -/
def pNone : M (Option Int) := M.pure none
def pSome (f : M Opd) : M (Option Int) := f.bind fun r => fun env => match peek r env with
  | some (.int i) => .ok (some i) env
  | _ => .bad
def tPD (K : PySem.W.Frag) (mg : Str → Option Value) (W : WX) (f : M (Option Int)) : TO := fun σ H Q => ∃ g S env, EnvOk K g H σ env S ∧ (match f env with
  | .ok o e => ∀ H', EnvOk K g H' σ e S → Q o H'
  | .ex c e => ∀ C H', mg c = some (Value.ref C) → EnvOk K g H' σ e S → W (.ref C) none σ H'
  | .bad => False)
abbrev DP (X : Cx) (W : WX) (e : Option Expr) (f : M (Option Int)) : Prop := PO X e (tPD X.K X.mg W f)
theorem PO.of {e : Option Expr} {t t' : TO} (h : PO X e t) (w : ∀ σ H R, t' σ H R → t σ H R) : PO X e t' := ⟨fun p s σ H Q I q => h.run p s σ H Q I (w σ H Q q)⟩
def askP (K : PySem.W.Frag) (mg : Str → Option Value) (W : WX) (g : Gx) (S : List (V × Opd)) (σ : L2.St) (Q : Option Int → Hp → Prop) : DL.R (Option Int) → Prop
  | .ok o e => ∀ H', EnvOk K g H' σ e S → Q o H'
  | .ex c e => ∀ C H', mg c = some (Value.ref C) → EnvOk K g H' σ e S → W (.ref C) none σ H'
  | .bad => False
theorem tPD_ask {K : PySem.W.Frag} {mg : Str → Option Value} {f : M (Option Int)} {σ : L2.St} {H : Hp} {R : Option Int → Hp → Prop} : tPD K mg W f σ H R ↔ ∃ g S env, EnvOk K g H σ env S ∧ askP K mg W g S σ R (f env) := by
  constructor
  · rintro ⟨g, S, env, x, k⟩
    refine ⟨g, S, env, x, ?_⟩
    generalize f env = r at k
    cases r <;> exact k
  · rintro ⟨g, S, env, x, k⟩
    refine ⟨g, S, env, x, ?_⟩
    generalize f env = r at k
    cases r <;> exact k
theorem tPD_then {α : Type} {f : M (Option Int)} {P : DL.R α → Prop} {rest : Option Int → M α} {K : PySem.W.Frag} {mg : Str → Option Value} {g : Gx} {S : List (V × Opd)} {σ : L2.St} {H : Hp} {env : Ev} {Q : Option Int → Hp → Prop} (x : EnvOk K g H σ env S)
    (hex : ∀ c e, P (.ex c e) → ∀ C H', mg c = some (Value.ref C) → EnvOk K g H' σ e S → W (.ref C) none σ H') (hbad : ¬ P .bad) (h : P (f.bind rest env)) (hk : ∀ b e H', EnvOk K g H' σ e S → P (rest b e) → Q b H') : tPD K mg W f σ H Q := by
  refine tPD_ask.mpr ⟨g, S, env, x, ?_⟩
  unfold M.bind at h
  cases e : f env with
  | bad => rw [e] at h; exact hbad h
  | ex c e' => rw [e] at h; exact hex c e' h
  | ok r en => rw [e] at h; exact fun H' y => hk r en H' y h
theorem dp_none : DP X W none pNone := PO.of po_none fun σ H Q q => by
  obtain ⟨g, S, env, x, k⟩ := tPD_ask.mp q
  exact k H x
theorem dp_some (h : DE X W a fa) : DP X W (some a) (pSome fa) := PO.of (po_some h) fun σ H Q q => by
  obtain ⟨g, S, env, x, k⟩ := tPD_ask.mp q
  refine tD_then x (P := askP X.K X.mg W g S σ Q) (fun c e z => z) (fun z => z) k fun r e v H' y z => ?_
  obtain ⟨O, y⟩ := y
  cases pk : peek r e with
  | none => simp only [pk] at z; exact z.elim
  | some d =>
    cases d <;> simp only [pk] at z <;> try exact z.elim
    rename_i i
    exact ⟨i, prep_int (y.peek List.mem_cons_self pk), z H' ⟨O, y.drop (T := [_])⟩⟩
def cutD (l : List D) (lo hi : Option Int) : List D := (l.drop (HT.sIx l.length 0 lo)).take (HT.sIx l.length l.length hi - HT.sIx l.length 0 lo)
def oSl (d : D) (lo hi : Option Int) : Option Opd := match d with
  | .lst l => some (.tmp (.lst (cutD l lo hi)))
  | .scr l => some (.tmp (.lst (cutD l lo hi)))
  | .tup l => if HT.sIx l.length 0 lo = 0 ∧ HT.sIx l.length l.length hi = l.length then none else some (.val (.tup (cutD l lo hi)))
  | .str s => if s.length ≤ sizeLine then some (.val (.str (cutS s lo hi))) else none
  | _ => none
theorem cut_rep {K : PySem.W.Frag} {A : Addr → Prop} {H : Hp} {vs : List V} {ds : List D} {lo hi : Option Int} (h : RepL K A H vs ds) : RepL K A H (cutV vs lo hi) (cutD ds lo hi) := by
  unfold cutV cutD
  rw [h.len]
  exact (h.drop _).take _
def xSl (a : M Opd) (lo hi : M (Option Int)) : M Opd := a.bind fun r => lo.bind fun l => hi.bind fun h => fun env => match peek r env with
  | some d => match oSl d l h with
    | some (.val d) => .ok (.val d) env
    | some (.tmp d) => .ok (.tmp d) env
    | _ => .bad
  | none => .bad
theorem de_sl {lo hi : Option Expr} {fl fh : M (Option Int)} (ha : DE X W a fa) (hl : DP X W lo fl) (hh : DP X W hi fh) : DE X W (.Subscript a (.Slice lo hi none p2) pos) (xSl fa fl fh) := PE.of (pe_slice (SlR.or sl_list (SlR.or sl_tup sl_str)) ha hl hh) fun σ H Q q => by
  obtain ⟨g, S, env, x, k⟩ := tD_ask.mp q
  refine tD_then x (fun c e z => z) (fun z => z) k fun r e1 v H1 x1 z1 => ?_
  refine tPD_then x1 (P := askE X.K X.mg W g S σ Q) (fun c e z C H' hc y => z C H' hc (by obtain ⟨O, y⟩ := y; exact ⟨O, y.drop (T := [_])⟩)) (fun z => z) z1 fun l e2 H2 x2 z2 => ?_
  refine tPD_then x2 (P := askE X.K X.mg W g S σ Q) (fun c e z C H' hc y => z C H' hc (by obtain ⟨O, y⟩ := y; exact ⟨O, y.drop (T := [_])⟩)) (fun z => z) z2 fun h e3 H3 x3 z3 => ?_
  obtain ⟨O, y⟩ := x3
  cases pk : peek r e3 with
  | none => simp only [pk] at z3; exact z3.elim
  | some d =>
    simp only [pk] at z3
    have pr := y.peek List.mem_cons_self pk
    cases es : oSl d l h with
    | none => simp only [es] at z3; exact z3.elim
    | some res =>
      simp only [es] at z3
      have q : resQ X.K (fra g O) H3 res Q := by
        cases res with
        | val d' => exact y.res (T := [_]) z3
        | tmp d' => exact y.res (T := [_]) z3
        | slot i => exact z3.elim
      unfold oSl at es
      cases d with
      | lst ds =>
        obtain ⟨a, vs, rfl, h1, h2⟩ := pr
        obtain rfl := Option.some.inj es
        exact .inl ⟨a, vs, rfl, SqL.of h1, rep_tmp q (cut_rep h2)⟩
      | scr ds =>
        obtain ⟨a, vs, rfl, h1, h2⟩ := pr
        obtain rfl := Option.some.inj es
        exact .inl ⟨a, vs, rfl, h1, rep_tmp q (cut_rep h2)⟩
      | tup ds =>
        obtain ⟨a, vs, rfl, h1, h2⟩ := pr
        by_cases hw : HT.sIx ds.length 0 l = 0 ∧ HT.sIx ds.length ds.length h = ds.length
        · simp only [if_pos hw] at es; cases es
        · simp only [if_neg hw] at es
          obtain rfl := Option.some.inj es
          exact .inr (.inl ⟨a, vs, rfl, h1, by rw [h2.len]; exact hw, rep_tup q (cut_rep h2) y.trkA⟩)
      | str s =>
        obtain rfl := prep_str pr
        by_cases hz : s.length ≤ sizeLine
        · simp only [if_pos hz] at es
          obtain rfl := Option.some.inj es
          exact .inr (.inr ⟨s, rfl, hz, q.same (.str _)⟩)
        · simp only [if_neg hz] at es; cases es
      | non => cases es
      | bl _ => cases es
      | int _ => cases es
      | dct _ => cases es
/-- xs[::-1] -/
def oRev : O1
  | .lst l => some (.tmp (.lst l.reverse))
  | .scr l => some (.tmp (.lst l.reverse))
  | _ => none
theorem de_rev {j : Nat} {p1 p3 : Pos} (ha : DE X W a fa) : DE X W (.Subscript a (.Slice none none (some (.UnaryOp .USub (.Constant (.int 1) j p1) p2)) p3) pos) (x1 oRev fa) := PE.of (pe_revL ha) fun σ H Q q => by
  obtain ⟨g, S, env, x, k⟩ := tD_ask.mp q
  refine tD_then x (fun c e z => z) (fun z => z) k fun r e v H' y z => ?_
  obtain ⟨O, y⟩ := y
  cases pk : peek r e with
  | none => simp only [pk] at z; exact z.elim
  | some d =>
    simp only [pk] at z
    have pr := y.peek List.mem_cons_self pk
    cases d with
    | lst l =>
      obtain ⟨a, vs, rfl, h1, h2⟩ := pr
      exact ⟨a, vs, rfl, SqL.of h1, rep_tmp (y.res (T := [_]) z) h2.rev⟩
    | scr l =>
      obtain ⟨a, vs, rfl, h1, h2⟩ := pr
      exact ⟨a, vs, rfl, h1, rep_tmp (y.res (T := [_]) z) h2.rev⟩
    | non => exact z.elim
    | bl _ => exact z.elim
    | int _ => exact z.elim
    | str _ => exact z.elim
    | tup _ => exact z.elim
    | dct _ => exact z.elim
/-! ### * of a list, in -/
def oRepL : O2
  | .lst l, .int k => if fit62 k = true ∧ l.length * k.toNat ≤ sizeLine then some (.tmp (.lst (List.replicate k.toNat l).flatten)) else none
  | _, _ => none
theorem oRepL_d : OpD X (binaryOp .Mult) oRepL := by
  refine ⟨_, op_rep, fun A H x y d1 d2 res Q p1 p2 e q => ?_⟩
  unfold oRepL at e
  split at e
  · rename_i l k
    obtain rfl := prep_int p2
    obtain ⟨a, vs, rfl, h1, h2⟩ := p1
    split at e
    · rename_i hc
      obtain rfl := Option.some.inj e
      have hf := fit62_of hc.1
      exact ⟨a, k, vs, rfl, rfl, h1, by omega, by omega, by rw [h2.len]; exact hc.2, rep_tmp q (h2.flat _)⟩
    · cases e
  · cases e
def oRepS : O2
  | .str x, .int k => if fit62 k = true ∧ x.length * k.toNat ≤ sizeLine then some (.val (.str (Txt.mul x k))) else none
  | _, _ => none
theorem mulOk_of {x : Str} {k : Int} (h1 : fit62 k = true) (h2 : x.length * k.toNat ≤ sizeLine) : MulOk x k := by
  have h1 := fit62_of h1
  rw [sizeLine_eq] at h2
  refine ⟨by simp only [Bool.or_eq_false_iff, decide_eq_false_iff_not]; omega, fun h _ => ?_, fun h _ => ?_⟩
  · have hk : (k.toNat : Int) = k := Int.toNat_of_nonneg (by omega)
    have h3 : (x.length : Int) * k ≤ 16777216 := by
      rw [← hk, ← Int.natCast_mul]
      omega
    have h4 : (x.length : Int) ≤ (2 ^ 63 - 1) / k := Int.le_ediv_of_mul_le (by omega) (by omega)
    omega
  · unfold Builtin.Str.tooLong
    exact decide_eq_false (by rw [sizeLine_eq]; omega)
theorem oRepS_d : OpD X (binaryOp .Mult) oRepS := by
  refine ⟨fun x y H Q => ∃ a k, x = .str a ∧ y = .int k ∧ MulOk a k ∧ Q (.str (Txt.mul a k)) H, fun pins s σ H x y v u Q I rx ry z => ?_, fun A H x y d1 d2 res Q p1 p2 e q => ?_⟩
  · obtain ⟨a, k, rfl, rfl, hm, q⟩ := z
    obtain ⟨t, rfl⟩ := rx
    obtain ⟨t', rfl⟩ := ry
    exact SB.mul hm fun t2 k2 => ⟨.str (Txt.mul a k), H, I.tok _, ⟨_, rfl⟩, q⟩
  · unfold oRepS at e
    split at e
    · rename_i a k
      obtain rfl := prep_str p1
      obtain rfl := prep_int p2
      split at e
      · rename_i hc
        obtain rfl := Option.some.inj e
        exact ⟨a, k, rfl, rfl, mulOk_of hc.1 hc.2, q.same (.str _)⟩
      · cases e
    · cases e
def oMul : O2
  | .int i, .int j => if cMul i j = true then some (.val (.int (i * j))) else none
  | .lst l, .int k => if fit62 k = true ∧ l.length * k.toNat ≤ sizeLine then some (.tmp (.lst (List.replicate k.toNat l).flatten)) else none
  | .str x, .int k => if fit62 k = true ∧ x.length * k.toNat ≤ sizeLine then some (.val (.str (Txt.mul x k))) else none
  | _, _ => none
theorem oMul_d : OpD X (binaryOp .Mult) oMul := (oMulI_d.or oRepL_d (g := fun a b => (oMulI a b).orElse fun _ => oRepL a b) fun a b r h => by
    cases q : oMulI a b with
    | some r' => rw [q] at h; exact .inl h
    | none => rw [q] at h; exact .inr h).or oRepS_d fun a b r h => by
  unfold oMul at h
  split at h
  · rename_i i j
    refine .inl ?_
    show (oMulI (.int i) (.int j)).orElse _ = some r
    have h' : oMulI (.int i) (.int j) = some r := h
    rw [h']; rfl
  · exact .inl h
  · exact .inr h
  · cases h
/-- x in xs, the things none, bools, ints, texts -/
def flatD : D → Bool
  | .non => true
  | .bl _ => true
  | .int _ => true
  | .str _ => true
  | _ => false
def eqF : D → D → Bool
  | .non, .non => true
  | .bl a, .bl b => a == b
  | .bl a, .int b => (if a then 1 else 0) == b
  | .int a, .bl b => a == (if b then 1 else 0)
  | .int a, .int b => a == b
  | .str a, .str b => a == b
  | _, _ => false
theorem rep_flat {K : PySem.W.Frag} {A : Addr → Prop} {H : Hp} {v : V} {d : D} (h : Rep K A H v d) (f : flatD d = true) : flatV v = true := by
  cases h <;> first | rfl | cases f
theorem rep_eqF {K : PySem.W.Frag} {A A' : Addr → Prop} {H : Hp} {v u : V} {d e : D} (h : Rep K A H v d) (h' : Rep K A' H u e) (f : flatD d = true) (f' : flatD e = true) : eqV v u = eqF d e := by
  cases h <;> first | (cases f; done) | (cases h' <;> first | rfl | cases f')
theorem prep_flat {K : PySem.W.Frag} {A : Addr → Prop} {H : Hp} {v : V} {d : D} (h : PRep K A H v d) (f : flatD d = true) : Rep K A H v d := by
  cases d <;> first | exact h | cases f
theorem repL_flat {K : PySem.W.Frag} {A : Addr → Prop} {H : Hp} : ∀ {vs : List V} {ds : List D}, RepL K A H vs ds → ds.all flatD = true → vs.all flatV = true
  | _, _, .nil, _ => rfl
  | _, _, .cons r t, h => by
    rw [List.all_cons, Bool.and_eq_true] at h ⊢
    exact ⟨rep_flat r h.1, repL_flat t h.2⟩
theorem repL_in {K : PySem.W.Frag} {A : Addr → Prop} {H : Hp} {x : V} {dx : D} (hx : Rep K A H x dx) (fx : flatD dx = true) : ∀ {vs : List V} {ds : List D}, RepL K A H vs ds → ds.all flatD = true → inV x vs = ds.any fun y => eqF y dx
  | _, _, .nil, _ => rfl
  | _, _, .cons r t, h => by
    rw [List.all_cons, Bool.and_eq_true] at h
    unfold inV
    rw [List.any_cons, List.any_cons, rep_eqF r hx h.1 fx]
    have := repL_in hx fx t h.2
    unfold inV at this
    rw [this]
def itemsD : D → Option (List D)
  | .lst l => some l
  | .scr l => some l
  | .tup l => some l
  | _ => none
theorem prep_items {K : PySem.W.Frag} {A : Addr → Prop} {H : Hp} {v : V} {d : D} {l : List D} (h : PRep K A H v d) (e : itemsD d = some l) : ∃ a vs, v = .ref a ∧ (SqL K H a vs ∨ SqT K H a vs) ∧ RepL K A H vs l := by
  cases d <;> try (cases e; done)
  · obtain rfl := Option.some.inj e
    obtain ⟨a, vs, rfl, h1, h2⟩ := h
    exact ⟨a, vs, rfl, .inl (SqL.of h1), h2⟩
  · obtain rfl := Option.some.inj e
    obtain ⟨a, vs, rfl, h1, h2⟩ := h
    exact ⟨a, vs, rfl, .inr h1, h2⟩
  · obtain rfl := Option.some.inj e
    obtain ⟨a, vs, rfl, h1, h2⟩ := h
    exact ⟨a, vs, rfl, .inl h1, h2⟩
def inD (x : D) (l : List D) : Bool := l.any fun y => eqF y x
def oIn : O2 := fun x y => match itemsD y with
  | some l => if (flatD x && l.all flatD) = true then some (.val (.bl (inD x l))) else none
  | none => none
def oNotIn : O2 := fun x y => match itemsD y with
  | some l => if (flatD x && l.all flatD) = true then some (.val (.bl (!inD x l))) else none
  | none => none
theorem oIn_d : OpD X (compareOp .In) oIn := by
  refine ⟨_, op_in_seq, fun A H x y d1 d2 res Q p1 p2 e q => ?_⟩
  unfold oIn at e
  cases ei : itemsD d2 with
  | none => simp only [ei] at e; cases e
  | some l =>
    simp only [ei] at e
    obtain ⟨c, rfl⟩ := if_some e
    obtain ⟨c1, c2⟩ := Bool.and_eq_true_iff.mp c
    obtain ⟨a, vs, rfl, h1, h2⟩ := prep_items p2 ei
    have rx := prep_flat p1 c1
    refine ⟨a, vs, rfl, h1, rep_flat rx c1, repL_flat h2 c2, ?_⟩
    rw [repL_in rx c1 h2 c2]
    exact q.same (.bl _)
theorem oNotIn_d : OpD X (compareOp .NotIn) oNotIn := by
  refine ⟨_, op_notIn_seq, fun A H x y d1 d2 res Q p1 p2 e q => ?_⟩
  unfold oNotIn at e
  cases ei : itemsD d2 with
  | none => simp only [ei] at e; cases e
  | some l =>
    simp only [ei] at e
    obtain ⟨c, rfl⟩ := if_some e
    obtain ⟨c1, c2⟩ := Bool.and_eq_true_iff.mp c
    obtain ⟨a, vs, rfl, h1, h2⟩ := prep_items p2 ei
    have rx := prep_flat p1 c1
    refine ⟨a, vs, rfl, h1, rep_flat rx c1, repL_flat h2 c2, ?_⟩
    rw [repL_in rx c1 h2 c2]
    exact q.same (.bl _)
/-- is None, is not None -/
def oIsN : O2
  | d, .non => some (.val (.bl (match d with | .non => true | _ => false)))
  | _, _ => none
def oNotN : O2
  | d, .non => some (.val (.bl (match d with | .non => false | _ => true)))
  | _, _ => none
theorem prep_isN {K : PySem.W.Frag} {A : Addr → Prop} {H : Hp} {v : V} {d : D} (h : PRep K A H v d) : decide (v = .non) = (match d with | .non => true | _ => false) := by
  cases d with
  | non => obtain rfl := prep_non h; rfl
  | bl b => obtain rfl := prep_bl h; rfl
  | int i => obtain rfl := prep_int h; rfl
  | str x => obtain rfl := prep_str h; rfl
  | lst l => obtain ⟨a, vs, rfl, _⟩ := h; rfl
  | scr l => obtain ⟨a, vs, rfl, _⟩ := h; rfl
  | tup l => obtain ⟨a, vs, rfl, _⟩ := h; rfl
  | dct l => obtain ⟨a, vs, rfl, _⟩ := h; rfl
def oNeg : O1
  | .int i => some (.val (.int (-i)))
  | _ => none
theorem de_neg (ha : DE X W a fa) : DE X W (.UnaryOp .USub a pos) (x1 oNeg fa) := PE.of (pe_un un_neg ha) fun σ H Q q => by
  obtain ⟨g, S, env, x, k⟩ := tD_ask.mp q
  refine tD_then x (fun c e z => z) (fun z => z) k fun r e v H' y z => ?_
  obtain ⟨O, y⟩ := y
  cases pk : peek r e with
  | none => simp only [pk] at z; exact z.elim
  | some d =>
    cases d <;> simp only [pk, oNeg] at z <;> try exact z.elim
    rename_i i
    exact ⟨i, prep_int (y.peek List.mem_cons_self pk), z _ _ ⟨O, (y.drop (T := [_])).push (.int _)⟩⟩
end
end DL

/-! DL13: a slot's list changed by methods and stores; two targets; raise; try. -/
namespace DL
open PySem PySem.Spec PyProof.Rows L2
/-- what a method makes of a list: what it hands back, what the list is then -/
abbrev OM := List D → List D → Option (D × List D)
structure MtD (X : Cx) (id : String) (f : OM) : Prop where
  ex : ∃ r, MtR X id r ∧ ∀ (A : Addr → Prop) H p us ds0 vs ds res d1 Q, A p → H p = some (.lst us) → RepL X.K A H us ds0 → RepL X.K A H vs ds → f ds0 ds = some (res, d1) →
    (∀ v us1, RepL X.K A (upd H p (.lst us1)) us1 d1 → Rep X.K A (upd H p (.lst us1)) v res → Q v (upd H p (.lst us1))) → r (.ref p) vs H Q
section
variable {K : PySem.W.Frag} {A : Addr → Prop} {H : Hp} {p : Addr} {o : HO}
theorem upd_rep {v : V} {d : D} (hp : A p) (h : Rep K A H v d) : Rep K A (upd H p o) v d := h.move (fun a u e n => by rw [upd_ne fun z => n (by rw [z]; exact hp)]; exact e) fun a z => .inl z
theorem upd_repL {v : List V} {d : List D} (hp : A p) (h : RepL K A H v d) : RepL K A (upd H p o) v d := h.move (fun a u e n => by rw [upd_ne fun z => n (by rw [z]; exact hp)]; exact e) fun a z => .inl z
theorem repL_one {vs : List V} {d : D} (h : RepL K A H vs [d]) : ∃ v, vs = [v] ∧ Rep K A H v d := by
  cases h with
  | cons a b => cases b; exact ⟨_, rfl, a⟩
theorem repL_nil {vs : List V} (h : RepL K A H vs []) : vs = [] := by cases h; rfl
end
/-- the list that a slot holds -/
def ownL (env : Ev) (i : Nat) : Option (List D) := match env[i]? with
  | some (.ow (.lst l)) => some l
  | some (.io (.lst l)) => some l
  | _ => none
def putL (env : Ev) (i : Nat) (l : List D) : Ev := match env[i]? with
  | some (.ow _) => env.set i (.ow (.lst l))
  | some (.io _) => env.set i (.io (.lst l))
  | _ => env
def mutE (i : Nat) (f : OM) (rs : List Opd) : M Opd := fun e => match frzs rs e with
  | some (ds, e1) => match ownL e1 i with
    | some l => match f l ds with
      | some (res, l1) => .ok (.val res) (putL e1 i l1)
      | none => .bad
    | none => .bad
  | none => .bad
def xMut (i : Nat) (f : OM) (a : M (List Opd)) : M Opd := fun env => match ownL env i with
  | none => .bad
  | some _ => a.bind (mutE i f) env
section
variable {K : PySem.W.Frag} {g : Gx} {O : Addr → Option Role} {H : Hp} {σ : L2.St} {env : Ev} {S : List (V × Opd)}
theorem own_at (x : EnvO K g O H σ env S) {i : Nat} {l : List D} (h : ownL env i = some l) : ∃ p us, σ[i]? = some (some (.ref p)) ∧ fra g O p ∧ H p = some (.lst us) ∧ RepL K (fra g O) H us l ∧
    ∀ {us1 : List V} {l1 : List D}, RepL K (fra g O) (upd H p (.lst us1)) us1 l1 → EnvO K g O (upd H p (.lst us1)) σ (putL env i l1) S := by
  unfold ownL at h
  cases e : env[i]? with
  | none => rw [e] at h; cases h
  | some s =>
    rw [e] at h
    cases s with
    | no => cases h
    | fz d => cases h
    | ow d =>
      cases d <;> try (cases h; done)
      obtain rfl := Option.some.inj h
      obtain ⟨p, h1, h2, h3, us, h4, h5⟩ := x.sl i _ e
      refine ⟨p, us, h1, .inr ⟨_, h2⟩, h4, h5, fun {us1 l1} r => ?_⟩
      unfold putL
      rw [e]
      exact x.chgS e h1 ⟨us1, upd_same, r⟩
    | io d =>
      cases d <;> try (cases h; done)
      obtain rfl := Option.some.inj h
      obtain ⟨p, h1, h2, h3, us, h4, h5⟩ := x.sl i _ e
      refine ⟨p, us, h1, .inr ⟨_, h2⟩, h4, h5, fun {us1 l1} r => ?_⟩
      unfold putL
      rw [e]
      exact x.chgI e h1 ⟨us1, upd_same, r⟩
end
section
variable {X : Cx} {W : WX} {a b c : Expr} {es : List Expr} {fa fb fc : M Opd} {fs : M (List Opd)} {pos p apos cpos : Pos} {x : Str} {k : Nat} {id T : String} {name : Str}
theorem mut_imp {f : OM} {i : Nat} {r : V → List V → Hp → VK → Prop} (hr : ∀ (A : Addr → Prop) H p us ds0 vs ds res d1 Q, A p → H p = some (.lst us) → RepL X.K A H us ds0 → RepL X.K A H vs ds → f ds0 ds = some (res, d1) →
    (∀ v us1, RepL X.K A (upd H p (.lst us1)) us1 d1 → Rep X.K A (upd H p (.lst us1)) v res → Q v (upd H p (.lst us1))) → r (.ref p) vs H Q) {σ : L2.St} {H : Hp} {Q : VK} (q : tD X.K X.mg W (xMut i f fs) σ H Q) : tBM X.K "list" r (tVar i) (tDs X.K X.mg W fs) σ H Q := by
  obtain ⟨g, S, env, ⟨O, x⟩, k⟩ := tD_ask.mp q
  unfold xMut at k
  cases e0 : ownL env i with
  | none => simp only [e0] at k; exact k.elim
  | some l0 =>
    simp only [e0] at k
    obtain ⟨p, us, h1, h2, h3, h4, _⟩ := own_at x e0
    refine ⟨.ref p, h1, .inl ⟨rfl, us, SqL.of h3⟩, ?_⟩
    refine tDs_then ⟨O, x⟩ (fun c e z => z) (fun z => z) k fun rs e vs H' hl y z => ?_
    obtain ⟨O1, y⟩ := y
    unfold mutE at z
    cases e1 : frzs rs e with
    | none => simp only [e1] at z; exact z.elim
    | some t =>
      obtain ⟨ds, e2⟩ := t
      simp only [e1] at z
      obtain ⟨O2, y2, rl, _⟩ := y.frzs hl e1
      cases e3 : ownL e2 i with
      | none => simp only [e3] at z; exact z.elim
      | some l =>
        simp only [e3] at z
        obtain ⟨p', us', h1', h2', h3', h4', put⟩ := own_at y2 e3
        rw [h1] at h1'
        obtain rfl := V.ref.inj (Option.some.inj (Option.some.inj h1'))
        cases e4 : f l ds with
        | none => simp only [e4] at z; exact z.elim
        | some t =>
          obtain ⟨res, l1⟩ := t
          simp only [e4] at z
          exact hr _ _ _ _ _ _ _ _ _ _ h2' h3' h4' rl e4 fun v us1 r1 r2 => z _ _ ⟨O2, (put r1).push r2⟩
theorem de_mut {f : OM} {i : Nat} (hm : MtD X id f) (pa : PlainAttrs "list") (slot : Slot "list" name id) (hty : typeOf (.builtin id) = pure (.type "method_descriptor")) (ho : PE X (.Name x p) (tVar i)) (ha : DA X W (a :: es) fs)
    (hbase : attributeBase (.Name x p) name X.env (eval (.Name x p) X.env) = eval (.Name x p) X.env := by rfl)
    (hfew : ((backTo cpos (starEach (a :: es) X.env)).all (fun x => !x.1) && (backToKw cpos (keywordEach [] X.env)).all (fun x => x.1.isSome) && decide ((a :: es).length + ([] : List Keyword).length + (if ([] : List Keyword).isEmpty then 0 else 1) < 30)) = true := by rfl)
    (hline : (apos.endLine == cpos.line) = true := by rfl) (hs : starEach (a :: es) X.env = (false, eval a X.env) :: starEach es X.env := by rfl) (hplain : (backTo cpos (starEach es X.env)).any (·.1) = false := by rfl) :
    DE X W (.Call (.Attribute (.Name x p) name apos) (a :: es) [] cpos) (xMut i f fs) := by
  obtain ⟨r, h1, h2⟩ := hm.ex
  exact PE.of (pe_bm pa slot hty h1 ho ha hbase hfew hline hs hplain) fun σ H Q q => mut_imp h2 q
theorem de_mut0 {f : OM} {i : Nat} (hm : MtD X id f) (pa : PlainAttrs "list") (slot : Slot "list" name id) (hty : typeOf (.builtin id) = pure (.type "method_descriptor")) (ho : PE X (.Name x p) (tVar i))
    (hbase : attributeBase (.Name x p) name X.env (eval (.Name x p) X.env) = eval (.Name x p) X.env := by rfl) (hline : (apos.endLine == cpos.line) = true := by rfl) :
    DE X W (.Call (.Attribute (.Name x p) name apos) [] [] cpos) (xMut i f aNil) := by
  obtain ⟨r, h1, h2⟩ := hm.ex
  refine PE.of (pe_bm0 pa slot hty h1 ho hbase hline) fun σ H Q q => ?_
  obtain ⟨v, e1, t1, t2⟩ := mut_imp (W := W) h2 q
  obtain ⟨g, S, env, y, k⟩ := tDs_ask.mp t2
  exact ⟨v, e1, t1, k [] H rfl y⟩
def mAppend : OM
  | l, [d] => if l.length < sizeLine then some (.non, l ++ [d]) else none
  | _, _ => none
theorem mAppend_d : MtD X "list.append" mAppend := by
  refine ⟨_, mt_append, fun A H p us ds0 vs ds res d1 Q hA hp h0 h1 e k => ?_⟩
  unfold mAppend at e
  split at e
  · obtain ⟨v, rfl, r⟩ := repL_one h1
    split at e
    · rename_i hz
      cases e
      exact ⟨p, us, v, rfl, rfl, hp, by rw [h0.len]; exact hz, k _ _ (upd_repL hA (h0.snoc r)) .non⟩
    · cases e
  · cases e
def mPop : OM
  | l, [] => match l[l.length - 1]? with
    | some d => some (d, l.dropLast)
    | none => none
  | l, [.int i] => match seqIndex? i l.length with
    | some k => match l[k]? with
      | some d => if fit62 i = true then some (d, l.eraseIdx k) else none
      | none => none
    | none => none
  | _, _ => none
theorem mPop_d : MtD X "list.pop" mPop := by
  refine ⟨fun x vs H Q => rPop x vs H Q ∨ rPopAt x vs H Q, fun pins s σ H x xs v us Q I rx rv z => z.elim (mt_pop pins s σ H x xs v us Q I rx rv) (mt_popAt pins s σ H x xs v us Q I rx rv), fun A H p us ds0 vs ds res d1 Q hA hp h0 h1 e k => ?_⟩
  unfold mPop at e
  split at e
  · obtain rfl := repL_nil h1
    split at e
    · rename_i d hd
      cases e
      obtain ⟨v, e1, r⟩ := h0.get' hd
      exact .inl ⟨p, us, v, rfl, rfl, hp, by rw [h0.len]; exact e1, k _ _ (upd_repL hA h0.dropLast) (upd_rep hA r)⟩
    · cases e
  · rename_i i
    obtain ⟨v, rfl, r⟩ := repL_one h1
    cases r
    split at e
    · rename_i kk hk
      split at e
      · rename_i d hd
        split at e
        · rename_i hb
          cases e
          obtain ⟨v, e1, r⟩ := h0.get' hd
          exact .inr ⟨p, us, i, kk, v, rfl, rfl, hp, by have := fit62_of hb; omega, by have := fit62_of hb; omega, by rw [h0.len]; exact hk, e1, k _ _ (upd_repL hA (h0.erase kk)) (upd_rep hA r)⟩
        · cases e
      · cases e
    · cases e
  · cases e
def mExtend : OM
  | l, [.lst m] => if l.length + m.length ≤ sizeLine then some (.non, l ++ m) else none
  | _, _ => none
theorem mExtend_d : MtD X "list.extend" mExtend := by
  refine ⟨_, mt_extend, fun A H p us ds0 vs ds res d1 Q hA hp h0 h1 e k => ?_⟩
  unfold mExtend at e
  split at e
  · obtain ⟨v, rfl, r⟩ := repL_one h1
    split at e
    · rename_i hz
      cases e
      obtain ⟨b, ws, rfl, h2, h3⟩ := r.p
      exact ⟨p, b, us, ws, rfl, rfl, hp, h2, by rw [h0.len, h3.len]; exact hz, k _ _ (upd_repL hA (h0.append h3)) .non⟩
    · cases e
  · cases e
def mReverse : OM
  | l, [] => some (.non, l.reverse)
  | _, _ => none
theorem mReverse_d : MtD X "list.reverse" mReverse := by
  refine ⟨_, mt_reverse, fun A H p us ds0 vs ds res d1 Q hA hp h0 h1 e k => ?_⟩
  unfold mReverse at e
  split at e
  · obtain rfl := repL_nil h1
    cases e
    exact ⟨p, us, rfl, rfl, hp, k _ _ (upd_repL hA h0.rev) .non⟩
  · cases e
def mClear : OM
  | _, [] => some (.non, [])
  | _, _ => none
theorem mClear_d : MtD X "list.clear" mClear := by
  refine ⟨_, mt_clear, fun A H p us ds0 vs ds res d1 Q hA hp h0 h1 e k => ?_⟩
  unfold mClear at e
  split at e
  · obtain rfl := repL_nil h1
    cases e
    exact ⟨p, us, rfl, rfl, hp, k _ _ .nil .non⟩
  · cases e
def mInsert : OM
  | l, [.int i, d] => if l.length < sizeLine ∧ 0 ≤ i ∧ fit62 i = true then some (.non, l.take i.toNat ++ [d] ++ l.drop i.toNat) else none
  | _, _ => none
theorem mInsert_d : MtD X "list.insert" mInsert := by
  refine ⟨_, mt_insert, fun A H p us ds0 vs ds res d1 Q hA hp h0 h1 e k => ?_⟩
  unfold mInsert at e
  split at e
  · rename_i i d
    cases h1 with
    | cons r1 r2 =>
      obtain ⟨v, rfl, r⟩ := repL_one r2
      cases r1
      split at e
      · rename_i hz
        cases e
        exact ⟨p, us, i, v, rfl, rfl, hp, by rw [h0.len]; exact hz.1, hz.2.1, by have := fit62_of hz.2.2; omega, k _ _ (upd_repL hA (((h0.take _).append (.cons r .nil)).append (h0.drop _))) .non⟩
      · cases e
  · cases e
def mRemove : OM
  | l, [.int k] => match asInts l with
    | some ns => match ns.idxOf? k with
      | some j => some (.non, (ns.eraseIdx j).map D.int)
      | none => none
    | none => none
  | _, _ => none
theorem mRemove_d : MtD X "list.remove" mRemove := by
  refine ⟨_, mt_remove, fun A H p us ds0 vs ds res d1 Q hA hp h0 h1 e k => ?_⟩
  unfold mRemove at e
  split at e
  · rename_i kk
    obtain ⟨v, rfl, r⟩ := repL_one h1
    cases r
    split at e
    · rename_i ns hn
      split at e
      · rename_i j hj
        cases e
        obtain rfl := asInts_v h0 hn
        have q := List.findIdx?_eq_some_iff_getElem.mp (show ns.findIdx? (· == kk) = some j from hj)
        obtain ⟨q1, q2, q3⟩ := q
        refine ⟨p, ns, kk, j, rfl, rfl, hp, ?_, fun m hm z => ?_, k _ _ (repL_ints _) .non⟩
        · rw [List.getElem?_eq_getElem q1]
          exact congrArg some (by simpa using q2)
        · have := q3 m hm
          rw [List.getElem?_eq_getElem (Nat.lt_trans hm q1)] at z
          have z' := Option.some.inj z
          rw [z'] at this
          simp at this
      · cases e
    · cases e
  · cases e
/-! ### xs[i] = e -/
def sPut (i : Nat) (ix : M Opd) (fa : M Opd) : MS := fun env => match (fa.bind fun r => fun e0 => match ownL e0 i with
  | none => (.bad : R (Opd × Opd))
  | some _ => (ix.bind fun ri => fun e => .ok (r, ri) e) e0) env with
  | .ok (r, ri) e => match peek ri e with
    | some (.int kk) => match frz r e with
      | some (d, e1) => match ownL e1 i with
        | some l => match ixN l.length kk with
          | some j => .nx (putL e1 i (l.set j d))
          | none => .bad
        | none => .bad
      | none => .bad
    | _ => .bad
  | .ex c e => .ex c e
  | .bad => .bad
theorem ds_put {i : Nat} {spos sp : Pos} (he : DE X W a fa) (ho : PE X (.Name x p) (tVar i)) (hi : DE X W b fb)
    (hs : swapsWithSole [.Subscript (.Name x p) b sp] a spos.line X.env = pure false := by rfl) (hw : swappedStores [.Subscript (.Name x p) b sp] a X.env = pure none := by rfl)
    (h1 : (assignEach [.Subscript (.Name x p) b sp] X.env).map (·.2) = [assign (.Subscript (.Name x p) b sp) X.env] := by rfl)
    (ha : ∀ v, assign (.Subscript (.Name x p) b sp) X.env v = (do
      let ov ← holding [v] (eval (.Name x p) X.env)
      let iv ← holding [v, ov] (eval b X.env)
      standAt sp
      holding [v, ov, iv] (setItem ov iv v)
      release [v, ov, iv] []) := by intro _; rfl) : DS X W (.Assign [.Subscript (.Name x p) b sp] a spos) (sPut i fb fa) := PS.of (ps_asg he (pg_sub ho hi set_list ha) hs hw h1) fun D σ H q => by
  obtain ⟨g, S, env, hv, ⟨O, x⟩, k⟩ := tS_ask.mp q
  unfold sPut M.bind at k
  refine tD_st ⟨O, x⟩ ?_
  cases e0 : fa env with
  | bad => simp only [e0] at k; exact k
  | ex c e' => simp only [e0] at k; exact k
  | ok r e1 =>
    simp only [e0] at k
    rintro v H1 ⟨O1, x1⟩
    cases e2 : ownL e1 i with
    | none => simp only [e2] at k; exact k.elim
    | some l0 =>
      simp only [e2] at k
      obtain ⟨p, us, g1, g2, g3, g4, _⟩ := own_at x1 e2
      refine ⟨.ref p, g1, ?_⟩
      refine tD_st ⟨O1, x1⟩ ?_
      cases e3 : fb e1 with
      | bad => simp only [e3] at k; exact k
      | ex c e' => simp only [e3] at k; exact fun C σ' H' hc y => k C σ' H' hc (by obtain ⟨O, y⟩ := y; exact ⟨O, y.drop (T := [_])⟩)
      | ok ri e4 =>
        simp only [e3] at k
        rintro iv H2 ⟨O2, x2⟩
        cases e5 : peek ri e4 with
        | none => simp only [e5] at k; exact k.elim
        | some d =>
          cases d <;> simp only [e5] at k <;> try exact k.elim
          rename_i kk
          obtain rfl := prep_int (x2.peek List.mem_cons_self e5)
          cases e6 : frz r e4 with
          | none => simp only [e6] at k; exact k.elim
          | some t =>
            obtain ⟨d, e7⟩ := t
            simp only [e6] at k
            obtain ⟨O3, x3, rp, _⟩ := (x2.drop (T := [_])).frz e6
            cases e8 : ownL e7 i with
            | none => simp only [e8] at k; exact k.elim
            | some l =>
              simp only [e8] at k
              obtain ⟨p', us', g1', g2', g3', g4', put⟩ := own_at x3 e8
              rw [g1] at g1'
              obtain rfl := V.ref.inj (Option.some.inj (Option.some.inj g1'))
              cases e9 : ixN l.length kk with
              | none => simp only [e9] at k; exact k.elim
              | some j =>
                simp only [e9] at k
                exact ⟨p, us', kk, j, rfl, rfl, g3', by rw [g4'.len]; exact e9, k _ _ ⟨O3, put (upd_repL g2' (g4'.set j rp))⟩⟩
/-! ### raise -/
def sRaise (c : Str) : MS := fun e => .ex c e
theorem ds_raise {m : Str} {j : Nat} {C : Addr} {bmB : List Value} {B newId initId : String} {p2 pos2 : Pos} (at_ : At k X W) (F : ExcBaseFacts B newId initId bmB) (q : PySem.W.excIn X.K C bmB newId = true) (gC : X.mg x = some (.ref C)) (kC : PySem.W.keepIn X.K (.ref C) = true)
    (r : Raises X (.ref C)) (hg : Gl X x) (hdb : (x == ("__debug__" : Str)) = false := by decide) : DS X W (.Raise (some (.Call (.Name x p) [.Constant (.str m) j p2] [] pos)) none pos2) (sRaise x) :=
  PS.of (ps_raise at_.calm at_.tk (pmk_own F q gC kC r hg hdb)) fun D σ H q => by
    obtain ⟨g, S, env, hv, y, k⟩ := tS_ask.mp q
    exact k C σ H gC y
end
end DL

/-! DL14: repr, calls with keywords, two written targets. -/
namespace DL
open PySem PySem.Spec PyProof.Rows L2
/-! ### repr -/
def shownD (d : D) : Str := (toPy d).shown
def okRepr (d : D) : Bool := (toPy d).showable && (toPy d).canLay0 && decide ((toPy d).depth ≤ 64) && decide ((toPy d).shown.length ≤ sizeLine)
def oRepr : ON
  | [d] => if okRepr d = true then some (.val (.str (shownD d))) else none
  | _ => none
def rReprD (K : PySem.W.Frag) : List V → Hp → VK → Prop := fun xs H Q => ∃ v d, xs = [v] ∧ Dp K H v d ∧ (d.showable && d.canLay0 && decide (d.depth ≤ 64) && decide (d.shown.length ≤ sizeLine)) = true ∧ Q (.str d.shown) H
section
variable {X : Cx} {W : WX} {k : Nat}
theorem call_reprD (C : At k X W) : CallR X (.builtin "repr") (rReprD X.K) := by
  intro pins s σ H xs us Q I r h
  obtain ⟨v, d, rfl, dp, c, q⟩ := h
  simp only [Bool.and_eq_true, decide_eq_true_eq] at c
  obtain ⟨⟨⟨c1, c2⟩, c3⟩, c4⟩ := c
  obtain ⟨u, rfl, ru⟩ := vals1 r
  cases dp with
  | non => cases ru; exact PySem.P.repr_of_none ⟨.str _, H, I.tok _, ⟨_, rfl⟩, q⟩
  | bl b => cases ru; exact PySem.P.repr_of_bool ⟨.str _, H, I.tok _, ⟨_, rfl⟩, q⟩
  | int i =>
    obtain ⟨t, rfl⟩ := ru
    exact PySem.P.repr_of_int (of_decide_eq_true c1) ⟨.str _, H, I.tok _, ⟨_, rfl⟩, q⟩
  | str x =>
    obtain ⟨t, rfl⟩ := ru
    exact PySem.P.repr_of_str ⟨.str _, H, I.tok _, ⟨_, rfl⟩, q⟩ c4
  | lst h1 h2 =>
    obtain ⟨as, rd⟩ := Dp.reads I _ _ _ (.lst h1 h2) ru
    cases ru
    have hu := C.room.un
    exact repr_of_reads' rd c1 (PyData.noDict_hsm (PyData.hasDict_of_canLay _ c2)) C.gu (by omega) (fun _ _ e => e) (fun h' u tk hk => ⟨.str _, H, I.kept hk, ⟨_, rfl⟩, q⟩) c4
  | tup h1 h2 =>
    obtain ⟨as, rd⟩ := Dp.reads I _ _ _ (.tup h1 h2) ru
    cases ru
    have hu := C.room.un
    exact repr_of_reads' rd c1 (PyData.noDict_hsm (PyData.hasDict_of_canLay _ c2)) C.gu (by omega) (fun _ _ e => e) (fun h' u tk hk => ⟨.str _, H, I.kept hk, ⟨_, rfl⟩, q⟩) c4
theorem oRepr_d (C : At k X W) : CallD X (.builtin "repr") oRepr := by
  refine ⟨_, call_reprD C, fun A H vs ds res Q pr e q => ?_⟩
  unfold oRepr at e
  split at e
  · rename_i d
    obtain ⟨v, rfl, p1⟩ := prepL_one pr
    obtain ⟨c, rfl⟩ := if_some e
    have c' := c
    unfold okRepr at c'
    simp only [Bool.and_eq_true] at c'
    exact ⟨v, _, rfl, prep_dp p1 c'.1.1.2, c, q.same (.str _)⟩
  · cases e
end
/-! ### keywords, all parameters by name -/
def KwB (K : PySem.W.Frag) (fd : FuncData) (ps : List Str) : Prop := ∀ (s : Shared) (ws : List Value), K.In s.heap → ws.length = ps.length → BindsTo s fd ⟨[], ps.zip ws⟩ (ps.zip ws)
/-- the first n parameters by place, the others by name -/
def KwN (K : PySem.W.Frag) (fd : FuncData) (ps ks : List Str) : Prop := ∀ (s : Shared) (us ws : List Value), K.In s.heap → (us ++ ws).length = ps.length → ws.length = ks.length → BindsTo s fd ⟨us, ks.zip ws⟩ (ps.zip (us ++ ws))
section
variable {X : Cx} {W : WX} {k : Nat} {f : Addr} {fd : FuncData} {ps kn : List Str} {x : Str} {p pos kpos : Pos} {a e : Expr} {es : List Expr} {kws : List Keyword} {ks : List Bool} {ff : FD} {fa : M Opd} {fs fk : M (List Opd)} {nm : Option Str}
abbrev DK (X : Cx) (W : WX) (kws : List Keyword) (f : M (List Opd)) : Prop := PK X kws (tDs X.K X.mg W f)
theorem PK.of {t t' : TA} (h : PK X kws t) (w : ∀ σ H Q, t' σ H Q → t σ H Q) : PK X kws t' := ⟨fun c p s σ H Q I q => h.run c p s σ H Q I (w σ H Q q)⟩
theorem dk_nil : DK X W [] aNil := PK.of pk_nil fun σ H Q q => by
  obtain ⟨g, S, env, x, k⟩ := tDs_ask.mp q
  exact k [] H rfl x
theorem dk_cons (ha : DE X W a fa) (hb : DK X W kws fs) : DK X W (⟨nm, a, kpos⟩ :: kws) (aCons fa fs) := PK.of (pk_cons ha hb) fun σ H Q q => by
  obtain ⟨g, S, env, x, k⟩ := tDs_ask.mp q
  refine tD_then x (fun c e z => z) (fun z => z) k fun r1 e1 v1 H1 x1 z1 => ?_
  refine tDs_then x1 (P := askA X.K X.mg W g S σ Q) (fun c e z C H' hc y => z C H' hc (by obtain ⟨O, y⟩ := y; exact ⟨O, y.drop (T := [_])⟩)) (fun z => z) z1 fun rs e vs H' hl y z => ?_
  exact z (v1 :: vs) H' (congrArg (· + 1) hl) y
/-- the callee runs, its arguments by place and by name -/
theorem runK {sp : Sp} {pins : List (Addr × Obj)} {σ : L2.St} {H : Hp} {s : Shared} {Q : VK} {us ws : List Value} {vs zs : List V} (F : FnG X.prog X.w X.K X.mg X.base k f fd ps sp) (C : At k X W)
    (hb : (us ++ ws).length = ps.length → BindsTo s fd ⟨us, kn.zip ws⟩ (ps.zip (us ++ ws))) (I : Inv X pins σ H s) (r : Vals vs us) (rz : Vals zs ws) (h : sp (vs ++ zs) H Q (fun cls d H' => W cls d σ H')) : wpAny (model X.prog X.w) X.A (call (.ref f) us (kn.zip ws)) (EP X pins σ Q) X.xe s := by
  have r2 := r.append rz
  have run := F.run X.A X.stack s H _ _ _ Q _ C.gu C.room I.env0 (hb (r2.length.symm.trans (F.len _ _ _ _ h))) r2 h
  refine wpAny_call (codeAny_mono run fun rs s' hq => ?_)
  match rs, hq with
  | .error e, hq => exact C.tk e s' (XE.of_call I (fun _ _ _ z => z) hq)
  | .ok (.ret u), hq => exact I.after hq
  | .ok .next, hq => exact hq.elim
  | .ok .brk, hq => exact hq.elim
  | .ok .cont, hq => exact hq.elim
/-- f(k = e, ..), all parameters by name, in their order -/
theorem de_callK0 (F : FnG X.prog X.w X.K X.mg X.base k f fd ps (spD X.K X.mg ks ff)) (C : At k X W) (hg : Gl X x) (hm : X.mg x = some (.ref f)) (hk : PySem.W.keepIn X.K (.ref f) = true) (hb : KwB X.K fd ps) (ha : DK X W kws fs)
    (hall : (backToKw pos (keywordEach kws X.env)).all (·.1.isSome) = true := by rfl) (hks : (backToKw pos (keywordEach kws X.env)).filterMap (·.1) = ps := by rfl) (hdb : (x == ("__debug__" : Str)) = false := by decide)
    (hpl : ((backTo pos (starEach [] X.env)).any (·.1) || (backToKw pos (keywordEach kws X.env)).any (·.1.isNone)) = false := by rfl) : DE X W (.Call (.Name x p) [] kws pos) (xCall ks ff fs) := by
  have base : PE X (.Call (.Name x p) [] kws pos) (tCallW W (spD X.K X.mg ks ff) [] (tDs X.K X.mg W fs)) := ⟨fun pins s σ H Q I h =>
    wpAny_Call_Name_kw (ld_glob I hg hm (PySem.W.callWith_KW0 (h₀ := X.base) I.ok.mod.kin hk hall (thn (ha.run pos pins s σ H _ I h) fun ws s2 hh => by
      obtain ⟨zs, H2, I2, rz, q2⟩ := hh
      refine ⟨I2.kIn, ?_⟩
      rw [hks]
      rw [List.append_nil] at q2
      exact runK (us := []) (vs := []) F C (fun hl => hb s2 ws I2.kIn hl) I2 .nil rz q2) hpl) hdb)⟩
  exact PE.of base fun σ H Q q => call_imp q
/-- the arguments by place, then by name -/
def aApp (a b : M (List Opd)) : M (List Opd) := a.bind fun r => b.bind fun rs => fun env => .ok (r ++ rs) env
theorem pushes_app2 : ∀ {vs us : List V} {rs qs : List Opd} {S : List (V × Opd)}, vs.length = rs.length → pushes us qs (pushes vs rs S) = pushes (vs ++ us) (rs ++ qs) S
  | [], _, [], _, _, _ => rfl
  | v :: vs, us, r :: rs, qs, S, h => pushes_app2 (vs := vs) (rs := rs) (S := (v, r) :: S) (Nat.succ.inj h)
  | [], _, _ :: _, _, _, h => by cases h
  | _ :: _, _, [], _, _, h => by cases h
theorem de_callK (F : FnG X.prog X.w X.K X.mg X.base k f fd ps (spD X.K X.mg ks ff)) (C : At k X W) (hg : Gl X x) (hm : X.mg x = some (.ref f)) (hk : PySem.W.keepIn X.K (.ref f) = true) (hb : KwN X.K fd ps kn) (ha : DA X W (e :: es) fs) (hkw : DK X W kws fk)
    (hl : ∀ env rs en, fk env = .ok rs en → rs.length = kn.length)
    (hall : (backToKw pos (keywordEach kws X.env)).all (·.1.isSome) = true := by rfl) (hks : (backToKw pos (keywordEach kws X.env)).filterMap (·.1) = kn := by rfl) (hdb : (x == ("__debug__" : Str)) = false := by decide)
    (he : starEach (e :: es) X.env = (false, eval e X.env) :: starEach es X.env := by rfl) (hpl : ((backTo pos (starEach (e :: es) X.env)).any (·.1) || (backToKw pos (keywordEach kws X.env)).any (·.1.isNone)) = false := by rfl) :
    DE X W (.Call (.Name x p) (e :: es) kws pos) (xCall ks ff (aApp fs fk)) := by
  have base : PE X (.Call (.Name x p) (e :: es) kws pos) (fun σ H Q => tDs X.K X.mg W fs σ H fun vs H1 => tDs X.K X.mg W fk σ H1 fun zs H2 => zs.length = kn.length ∧ spD X.K X.mg ks ff (vs ++ zs) H2 Q (fun cls d H' => W cls d σ H')) := ⟨fun pins s σ H Q I h =>
    wpAny_Call_Name_kw (ld_glob I hg hm (PySem.W.callWith_KW (h₀ := X.base) I.ok.mod.kin hk hall (thn (ha.run pos pins s σ H _ I h) fun us s1 hh => by
      obtain ⟨vs, H1, I1, r, q⟩ := hh
      refine thn (hkw.run pos pins s1 σ H1 _ I1 q) fun ws s2 hh => ?_
      obtain ⟨zs, H2, I2, rz, hz, q2⟩ := hh
      refine ⟨I2.kIn, ?_⟩
      rw [hks]
      exact runK F C (fun hl => hb s2 us ws I2.kIn hl (rz.length.symm.trans hz)) I2 r rz q2) hpl he) hdb)⟩
  refine PE.of base fun σ H Q q => ?_
  have h := call_imp q
  obtain ⟨g, S, env, x, k⟩ := tDs_ask.mp (show tDs X.K X.mg W (aApp fs fk) σ H (fun vs H1 => spD X.K X.mg ks ff (vs ++ []) H1 Q (fun cls d H' => W cls d σ H')) from h)
  refine tDs_then x (P := askA X.K X.mg W g S σ _) (fun c e z => z) (fun z => z) k fun rs e vs H' hv y z => ?_
  refine tDs_ask.mpr ⟨g, _, e, y, ?_⟩
  unfold M.bind at z
  cases e1 : fk e with
  | bad => rw [e1] at z; exact z.elim
  | ex c e' =>
    rw [e1] at z
    intro C H2 hc y2
    obtain ⟨T, e2, _⟩ := pushes_app (vs := vs) (rs := rs) (S := S) hv
    rw [e2] at y2
    obtain ⟨O, y2⟩ := y2
    exact z C H2 hc ⟨O, y2.drop⟩
  | ok qs e' =>
    rw [e1] at z
    intro us H2 hu y2
    rw [pushes_app2 hv] at y2
    refine ⟨hu.trans (hl _ _ _ e1), ?_⟩
    have z2 := z (vs ++ us) H2 (by rw [List.length_append, List.length_append, hv, hu]) y2
    have z3 : spD X.K X.mg ks ff ((vs ++ us) ++ []) H2 Q (fun cls d H' => W cls d σ H') := z2
    rw [List.append_nil] at z3
    exact z3
end
/-! ### a, b = e1, e2 -/
def parE (i j : Nat) (r1 r2 : Opd) (e : Ev) : F := match r1 with
  | .slot _ => .bad
  | r1 => match sto r2 j e with
    | some e1 => match sto r1 i e1 with
      | some e2 => .nx e2
      | none => .bad
    | none => .bad
def sPar (i j : Nat) (fa : M (List Opd)) : MS := fun env => match fa env with
  | .ok [r1, r2] e => parE i j r1 r2 e
  | .ok _ _ => .bad
  | .ex c e => .ex c e
  | .bad => .bad
section
variable {X : Cx} {W : WX} {k : Nat} {x y : Str} {a b : Expr} {fs : M (List Opd)} {px py pt pos pt2 : Pos} {kt : Nat} {k2 : Nat}
theorem ds_par {i j : Nat} (C : At k X W) (hi : X.N[i]? = some x) (hj : X.N[j]? = some y) (hij : i ≠ j) (hx : X.env.scope.names.lookup x = some .local) (hy : X.env.scope.names.lookup y = some .local) (ha : DA X W [a, b] fs)
    (hw : swappedStores [.Tuple [.Name x px, .Name y py] kt pt] (.Tuple [a, b] k2 pt2) X.env = pure (some [x, y])) (hs : swapsWithSole [.Tuple [.Name x px, .Name y py] kt pt] (.Tuple [a, b] k2 pt2) pos.line X.env = pure false := by rfl) :
    DS X W (.Assign [.Tuple [.Name x px, .Name y py] kt pt] (.Tuple [a, b] k2 pt2) pos) (sPar i j fs) := PS.of (ps_par C.calm C.nd hi hj hij hx hy ha hw hs) fun D σ H q => by
  obtain ⟨g, S, env, hv, x, k⟩ := tS_ask.mp q
  refine tDs_ask.mpr ⟨g, S, env, x, ?_⟩
  unfold sPar at k
  cases e : fs env with
  | bad => simp only [e] at k; exact k.elim
  | ex c e' => simp only [e] at k; exact fun C H' hc y => k C σ H' hc y
  | ok rs e' =>
    intro vs H' hl y
    match rs, vs, hl, e, y with
    | [r1, r2], [v1, v2], _, e, y =>
      simp only [e] at k
      refine ⟨v1, v2, rfl, ?_⟩
      have go : (∀ n, r1 ≠ .slot n) → askS X.K X.mg W g S D (match sto r2 j e' with
          | some e1 => match sto r1 i e1 with
            | some e2 => .nx e2
            | none => .bad
          | none => .bad) → D.nx ((σ.set i (some v1)).set j (some v2)) H' := fun n1 k => by
        obtain ⟨O, y⟩ := y
        have ns : NS ((v1, r1) :: S) := fun e he m z => by
          rcases List.mem_cons.mp he with rfl | he
          · exact n1 m z
          · exact hv.ns e he m z
        cases q1 : sto r2 j e' with
        | none => simp only [q1] at k; exact k.elim
        | some e1 =>
          simp only [q1] at k
          obtain ⟨O1, y1⟩ := EnvO.sto (show EnvO X.K g O H' σ e' ((v2, r2) :: (v1, r1) :: S) from y) ns q1
          cases q2 : sto r1 i e1 with
          | none => simp only [q2] at k; exact k.elim
          | some e2 =>
            simp only [q2] at k
            obtain ⟨O2, y2⟩ := y1.sto hv.ns q2
            rw [List.set_comm _ _ hij]
            exact k _ H' ⟨O2, y2⟩
      cases r1 with
      | slot n => exact k.elim
      | val d => exact go (fun n z => by cases z) k
      | tmp d => exact go (fun n z => by cases z) k
    | [], _, _, e, _ => simp only [e] at k; exact k.elim
    | [_], _, _, e, _ => simp only [e] at k; exact k.elim
    | _ :: _ :: _ :: _, _, _, e, _ => simp only [e] at k; exact k.elim
    | [_, _], [], hl, _, _ => cases hl
    | [_, _], [_], hl, _, _ => cases hl
    | [_, _], _ :: _ :: _ :: _, hl, _, _ => cases hl
end
end DL

/-! DL15: in-place operations; what the top has written, in short. -/
namespace DL
open PySem PySem.Spec PyProof.Rows L2
section
variable {X : Cx} {W : WX} {k : Nat}
theorem iop_mulW : OpR X (inplaceOp .Mult) (rI CMulW fun i j => .int (i * j)) := opI fun _ _ _ _ _ _ _ hc q => imul_int q hc.ok
theorem iAddI_d : OpD X (inplaceOp .Add) oAddI := opI_d iop_add fun _ _ _ _ => .int _
theorem iAddS_d : OpD X (inplaceOp .Add) oAddS := by
  refine ⟨_, iop_add_str, fun A H x y d1 d2 res Q p1 p2 e q => ?_⟩
  cases d1 <;> cases d2 <;> try (cases e; done)
  rename_i i j
  obtain rfl := prep_str p1
  obtain rfl := prep_str p2
  have e' : (if i.length + j.length ≤ sizeLine then some (Opd.val (D.str (i ++ j))) else none) = some res := e
  by_cases hc : i.length + j.length ≤ sizeLine
  · rw [if_pos hc] at e'
    obtain rfl := Option.some.inj e'
    exact ⟨i, j, rfl, rfl, hc, q.same (.str _)⟩
  · rw [if_neg hc] at e'; cases e'
def iAdd : O2
  | .int i, .int j => some (.val (.int (i + j)))
  | .str x, .str y => if x.length + y.length ≤ sizeLine then some (.val (.str (x ++ y))) else none
  | _, _ => none
theorem iAdd_d : OpD X (inplaceOp .Add) iAdd := iAddI_d.or iAddS_d fun a b r h => by
  unfold iAdd at h
  split at h
  · exact .inl h
  · exact .inr h
  · cases h
theorem iSub_d : OpD X (inplaceOp .Sub) oSub := opI_d iop_sub fun _ _ _ _ => .int _
theorem iMul_d : OpD X (inplaceOp .Mult) oMulI := opIc_d iop_mulW (fun i j h => (of_decide_eq_true h : i.natAbs.log2 + j.natAbs.log2 < 1000000)) fun _ _ _ _ => .int _
theorem iMod_d : OpD X (inplaceOp .Mod) oMod := opIc_d iop_mod (fun i j h => of_decide_eq_true h) fun _ _ _ _ => .int _
theorem iDiv_d : OpD X (inplaceOp .FloorDiv) oDiv := opIc_d iop_fdivW (fun i j h => (of_decide_eq_true h : 0 < j ∧ j.natAbs.log2 < 9000)) fun _ _ _ _ => .int _
theorem At.blk (C : At k X W) {s : Shared} {H : Hp} {scope : Scope} {cenv : Env} {fp : List Addr} : At k (X.blk s H scope cenv fp) W0 := ⟨takes0, PassesOwn.never, C.calm, C.nd, C.gu, C.room⟩
theorem At.eq (C : At k X W) : X.A.units + 64 < cLine := C.room.units
end
/-- a def of the text, where it stands -/
structure FunC (K : PySem.W.Frag) (mg : Str → Option Value) (x : Str) (st : Stmt) (ps : List Str) : Prop where
  ex : ∃ f fd, Fun K x x st f fd ∧ mg x = some (.ref f) ∧ Binds K fd ps [] ∧ KwB K fd ps
/-- a def that is called -/
structure Cal (P : Program) (w : World) (K : PySem.W.Frag) (mg : Str → Option Value) (base : Heap) (k : Nat) (x : Str) (ps : List Str) (ks : List Bool) (ff : FD) : Prop where
  ex : ∃ f fd, FnG P w K mg base k f fd ps (spD K mg ks ff) ∧ mg x = some (.ref f) ∧ PySem.W.keepIn K (.ref f) = true ∧ Binds K fd ps [] ∧ KwB K fd ps
section
variable {P : Program} {w : World} {K : PySem.W.Frag} {mg : Str → Option Value} {base : Heap}
theorem cal_mk {x : Str} {st : Stmt} {N ps : List Str} {k : Nat} {ks : List Bool} {m : MS} (F : FunC K mg x st ps) (S : FnScope N ps (defScope st)) (hl : ks.length = ps.length) (hN : ks.length ≤ N.length)
    (hb : ∀ (f : Addr) (cdv : Value) (A : Around) (outer : List Env) (s : Shared) (H : Hp) (W : WX) (E : XK), At k (cxOf (L2.CX P w) P w K mg base N x (defScope st) f cdv A outer s H E) W →
      PSs (cxOf (L2.CX P w) P w K mg base N x (defScope st) f cdv A outer s H E) (defBody st) (tS K mg W m)) : Cal P w K mg base (k + 1) x ps ks (mkF ks N.length m) := by
  obtain ⟨f, fd, F1, h1, h2, h3⟩ := F.ex
  exact ⟨f, fd, fnD F1 S hl hN (hb f), h1, F1.kp, h2, h3⟩
theorem Cal.mono {j k : Nat} {x : Str} {ps : List Str} {ks : List Bool} {ff : FD} (c : Cal P w K mg base j x ps ks ff) (h : j ≤ k) : Cal P w K mg base k x ps ks ff := by
  obtain ⟨f, fd, h1, h2, h3, h4, h5⟩ := c.ex
  exact ⟨f, fd, h1.mono h, h2, h3, h4, h5⟩
theorem funC_mk {x : Str} {st : Stmt} {ps : List Str} {f : Addr} {oc : Value} {od an : Option Addr} {sl : Array (Option Value)} {kV dc pm cd ct : Value} {h : Heap} (X : K.In h) (G : h.Ns mainGlobals mg) (a : PySem.W.nsIn K mainGlobals x = some (some (.ref f)))
    (l : K.lookup f = some ⟨oc, od, .func (PySem.W.fnOf x x (defArgs st) (defBody st) (defScope st) .none kV dc pm an cd ct), sl⟩) (c : PySem.W.codeIn K cd x = true) (k : PySem.W.keepIn K (.ref f) = true)
    (hb : ∀ (kV doc pm : Value) (an : Option Addr) (cdv ct : Value) (us : List Value), us.length = ps.length → bindArgs (PySem.W.fnOf x x (defArgs st) (defBody st) (defScope st) .none kV doc pm an cdv ct) ⟨us, []⟩ = pure (ps.zip us))
    (hk : ∀ (kV doc pm : Value) (an : Option Addr) (cdv ct : Value) (us : List Value), us.length = ps.length → bindArgs (PySem.W.fnOf x x (defArgs st) (defBody st) (defScope st) .none kV doc pm an cdv ct) ⟨[], ps.zip us⟩ = pure (ps.zip us)) : FunC K mg x st ps := by
  have F := fun_mk (st := st) l c k
  exact ⟨f, _, F, PySem.W.mg_of X G a, F.binds hb, fun s ws _ hl => .of_eq (hk kV dc pm an cd ct ws hl)⟩
end
section
variable {X : Cx} {W : WX} {k : Nat} {x : Str} {p pos : Pos} {e : Expr} {es : List Expr} {kws : List Keyword} {ks : List Bool} {ff : FD} {fs : M (List Opd)} {ps : List Str}
theorem de_cal {j : Nat} (c : Cal X.prog X.w X.K X.mg X.base j x ps ks ff) (C : At k X W) (hj : j ≤ k) (hg : Gl X x) (ha : DA X W (e :: es) fs) (hdb : (x == ("__debug__" : Str)) = false := by decide)
    (he : starEach (e :: es) X.env = (false, eval e X.env) :: starEach es X.env := by rfl) (hpl : (backTo pos (starEach es X.env)).any (·.1) = false := by rfl) : DE X W (.Call (.Name x p) (e :: es) [] pos) (xCall ks ff fs) := by
  obtain ⟨f, fd, F, h1, h2, h3, _⟩ := (c.mono hj).ex
  exact de_call F C hg h1 h2 h3 ha hdb he hpl
theorem de_cal0 {j : Nat} (c : Cal X.prog X.w X.K X.mg X.base j x ps ks ff) (C : At k X W) (hj : j ≤ k) (hg : Gl X x) (hdb : (x == ("__debug__" : Str)) = false := by decide) : DE X W (.Call (.Name x p) [] [] pos) (xCall ks ff aNil) := by
  obtain ⟨f, fd, F, h1, h2, h3, _⟩ := (c.mono hj).ex
  exact de_call0 F C hg h1 h2 h3 hdb
theorem de_calK {j : Nat} (c : Cal X.prog X.w X.K X.mg X.base j x ps ks ff) (C : At k X W) (hj : j ≤ k) (hg : Gl X x) (ha : DK X W kws fs) (hall : (backToKw pos (keywordEach kws X.env)).all (·.1.isSome) = true := by rfl)
    (hks : (backToKw pos (keywordEach kws X.env)).filterMap (·.1) = ps := by rfl) (hdb : (x == ("__debug__" : Str)) = false := by decide)
    (hpl : ((backTo pos (starEach [] X.env)).any (·.1) || (backToKw pos (keywordEach kws X.env)).any (·.1.isNone)) = false := by rfl) : DE X W (.Call (.Name x p) [] kws pos) (xCall ks ff fs) := by
  obtain ⟨f, fd, F, h1, h2, h3, h4⟩ := (c.mono hj).ex
  exact de_callK0 F C hg h1 h2 h4 ha hall hks hdb hpl
/-- an own exception class over ValueError -/
structure ExcC (K : PySem.W.Frag) (mg : Str → Option Value) (x : Str) : Prop where
  ex : ∃ C, mg x = some (.ref C) ∧ PySem.W.excIn K C [.type "ValueError", .type "Exception", .type "BaseException", .type "object"] "ValueError.__new__" = true ∧ PySem.W.keepIn K (.ref C) = true ∧
    PySem.W.subIn K (.ref C) (.type "BaseException") = some true ∧ PySem.W.typeIn K (.ref C) = some (.type "type")
theorem excC_mk {K : PySem.W.Frag} {mg : Str → Option Value} {h : Heap} {C : Addr} (X : K.In h) (G : h.Ns mainGlobals mg) (a : PySem.W.nsIn K mainGlobals x = some (some (.ref C)))
    (q : PySem.W.excIn K C [.type "ValueError", .type "Exception", .type "BaseException", .type "object"] "ValueError.__new__" = true) (k : PySem.W.keepIn K (.ref C) = true) (s : PySem.W.subIn K (.ref C) (.type "BaseException") = some true) (t : PySem.W.typeIn K (.ref C) = some (.type "type")) :
    ExcC K mg x := ⟨C, PySem.W.mg_of X G a, q, k, s, t⟩
theorem ds_raiseC {m : Str} {j : Nat} {p2 pos2 : Pos} (E : ExcC X.K X.mg x) (at_ : At k X W) (hg : Gl X x) (hdb : (x == ("__debug__" : Str)) = false := by decide) : DS X W (.Raise (some (.Call (.Name x p) [.Constant (.str m) j p2] [] pos)) none pos2) (sRaise x) := by
  obtain ⟨C, h1, h2, h3, h4, h5⟩ := E.ex
  exact ds_raise at_ PySem.F.excBase_ValueError h2 h1 h3 (raises_own h4 h5) hg hdb
end
end DL

/-! DL16: global constants, is None, list(range(..)), the law's end from Cal. -/
namespace DL
open PySem PySem.Spec PyProof.Rows L2
section
variable {X : Cx} {W : WX} {k : Nat} {a b : Expr} {fa fb : M Opd} {p pos : Pos}
theorem de_gl {x : Str} {d : D} {v : V} (h : ∃ u, X.mg x = some u ∧ RelV v u) (hg : Gl X x) (r : ∀ A H, Rep X.K A H v d) (hd : (x == ("__debug__" : Str)) = false := by decide) : DE X W (.Name x pos) (xC d) := by
  obtain ⟨u, h1, h2⟩ := h
  exact de_c (pe_glob hg h1 h2 hd) r
def isNonD : D → Bool
  | .non => true
  | _ => false
theorem prep_isN2 {K : PySem.W.Frag} {A : Addr → Prop} {H : Hp} {v : V} {d : D} (h : PRep K A H v d) : decide (v = .non) = isNonD d := by
  have e := prep_isN h
  cases d <;> exact e
theorem oIsN_d : OpD X (compareOp .Is) oIsN := by
  refine ⟨_, op_isN, fun A H x y d1 d2 res Q p1 p2 e q => ?_⟩
  unfold oIsN at e
  split at e
  · obtain rfl := prep_non p2
    obtain rfl := Option.some.inj e
    refine ⟨rfl, ?_⟩
    have := q.same (.bl _)
    rw [prep_isN2 p1]
    rename_i d1
    cases d1 <;> exact this
  · cases e
theorem oNotN_d : OpD X (compareOp .IsNot) oNotN := by
  refine ⟨_, op_notN, fun A H x y d1 d2 res Q p1 p2 e q => ?_⟩
  have e2 : ∀ d, oNotN d .non = some (.val (.bl (!isNonD d))) := fun d => by cases d <;> rfl
  cases d2 <;> try (cases d1 <;> cases e; done)
  obtain rfl := prep_non p2
  rw [e2] at e
  obtain rfl := Option.some.inj e
  refine ⟨rfl, ?_⟩
  rw [prep_isN2 p1]
  exact q.same (.bl _)
def fitR (i j : Int) : Bool := fit62 i && fit62 j && decide ((j - i).toNat ≤ 2 ^ 24)
theorem fitR_ok {i j : Int} (h : fitR i j = true) : RgOk i j := by
  unfold fitR at h
  simp only [Bool.and_eq_true, decide_eq_true_eq] at h
  exact ⟨(fit62_of h.1.1).1, (fit62_of h.1.1).2, (fit62_of h.1.2).1, (fit62_of h.1.2).2, h.2⟩
def oLR1 : O1
  | .int n => if fitR 0 n then some (.tmp (.lst (rngD 0 1 n.toNat))) else none
  | _ => none
def oLR2 : O2
  | .int i, .int j => if fitR i j then some (.tmp (.lst (rngD i 1 (j - i).toNat))) else none
  | _, _ => none
theorem repL_rg {K : PySem.W.Frag} {A : Addr → Prop} {H : Hp} : ∀ (l : List Nat) (i : Int), RepL K A H (l.map fun (j : Nat) => V.int (i + (j : Nat))) (l.map fun (j : Nat) => D.int (i + (j : Int) * 1))
  | [], _ => .nil
  | x :: r, i => .cons (by show Rep K A H (V.int (i + (x : Int))) (D.int (i + (x : Int) * 1)); rw [Int.mul_one]; exact .int _) (repL_rg r i)
theorem de_lrange1 (C : At k X W) (hl : Gl X "list") (ml : X.mg "list" = none) (hr : Gl X "range") (mr : X.mg "range" = none) (ha : DE X W a fa) {p2 pos2 : Pos} (na : starEach [a] X.env = (false, eval a X.env) :: starEach [] X.env := by rfl)
    (ne : starEach [.Call (.Name "range" p) [a] [] pos] X.env = (false, eval (.Call (.Name "range" p) [a] [] pos) X.env) :: starEach [] X.env := by rfl) :
    DE X W (.Call (.Name "list" p2) [.Call (.Name "range" p) [a] [] pos] [] pos2) (x1 oLR1 fa) := PE.of (pe_listRg C.calm hl ml (prg_1 hr mr ha na) ne) fun σ H Q q => by
  obtain ⟨g, S, env, x, k⟩ := tD_ask.mp q
  refine tD_then x (fun c e z => z) (fun z => z) k fun r e v H' y z => ?_
  obtain ⟨O, y⟩ := y
  cases pk : peek r e with
  | none => simp only [pk] at z; exact z.elim
  | some d =>
    cases d <;> simp only [pk, oLR1] at z <;> try exact z.elim
    rename_i i
    by_cases hf : fitR 0 i = true
    · simp only [hf, if_true] at z
      refine ⟨i, prep_int (y.peek List.mem_cons_self pk), fitR_ok hf, rep_tmp ((y.res (T := [_]) (res := .tmp (.lst (rngD 0 1 i.toNat))) z)) ?_⟩
      have e0 : rgV 0 i = (List.range i.toNat).map fun (j : Nat) => V.int (0 + (j : Nat)) := by unfold rgV; rw [Int.sub_zero]
      rw [e0]
      exact repL_rg _ _
    · simp only [hf] at z; exact z.elim
theorem de_lrange2 (C : At k X W) (hl : Gl X "list") (ml : X.mg "list" = none) (hr : Gl X "range") (mr : X.mg "range" = none) (ha : DE X W a fa) (hb : DE X W b fb) {p2 pos2 : Pos} (na : starEach [a, b] X.env = (false, eval a X.env) :: starEach [b] X.env := by rfl)
    (nb : starEach [b] X.env = (false, eval b X.env) :: starEach [] X.env := by rfl) (hp : (backTo pos (starEach [b] X.env)).any (·.1) = false := by rfl)
    (ne : starEach [.Call (.Name "range" p) [a, b] [] pos] X.env = (false, eval (.Call (.Name "range" p) [a, b] [] pos) X.env) :: starEach [] X.env := by rfl) :
    DE X W (.Call (.Name "list" p2) [.Call (.Name "range" p) [a, b] [] pos] [] pos2) (x2 oLR2 fa fb) := PE.of (pe_listRg C.calm hl ml (prg_2 hr mr ha hb na nb hp) ne) fun σ H Q q => by
  obtain ⟨g, S, env, x, k⟩ := tD_ask.mp q
  refine t_two x (fun c e z => z) (fun z => z) k fun r1 r2 e v1 v2 H' y z => ?_
  refine x2_ok (f := oLR2) (r := fun v1 v2 H' Q => ∃ i j, v1 = .int i ∧ v2 = .int j ∧ RgOk i j ∧ ∀ q, H' q = none → Q (.ref q) (upd H' q (.lst (rgV i j)))) (fun A H x y d1 d2 res Q p1 p2 e q => ?_) y z
  unfold oLR2 at e
  split at e
  · rename_i i j
    split at e
    · rename_i hf
      obtain rfl := prep_int p1
      obtain rfl := prep_int p2
      obtain rfl := Option.some.inj e
      refine ⟨i, j, rfl, rfl, fitR_ok hf, rep_tmp q ?_⟩
      unfold rgV rngD
      exact repL_rg _ _
    · cases e
  · cases e
end
theorem walkC {l : PySem.W.OpenLaw} {n k : Nat} {q : Program} {loose : List Str} {XP : (Str → Option Value) → Heap → Prop} {YP : World → Heap → Prop} {d : DefRec} {K : Params → PySem.W.Frag} {f : FD} {x nm : Str}
    (hn : l.most = some n) (hdf : d.params.defaults = []) (hnm : d.name = nm) (hn2 : n ≤ sizeLine) (hr : Room k callerA) (hY : ∀ (w : World) (h : Heap), YP w h → (K w.params).In h)
    (F : ∀ (w : World) (mg : Str → Option Value) (h : Heap), (K w.params).In h → h.Ns mainGlobals mg → ∀ base : Heap, Cal l.prog w (K w.params) mg base k nm [x] [false] f)
    (hf : ∀ ns : List Int, ns.length ≤ n → f [.scr (ns.map D.int)] = .ok false (.bl true) []) :
    PySem.W.WalkO q loose XP YP l.row.toRowW d [] (fun f vs => PySem.call f vs) := by
  refine walkG (x := x) hn hn2 hdf hr hY (fun w mg fa h KX G hm base _ _ => ?_) hf
  obtain ⟨f0, fd, h1, h2, _, h4, _⟩ := (F w mg h KX G base).ex
  rw [hnm, h2] at hm
  obtain rfl : f0 = fa := by injection hm with hm; injection hm
  exact ⟨fd, h1, h4⟩
end DL

/-! DL17: methods that change nothing; tuple(x). -/
namespace DL
open PySem PySem.Spec PyProof.Rows L2
abbrev OR := D → List D → Option Opd
/-- the receiver's kind -/
def isT (T : String) : D → Bool
  | .str _ => T == "str"
  | .lst _ => T == "list"
  | .scr _ => T == "list"
  | _ => false
structure RdD (X : Cx) (id : String) (f : OR) : Prop where
  ex : ∃ r, MtR X id r ∧ ∀ A H x vs d ds res Q, PRep X.K A H x d → PRepL X.K A H vs ds → f d ds = some res → resQ X.K A H res Q → r x vs H Q
theorem RdD.or {X : Cx} {id : String} {g1 g2 g : OR} (h1 : RdD X id g1) (h2 : RdD X id g2) (h : ∀ a b r, g a b = some r → g1 a b = some r ∨ g2 a b = some r) : RdD X id g := by
  obtain ⟨r1, a1, b1⟩ := h1.ex
  obtain ⟨r2, a2, b2⟩ := h2.ex
  refine ⟨fun x xs H Q => r1 x xs H Q ∨ r2 x xs H Q, fun pins s σ H x xs v us Q I rx rs z => ?_, fun A H x vs d ds res Q p1 p2 e q => ?_⟩
  · rcases z with z | z
    · exact a1 pins s σ H x xs v us Q I rx rs z
    · exact a2 pins s σ H x xs v us Q I rx rs z
  · rcases h _ _ _ e with e | e
    · exact .inl (b1 A H x vs d ds res Q p1 p2 e q)
    · exact .inr (b2 A H x vs d ds res Q p1 p2 e q)
/-- the second half: the receiver is there, the arguments too -/
def rdE (f : OR) (r0 : Opd) (rs : List Opd) : M Opd := fun env => match peek r0 env, peeks rs env with
  | some d, some ds => match f d ds with
    | some (.val d) => .ok (.val d) env
    | some (.tmp d) => .ok (.tmp d) env
    | _ => .bad
  | _, _ => .bad
def xRd (T : String) (f : OR) (fa : M Opd) (fs : M (List Opd)) : M Opd := fa.bind fun r0 => fun env => match peek r0 env with
  | some d => if isT T d = true then (fs.bind (rdE f r0)) env else .bad
  | none => .bad
section
variable {X : Cx} {W : WX} {fa : M Opd} {fs : M (List Opd)} {a o e : Expr} {es : List Expr} {name : Str} {apos cpos : Pos} {T id : String} {f : OR}
theorem isT_ty {K : PySem.W.Frag} {A : Addr → Prop} {H : Hp} {x : V} {d : D} (p : PRep K A H x d) (h : isT T d = true) : tyV K T x H := by
  cases d <;> try (cases h; done)
  · obtain rfl := prep_str p
    exact beq_iff_eq.mp h
  · obtain ⟨a, us, rfl, h1, _⟩ := p
    exact .inl ⟨beq_iff_eq.mp h, us, SqL.of h1⟩
  · obtain ⟨a, us, rfl, h1, _⟩ := p
    exact .inl ⟨beq_iff_eq.mp h, us, h1⟩
theorem rd_imp {r : V → List V → Hp → VK → Prop} (hr : ∀ A H x vs d ds res Q, PRep X.K A H x d → PRepL X.K A H vs ds → f d ds = some res → resQ X.K A H res Q → r x vs H Q) {σ : L2.St} {H : Hp} {Q : VK} (q : tD X.K X.mg W (xRd T f fa fs) σ H Q) :
    tBM X.K T r (tD X.K X.mg W fa) (tDs X.K X.mg W fs) σ H Q := by
  obtain ⟨g, S, env, x, k⟩ := tD_ask.mp q
  refine tD_then x (fun c e z => z) (fun z => z) k fun r0 e v H' y z => ?_
  obtain ⟨O, y⟩ := y
  cases p0 : peek r0 e with
  | none => simp only [p0] at z; exact z.elim
  | some d0 =>
    simp only [p0] at z
    by_cases ht : isT T d0 = true
    · rw [if_pos ht] at z
      refine ⟨isT_ty (y.peek List.mem_cons_self p0) ht, ?_⟩
      refine tDs_then (S := (v, r0) :: S) (P := askE X.K X.mg W g S σ Q) ⟨O, y⟩ (fun c e' z C H2 hc y2 => z C H2 hc (by obtain ⟨O2, y2⟩ := y2; exact ⟨O2, y2.drop (T := [_])⟩)) (fun z => z) z fun rs e1 vs H1 hl y1 z1 => ?_
      obtain ⟨O1, y1⟩ := y1
      obtain ⟨T1, t1, t2⟩ := pushes_app (vs := vs) (rs := rs) (S := (v, r0) :: S) hl
      rw [t1] at y1
      unfold rdE at z1
      cases p1 : peek r0 e1 with
      | none => simp only [p1] at z1; exact z1.elim
      | some d =>
        cases p2 : peeks rs e1 with
        | none => simp only [p1, p2] at z1; exact z1.elim
        | some ds =>
          simp only [p1, p2] at z1
          have q1 := t2 _ _ _ _ _ _ _ y1 p2
          have q0 := y1.peek (List.mem_append_right _ List.mem_cons_self) p1
          have y3 : EnvO X.K g O1 H1 σ e1 ((T1 ++ [(v, r0)]) ++ S) := by rw [List.append_assoc]; exact y1
          cases ef : f d ds with
          | none => simp only [ef] at z1; exact z1.elim
          | some res =>
            simp only [ef] at z1
            cases res with
            | val d => exact hr _ _ _ _ _ _ _ _ q0 q1 ef (y3.res z1)
            | tmp d => exact hr _ _ _ _ _ _ _ _ q0 q1 ef (y3.res z1)
            | slot i => exact z1.elim
    · rw [if_neg ht] at z; exact z.elim
theorem de_rd (hm : RdD X id f) (pa : PlainAttrs T) (slot : Slot T name id) (hty : typeOf (.builtin id) = pure (.type "method_descriptor")) (ho : DE X W o fa) (ha : DA X W (e :: es) fs)
    (hbase : attributeBase o name X.env (eval o X.env) = eval o X.env := by rfl)
    (hfew : ((backTo cpos (starEach (e :: es) X.env)).all (fun x => !x.1) && (backToKw cpos (keywordEach [] X.env)).all (fun x => x.1.isSome) && decide ((e :: es).length + ([] : List Keyword).length + (if ([] : List Keyword).isEmpty then 0 else 1) < 30)) = true := by rfl)
    (hline : (apos.endLine == cpos.line) = true := by rfl) (hs : starEach (e :: es) X.env = (false, eval e X.env) :: starEach es X.env := by rfl) (hplain : (backTo cpos (starEach es X.env)).any (·.1) = false := by rfl) :
    DE X W (.Call (.Attribute o name apos) (e :: es) [] cpos) (xRd T f fa fs) := by
  obtain ⟨r, h1, h2⟩ := hm.ex
  exact PE.of (pe_bm pa slot hty h1 ho ha hbase hfew hline hs hplain) fun σ H Q q => rd_imp h2 q
/-! ### the methods -/
def rCount : OR
  | .str a, [.str b] => some (.val (.int (Txt.count a b)))
  | _, _ => none
theorem rCount_d : RdD X "str.count" rCount := by
  refine ⟨_, mt_count, fun A H x vs d ds res Q p1 p2 e q => ?_⟩
  unfold rCount at e
  split at e
  · obtain rfl := prep_str p1
    obtain ⟨v, rfl, p3⟩ := prepL_one p2
    obtain rfl := prep_str p3
    obtain rfl := Option.some.inj e
    exact ⟨_, _, rfl, rfl, q.same (.int _)⟩
  · cases e
def asStrs : List D → Option (List Str)
  | [] => some []
  | .str i :: l => (asStrs l).map (i :: ·)
  | _ => none
theorem asStrs_map (ns : List Str) : asStrs (ns.map D.str) = some ns := by
  induction ns with
  | nil => rfl
  | cons x r ih => show (asStrs (r.map D.str)).map (x :: ·) = _; rw [ih]; rfl
theorem asStrs_v {K : PySem.W.Frag} {A : Addr → Prop} {H : Hp} : ∀ {vs : List V} {l : List D} {ns : List Str}, RepL K A H vs l → asStrs l = some ns → vs = ns.map V.str
  | _, [], _, h, e => by cases h; cases e; rfl
  | _, d :: l, _, h, e => by
    cases h with
    | cons h1 h2 =>
      cases d <;> try (cases e; done)
      rename_i i
      cases h1
      have e' : (asStrs l).map (i :: ·) = some _ := e
      cases q : asStrs l with
      | none => rw [q] at e'; cases e'
      | some ms =>
        rw [q] at e'
        obtain rfl := Option.some.inj e'
        rw [asStrs_v h2 q]; rfl
def joinO (a : Str) (l : List D) : Option Opd := match asStrs l with
  | some ys => if (ys.map (·.length)).sum + ys.length * a.length ≤ 16777216 then some (.val (.str (Txt.join a ys))) else none
  | none => none
def rJoin : OR
  | .str a, [.lst l] => joinO a l
  | .str a, [.scr l] => joinO a l
  | .str a, [.tup l] => joinO a l
  | _, _ => none
theorem rJoin_d : RdD X "str.join" rJoin := by
  have go : ∀ (a : Str) (p : Addr) (vs : List V) (l : List D) (A : Addr → Prop) (H : Hp) (res : Opd) (Q : VK), RepL X.K A H vs l → joinO a l = some res → resQ X.K A H res Q → (SqL X.K H p vs ∨ SqT X.K H p vs) →
      ∃ a' p', ∃ ys : List Str, V.str a = .str a' ∧ [V.ref p] = [.ref p'] ∧ (SqL X.K H p' (ys.map V.str) ∨ SqT X.K H p' (ys.map V.str)) ∧ (ys.map (·.length)).sum + ys.length * a'.length ≤ 16777216 ∧ Q (.str (Txt.join a' ys)) H := fun a p vs l A H res Q h e q hs => by
    unfold joinO at e
    cases es : asStrs l with
    | none => rw [es] at e; cases e
    | some ys =>
      simp only [es] at e
      obtain rfl := asStrs_v h es
      by_cases hz : (ys.map (·.length)).sum + ys.length * a.length ≤ 16777216
      · rw [if_pos hz] at e
        obtain rfl := Option.some.inj e
        exact ⟨a, p, ys, rfl, rfl, hs, hz, q.same (.str _)⟩
      · rw [if_neg hz] at e; cases e
  refine ⟨_, mt_join, fun A H x vs d ds res Q p1 p2 e q => ?_⟩
  unfold rJoin at e
  split at e
  · obtain rfl := prep_str p1
    obtain ⟨v, rfl, b, us, rfl, h1, h2⟩ := prepL_one p2
    exact go _ b us _ A H res Q h2 e q (.inl (SqL.of h1))
  · obtain rfl := prep_str p1
    obtain ⟨v, rfl, b, us, rfl, h1, h2⟩ := prepL_one p2
    exact go _ b us _ A H res Q h2 e q (.inl h1)
  · obtain rfl := prep_str p1
    obtain ⟨v, rfl, b, us, rfl, h1, h2⟩ := prepL_one p2
    exact go _ b us _ A H res Q h2 e q (.inr h1)
  · cases e
/-- where y stands first -/
def idxD (y : D) : List D → Option Nat
  | [] => none
  | z :: r => if deq z y = true then some 0 else (idxD y r).map (· + 1)
theorem idxD_of {y : D} : ∀ {l : List D} {j : Nat}, idxD y l = some j → ∃ z, l[j]? = some z ∧ deq z y = true ∧ ∀ (m : Nat) (z' : D), m < j → l[m]? = some z' → deq z' y = false
  | [], _, h => nomatch h
  | z :: r, j, h => by
    unfold idxD at h
    by_cases c : deq z y = true
    · rw [if_pos c] at h
      obtain rfl := Option.some.inj h
      exact ⟨z, rfl, c, fun m z' hm => absurd hm (Nat.not_lt_zero _)⟩
    · rw [if_neg c] at h
      cases q : idxD y r with
      | none => rw [q] at h; cases h
      | some i =>
        rw [q] at h
        obtain rfl := Option.some.inj h
        obtain ⟨z1, h1, h2, h3⟩ := idxD_of q
        refine ⟨z1, h1, h2, fun m z' hm e => ?_⟩
        cases m with
        | zero =>
          obtain rfl := Option.some.inj e
          exact Bool.eq_false_iff.mpr c
        | succ m => exact h3 m z' (Nat.lt_of_succ_lt_succ hm) e
theorem toPyL_map : ∀ l : List D, toPyL l = l.map toPy
  | [] => rfl
  | d :: r => by show toPy d :: toPyL r = _; rw [toPyL_map r]; rfl
def idxO (l : List D) (y : D) : Option Opd := if (shp (.lst l) && shp y) = true then (idxD y l).map fun j => .val (.int (j : Int)) else none
def rIndexO : OR
  | .lst l, [y] => idxO l y
  | .scr l, [y] => idxO l y
  | _, _ => none
theorem rIndexO_d (hu : X.A.units + 65 < cLine) : RdD X "list.index" rIndexO := by
  have go : ∀ (p : Addr) (vs : List V) (l : List D) (v : V) (y : D) (A : Addr → Prop) (H : Hp) (res : Opd) (Q : VK), RepL X.K A H vs l → PRep X.K A H v y → idxO l y = some res → resQ X.K A H res Q → SqL X.K H p vs → rIndexD X.K (.ref p) [v] H Q := fun p vs l v y A H res Q h hv e q hs => by
    unfold idxO at e
    split at e
    · rename_i hc
      obtain ⟨c1, c2⟩ := Bool.and_eq_true_iff.mp hc
      cases ei : idxD y l with
      | none => rw [ei] at e; cases e
      | some j =>
        rw [ei] at e
        obtain rfl := Option.some.inj e
        obtain ⟨z, h1, h2, h3⟩ := idxD_of ei
        refine ⟨p, v, toPy y, toPyL l, j, toPy z, rfl, rfl, .lst hs (repL_dp h (SeqAt.canLay_of_shaped c1)), prep_dp hv (SeqAt.canLay_of_shaped c2), c1, c2, by rw [toPyL_map, List.getElem?_map, h1]; rfl, h2, fun m z' hm e => ?_, q.same (.int _)⟩
        rw [toPyL_map, List.getElem?_map] at e
        cases el : l[m]? with
        | none => rw [el] at e; cases e
        | some w =>
          rw [el] at e
          obtain rfl := Option.some.inj e
          exact h3 m w hm el
    · cases e
  refine ⟨_, mt_indexD hu, fun A H x vs d ds res Q p1 p2 e q => ?_⟩
  unfold rIndexO at e
  split at e
  · obtain ⟨b, us, rfl, h1, h2⟩ := p1
    obtain ⟨v, rfl, p3⟩ := prepL_one p2
    exact go b us _ v _ A H res Q h2 p3 e q (SqL.of h1)
  · obtain ⟨b, us, rfl, h1, h2⟩ := p1
    obtain ⟨v, rfl, p3⟩ := prepL_one p2
    exact go b us _ v _ A H res Q h2 p3 e q h1
  · cases e
def rLCount : OR
  | .lst l, [.int k] => (asInts l).map fun ns => .val (.int (ns.count k : Nat))
  | .scr l, [.int k] => (asInts l).map fun ns => .val (.int (ns.count k : Nat))
  | _, _ => none
theorem rLCount_d : RdD X "list.count" rLCount := by
  refine ⟨_, mt_lcount, fun A H x vs d ds res Q p1 p2 e q => ?_⟩
  unfold rLCount at e
  split at e
  all_goals try (cases e; done)
  · rename_i l k
    obtain ⟨b, us, rfl, h1, h2⟩ := p1
    obtain ⟨v, rfl, p3⟩ := prepL_one p2
    obtain rfl := prep_int p3
    cases ei : asInts l with
    | none => rw [ei] at e; cases e
    | some ns =>
      rw [ei] at e
      obtain rfl := Option.some.inj e
      obtain rfl := asInts_v h2 ei
      exact ⟨b, ns, k, rfl, rfl, SqL.of h1, q.same (.int _)⟩
  · rename_i l k
    obtain ⟨b, us, rfl, h1, h2⟩ := p1
    obtain ⟨v, rfl, p3⟩ := prepL_one p2
    obtain rfl := prep_int p3
    cases ei : asInts l with
    | none => rw [ei] at e; cases e
    | some ns =>
      rw [ei] at e
      obtain rfl := Option.some.inj e
      obtain rfl := asInts_v h2 ei
      exact ⟨b, ns, k, rfl, rfl, h1, q.same (.int _)⟩
end
theorem At.eq65 {X : Cx} {W : WX} {k : Nat} (C : At k X W) : X.A.units + 65 < cLine := by have := C.room.un; omega
/-! ### tuple(x) -/
def oTupOf : O1
  | .lst l => some (.val (.tup l))
  | .scr l => some (.val (.tup l))
  | _ => none
section
variable {X : Cx} {W : WX} {fa : M Opd} {a : Expr} {p pos : Pos}
theorem de_tupOf (hg : Gl X "tuple") (hm : X.mg "tuple" = none) (ha : DE X W a fa) (na : starEach [a] X.env = (false, eval a X.env) :: starEach [] X.env := by rfl) : DE X W (.Call (.Name "tuple" p) [a] [] pos) (x1 oTupOf fa) := PE.of (pe_tupleOf hg hm ha na) fun σ H Q q => by
  obtain ⟨g, S, env, x, k⟩ := tD_ask.mp q
  refine tD_then x (fun c e z => z) (fun z => z) k fun r e v H' y z => ?_
  obtain ⟨O, y⟩ := y
  cases pk : peek r e with
  | none => simp only [pk] at z; exact z.elim
  | some d =>
    have p0 := y.peek List.mem_cons_self pk
    cases d <;> simp only [pk, oTupOf] at z <;> try exact z.elim
    · obtain ⟨b, us, rfl, h1, h2⟩ := p0
      exact .inl ⟨b, us, rfl, SqL.of h1, rep_tup (y.res (T := [_]) (res := .val (.tup _)) z) h2 y.trkA⟩
    · obtain ⟨b, us, rfl, h1, h2⟩ := p0
      exact .inl ⟨b, us, rfl, h1, rep_tup (y.res (T := [_]) (res := .val (.tup _)) z) h2 y.trkA⟩
end
end DL

/-! DL18: a, b, c = e1, e2, e3. -/
namespace DL
open PySem PySem.Spec PyProof.Rows L2
def isSlot : Opd → Bool
  | .slot _ => true
  | _ => false
def par3E (i j l : Nat) (r1 r2 r3 : Opd) (e : Ev) : F := if (isSlot r1 || isSlot r2) = true then .bad else match sto r3 l e with
  | some e1 => match sto r2 j e1 with
    | some e2 => match sto r1 i e2 with
      | some e3 => .nx e3
      | none => .bad
    | none => .bad
  | none => .bad
def sPar3 (i j l : Nat) (fa : M (List Opd)) : MS := fun env => match fa env with
  | .ok [r1, r2, r3] e => par3E i j l r1 r2 r3 e
  | .ok _ _ => .bad
  | .ex c e => .ex c e
  | .bad => .bad
section
variable {X : Cx} {W : WX} {k : Nat} {x y z : Str} {a b c : Expr} {fs : M (List Opd)} {px py pz pt pos pt2 : Pos} {kt : Nat} {k2 : Nat}
theorem ds_par3 {i j l : Nat} (C : At k X W) (hi : X.N[i]? = some x) (hj : X.N[j]? = some y) (hl : X.N[l]? = some z) (hij : i ≠ j) (hil : i ≠ l) (hjl : j ≠ l) (hx : X.env.scope.names.lookup x = some .local) (hy : X.env.scope.names.lookup y = some .local) (hz : X.env.scope.names.lookup z = some .local) (ha : DA X W [a, b, c] fs)
    (hw : swappedStores [.Tuple [.Name x px, .Name y py, .Name z pz] kt pt] (.Tuple [a, b, c] k2 pt2) X.env = pure (some [x, y, z])) (hs : swapsWithSole [.Tuple [.Name x px, .Name y py, .Name z pz] kt pt] (.Tuple [a, b, c] k2 pt2) pos.line X.env = pure false := by rfl) :
    DS X W (.Assign [.Tuple [.Name x px, .Name y py, .Name z pz] kt pt] (.Tuple [a, b, c] k2 pt2) pos) (sPar3 i j l fs) := PS.of (ps_par3 C.calm C.nd hi hj hl hij hil hjl hx hy hz ha hw hs) fun D σ H q => by
  obtain ⟨g, S, env, hv, x, k⟩ := tS_ask.mp q
  refine tDs_ask.mpr ⟨g, S, env, x, ?_⟩
  unfold sPar3 at k
  cases e : fs env with
  | bad => simp only [e] at k; exact k.elim
  | ex c e' => simp only [e] at k; exact fun C H' hc y => k C σ H' hc y
  | ok rs e' =>
    intro vs H' hl y
    match rs, vs, hl, e, y with
    | [r1, r2, r3], [v1, v2, v3], _, e, y =>
      simp only [e] at k
      refine ⟨v1, v2, v3, rfl, ?_⟩
      unfold par3E at k
      by_cases hslot : (isSlot r1 || isSlot r2) = true
      · rw [if_pos hslot] at k; exact k.elim
      · rw [if_neg hslot] at k
        have n1 : ∀ n, r1 ≠ .slot n := fun n z => by subst z; exact hslot rfl
        have n2 : ∀ n, r2 ≠ .slot n := fun n z => by subst z; exact hslot (by rw [show isSlot (.slot n) = true from rfl, Bool.or_true])
        obtain ⟨O, y⟩ := y
        have ns1 : NS ((v1, r1) :: S) := fun e he m z => by
          rcases List.mem_cons.mp he with rfl | he
          · exact n1 m z
          · exact hv.ns e he m z
        have ns2 : NS ((v2, r2) :: (v1, r1) :: S) := fun e he m z => by
          rcases List.mem_cons.mp he with rfl | he
          · exact n2 m z
          · exact ns1 e he m z
        cases q1 : sto r3 l e' with
        | none => simp only [q1] at k; exact k.elim
        | some e1 =>
          simp only [q1] at k
          obtain ⟨O1, y1⟩ := EnvO.sto (show EnvO X.K g O H' σ e' ((v3, r3) :: (v2, r2) :: (v1, r1) :: S) from y) ns2 q1
          cases q2 : sto r2 j e1 with
          | none => simp only [q2] at k; exact k.elim
          | some e2 =>
            simp only [q2] at k
            obtain ⟨O2, y2⟩ := y1.sto ns1 q2
            cases q3 : sto r1 i e2 with
            | none => simp only [q3] at k; exact k.elim
            | some e3 =>
              simp only [q3] at k
              obtain ⟨O3, y3⟩ := y2.sto hv.ns q3
              have ec : ((σ.set i (some v1)).set j (some v2)).set l (some v3) = ((σ.set l (some v3)).set j (some v2)).set i (some v1) := by
                rw [List.set_comm _ _ hij, List.set_comm _ _ hil, List.set_comm (some v2) (some v3) hjl]
              rw [ec]
              exact k _ H' ⟨O3, y3⟩
    | [], _, _, e, _ => simp only [e] at k; exact k.elim
    | [_], _, _, e, _ => simp only [e] at k; exact k.elim
    | [_, _], _, _, e, _ => simp only [e] at k; exact k.elim
    | _ :: _ :: _ :: _ :: _, _, _, e, _ => simp only [e] at k; exact k.elim
    | [_, _, _], [], hl, _, _ => cases hl
    | [_, _, _], [_], hl, _, _ => cases hl
    | [_, _, _], [_, _], hl, _, _ => cases hl
    | [_, _, _], _ :: _ :: _ :: _ :: _, hl, _, _ => cases hl
end
end DL

/-! P1: the plain side: reckoning with mirrors; the draws. -/
namespace DL
open PySem L2
def isIo : Sl → Bool
  | .io _ => true
  | _ => false
theorem isIo_no : isIo .no = false := rfl
theorem isIo_fz (d : D) : isIo (.fz d) = false := rfl
theorem isIo_ow (d : D) : isIo (.ow d) = false := rfl
theorem ev_sto (r : Opd) (i : Nat) (e : Ev) : sto r i e = (match e[i]? with
  | none => none
  | some s => if isIo s = true then none else stoV r i e) := by
  unfold sto
  cases e[i]? with
  | none => rfl
  | some s => cases s <;> rfl
/-! ev: begin -/
theorem ev_rdE (f : OR) (r0 : Opd) (rs : List Opd) (e0 : Ev) : rdE f r0 rs e0 = (fun env => match peek r0 env, peeks rs env with
  | some d, some ds => match f d ds with
    | some (.val d) => .ok (.val d) env
    | some (.tmp d) => .ok (.tmp d) env
    | _ => .bad
  | _, _ => .bad) e0 := rfl
theorem ev_xRd (T : String) (f : OR) (fa : M Opd) (fs : M (List Opd)) (e0 : Ev) : xRd T f fa fs e0 = (fa.bind fun r0 => fun env => match peek r0 env with
  | some d => if isT T d = true then (fs.bind (rdE f r0)) env else .bad
  | none => .bad) e0 := rfl
theorem ev_M_bind {α β : Type} (m : M α) (f : α → M β) (e0 : Ev) : M.bind m f e0 = (fun env => match m env with
  | .ok a e => f a e
  | .ex c e => .ex c e
  | .bad => .bad) e0 := rfl
theorem ev_M_pure {α : Type} (a : α) (e0 : Ev) : M.pure a e0 = (fun env => .ok a env) e0 := rfl
theorem ev_xC (d : D) (e0 : Ev) : xC d e0 = (fun env => .ok (.val d) env) e0 := rfl
theorem ev_xVar (i : Nat) (e0 : Ev) : xVar i e0 = (fun env => match env[i]? with
  | some (.fz d) => .ok (.val d) env
  | some (.ow _) => .ok (.slot i) env
  | some (.io _) => .ok (.slot i) env
  | _ => .bad) e0 := rfl
theorem ev_x1 (f : O1) (a : M Opd) (e0 : Ev) : x1 f a e0 = (a.bind fun r1 => fun env => match peek r1 env with
  | some d1 => match f d1 with
    | some (.val d) => .ok (.val d) env
    | some (.tmp d) => .ok (.tmp d) env
    | _ => .bad
  | _ => .bad) e0 := rfl
theorem ev_x2 (f : O2) (a b : M Opd) (e0 : Ev) : x2 f a b e0 = (a.bind fun r1 => b.bind fun r2 => fun env => match peek r1 env, peek r2 env with
  | some d1, some d2 => match f d1 d2 with
    | some (.val d) => .ok (.val d) env
    | some (.tmp d) => .ok (.tmp d) env
    | _ => .bad
  | _, _ => .bad) e0 := rfl
theorem ev_x3 (f f' : O2) (a b c : M Opd) (e0 : Ev) : x3 f f' a b c e0 = (a.bind fun r1 => b.bind fun r2 => fun env => match peek r1 env, peek r2 env with
  | some d1, some d2 => match f d1 d2 with
    | some (.val (.bl true)) => c.bind (fun r3 => fun env => match peek r2 env, peek r3 env with
      | some d2, some d3 => match f' d2 d3 with
        | some (.val d) => .ok (.val d) env
        | _ => .bad
      | _, _ => .bad) env
    | some (.val (.bl false)) => .ok (.val (.bl false)) env
    | _ => .bad
  | _, _ => .bad) e0 := rfl
theorem ev_xN (f : ON) (a : M (List Opd)) (e0 : Ev) : xN f a e0 = (a.bind fun rs => fun env => match peeks rs env with
  | some ds => match f ds with
    | some (.val d) => .ok (.val d) env
    | some (.tmp d) => .ok (.tmp d) env
    | _ => .bad
  | _ => .bad) e0 := rfl
theorem ev_aNil (e0 : Ev) : aNil  e0 = (fun env => .ok [] env) e0 := rfl
theorem ev_aCons (a : M Opd) (b : M (List Opd)) (e0 : Ev) : aCons a b e0 = (a.bind fun r => b.bind fun rs => fun env => .ok (r :: rs) env) e0 := rfl
theorem ev_sSeq (m n : MS) (e0 : Ev) : sSeq m n e0 = (fun e => match m e with
  | .nx e' => n e'
  | f => f) e0 := rfl
theorem ev_sIf (c : M Bool) (m n : MS) (e0 : Ev) : sIf c m n e0 = (fun e => match c e with
  | .ok true e' => m e'
  | .ok false e' => n e'
  | .ex c e' => .ex c e'
  | .bad => .bad) e0 := rfl
theorem ev_sSet (i : Nat) (f : M Opd) (e0 : Ev) : sSet i f e0 = (fun e => match f e with
  | .ok r e' => match sto r i e' with
    | some e2 => .nx e2
    | none => .bad
  | .ex c e' => .ex c e'
  | .bad => .bad) e0 := rfl
theorem ev_sRet (f : M Opd) (e0 : Ev) : sRet f e0 = (fun e => match f e with
  | .ok r e' => .rt r e'
  | .ex c e' => .ex c e'
  | .bad => .bad) e0 := rfl
theorem ev_sDrop (f : M Opd) (e0 : Ev) : sDrop f e0 = (fun e => match f e with
  | .ok _ e' => .nx e'
  | .ex c e' => .ex c e'
  | .bad => .bad) e0 := rfl
theorem ev_sNext (e0 : Ev) : sNext  e0 = (fun e => .nx e) e0 := rfl
theorem ev_sBr (e0 : Ev) : sBr  e0 = (fun e => .br e) e0 := rfl
theorem ev_sCt (e0 : Ev) : sCt  e0 = (fun e => .ct e) e0 := rfl
theorem ev_sRetN (e0 : Ev) : sRetN  e0 = (fun e => .rt (.val .non) e) e0 := rfl
theorem ev_sAug (i : Nat) (f : O2) (fa : M Opd) (e0 : Ev) : sAug i f fa e0 = (sSet i (x2 f (xVar i) fa)) e0 := rfl
theorem ev_sPut (i : Nat) (ix : M Opd) (fa : M Opd) (e0 : Ev) : sPut i ix fa e0 = (fun env => match (fa.bind fun r => fun e0 => match ownL e0 i with
  | none => (.bad : R (Opd × Opd))
  | some _ => (ix.bind fun ri => fun e => .ok (r, ri) e) e0) env with
  | .ok (r, ri) e => match peek ri e with
    | some (.int kk) => match frz r e with
      | some (d, e1) => match ownL e1 i with
        | some l => match ixN l.length kk with
          | some j => .nx (putL e1 i (l.set j d))
          | none => .bad
        | none => .bad
      | none => .bad
    | _ => .bad
  | .ex c e => .ex c e
  | .bad => .bad) e0 := rfl
theorem ev_sUnp (gt : Tg) (f : M Opd) (e0 : Ev) : sUnp gt f e0 = (fun e => match f e with
  | .ok r e' => match frz r e' with
    | some (d, e2) => match gt d e2 with
      | some e3 => .nx e3
      | none => .bad
    | none => .bad
  | .ex c e' => .ex c e'
  | .bad => .bad) e0 := rfl
theorem ev_sPar (i j : Nat) (fa : M (List Opd)) (e0 : Ev) : sPar i j fa e0 = (fun env => match fa env with
  | .ok [r1, r2] e => parE i j r1 r2 e
  | .ok _ _ => .bad
  | .ex c e => .ex c e
  | .bad => .bad) e0 := rfl
theorem ev_sPar3 (i j l : Nat) (fa : M (List Opd)) (e0 : Ev) : sPar3 i j l fa e0 = (fun env => match fa env with
  | .ok [r1, r2, r3] e => par3E i j l r1 r2 r3 e
  | .ok _ _ => .bad
  | .ex c e => .ex c e
  | .bad => .bad) e0 := rfl
theorem ev_xLst (a : M (List Opd)) (e0 : Ev) : xLst a e0 = (a.bind fun rs => fun env => match frzs rs env with
  | some (ds, e) => if ds.length ≤ sizeLine then .ok (.tmp (.lst ds)) e else .bad
  | none => .bad) e0 := rfl
theorem ev_xTup (a : M (List Opd)) (e0 : Ev) : xTup a e0 = (a.bind fun rs => fun env => match frzs rs env with
  | some (ds, e) => if ds.length ≤ sizeLine then .ok (.val (.tup ds)) e else .bad
  | none => .bad) e0 := rfl
theorem ev_tB1 (f : M Opd) (e0 : Ev) : tB1 f e0 = (f.bind fun r => fun env => match peek r env with
  | some (.bl b) => .ok b env
  | _ => .bad) e0 := rfl
theorem ev_tV1 (f : M Opd) (e0 : Ev) : tV1 f e0 = (f.bind fun r => fun env => match peek r env with
  | some d => match truth d with
    | some b => .ok b env
    | none => .bad
  | _ => .bad) e0 := rfl
theorem ev_mAnd (a b : M Bool) (e0 : Ev) : mAnd a b e0 = (a.bind fun c => if c = true then b else M.pure false) e0 := rfl
theorem ev_mOr (a b : M Bool) (e0 : Ev) : mOr a b e0 = (a.bind fun c => if c = true then M.pure true else b) e0 := rfl
theorem ev_mNot (a : M Bool) (e0 : Ev) : mNot a e0 = (a.bind fun c => M.pure (!c)) e0 := rfl
theorem ev_xAnd (a b : M Opd) (e0 : Ev) : xAnd a b e0 = (a.bind fun r => fun env => match peek r env with
  | some (.bl true) => b env
  | some (.bl false) => .ok (.val (.bl false)) env
  | _ => .bad) e0 := rfl
theorem ev_xOr (a b : M Opd) (e0 : Ev) : xOr a b e0 = (a.bind fun r => fun env => match peek r env with
  | some (.bl false) => b env
  | some (.bl true) => .ok (.val (.bl true)) env
  | _ => .bad) e0 := rfl
theorem ev_xNot (a : M Opd) (e0 : Ev) : xNot a e0 = (a.bind fun r => fun env => match peek r env with
  | some (.bl c) => .ok (.val (.bl (!c))) env
  | _ => .bad) e0 := rfl
theorem ev_xIf (c : M Bool) (a b : M Opd) (e0 : Ev) : xIf c a b e0 = (c.bind fun k => if k = true then a else b) e0 := rfl
theorem ev_xMut (i : Nat) (f : OM) (a : M (List Opd)) (e0 : Ev) : xMut i f a e0 = (fun env => match ownL env i with
  | none => .bad
  | some _ => a.bind (mutE i f) env) e0 := rfl
theorem ev_mutE (i : Nat) (f : OM) (rs : List Opd) (e0 : Ev) : mutE i f rs e0 = (fun e => match frzs rs e with
  | some (ds, e1) => match ownL e1 i with
    | some l => match f l ds with
      | some (res, l1) => .ok (.val res) (putL e1 i l1)
      | none => .bad
    | none => .bad
  | none => .bad) e0 := rfl
theorem ev_gTp (n : Nat) (t : Tgs) (d0 : D) (e0 : Ev) : gTp n t d0 e0 = (fun d e => match d with
  | .tup ds => if ds.length = n then t ds e else none
  | _ => none) d0 e0 := rfl
theorem ev_gNl (d0 : List D) (e0 : Ev) : gNl  d0 e0 = (fun ds e => match ds with
  | [] => some e
  | _ => none) d0 e0 := rfl
theorem ev_gCs (t : Tg) (u : Tgs) (d0 : List D) (e0 : Ev) : gCs t u d0 e0 = (fun ds e => match ds with
  | d :: ds => match t d e with
    | some e1 => u ds e1
    | none => none
  | [] => none) d0 e0 := rfl
theorem ev_iSeq (f : M Opd) (e0 : Ev) : iSeq f e0 = (f.bind fun r => fun env => match frz r env with
  | some (.lst ds, e) => .ok ds e
  | some (.tup ds, e) => .ok ds e
  | some (.scr ds, e) => .ok ds e
  | some (.str s, e) => .ok (signs s) e
  | _ => .bad) e0 := rfl
theorem ev_iRange (f : List D → Option (List D)) (fs : M (List Opd)) (e0 : Ev) : iRange f fs e0 = (fs.bind fun rs => fun env => match peeks rs env with
  | some ds => match f ds with
    | some l => .ok l env
    | none => .bad
  | none => .bad) e0 := rfl
theorem ev_iFrz (f : List D → Option (List D)) (fs : M (List Opd)) (e0 : Ev) : iFrz f fs e0 = (fs.bind fun rs => fun env => match frzs rs env with
  | some (ds, e) => match f ds with
    | some l => .ok l e
    | none => .bad
  | none => .bad) e0 := rfl
theorem ev_xCall (ks : List Bool) (f : FD) (a : M (List Opd)) (e0 : Ev) : xCall ks f a e0 = (a.bind (callE ks f)) e0 := rfl
theorem ev_callE (ks : List Bool) (f : FD) (rs : List Opd) (e0 : Ev) : callE ks f rs e0 = (fun env => match fzs ks rs env with
  | none => .bad
  | some (fd, e1) => match argsD ks rs fd e1 with
    | none => .bad
    | some ds => if (ioR ks rs 0).Nodup then match f ds with
        | .ok fresh d os => match putO ks rs os e1 with
          | some e2 => .ok (if fresh = true then .tmp d else .val d) e2
          | none => .bad
        | .ex c os => match putO ks rs os e1 with
          | some e2 => .ex c e2
          | none => .bad
        | .bad => .bad
      else .bad) e0 := rfl
theorem ev_sRaise (c : Str) (e0 : Ev) : sRaise c e0 = (fun e => .ex c e) e0 := rfl
theorem ev_xSl (a : M Opd) (lo hi : M (Option Int)) (e0 : Ev) : xSl a lo hi e0 = (a.bind fun r => lo.bind fun l => hi.bind fun h => fun env => match peek r env with
  | some d => match oSl d l h with
    | some (.val d) => .ok (.val d) env
    | some (.tmp d) => .ok (.tmp d) env
    | _ => .bad
  | none => .bad) e0 := rfl
theorem ev_pNone (e0 : Ev) : pNone  e0 = (M.pure none) e0 := rfl
theorem ev_pSome (f : M Opd) (e0 : Ev) : pSome f e0 = (f.bind fun r => fun env => match peek r env with
  | some (.int i) => .ok (some i) env
  | _ => .bad) e0 := rfl
theorem ev_gNm (i : Nat) (d : D) (e : Ev) : gNm i d e = (match e[i]? with
  | none => none
  | some s => if isIo s = true then none else some (e.set i (.fz d))) := by
  unfold gNm
  cases e[i]? with
  | none => rfl
  | some s => cases s <;> rfl
theorem ev_oAddI (i j : Int) : oAddI (.int i) (.int j) = some (.val (.int (i + j))) := rfl
theorem ev_oSub (i j : Int) : oSub (.int i) (.int j) = some (.val (.int (i - j))) := rfl
theorem ev_oLt (i j : Int) : oLt (.int i) (.int j) = some (.val (.bl (decide (i < j)))) := rfl
theorem ev_oLe (i j : Int) : oLe (.int i) (.int j) = some (.val (.bl (decide (i ≤ j)))) := rfl
theorem ev_oGt (i j : Int) : oGt (.int i) (.int j) = some (.val (.bl (decide (j < i)))) := rfl
theorem ev_oGe (i j : Int) : oGe (.int i) (.int j) = some (.val (.bl (decide (j ≤ i)))) := rfl
theorem ev_oMulI (i j : Int) : oMulI (.int i) (.int j) = (if cMul i j = true then some (.val (.int (i * j))) else none) := rfl
theorem ev_oMod (i j : Int) : oMod (.int i) (.int j) = (if cMod i j = true then some (.val (.int (i % j))) else none) := rfl
theorem ev_oDiv (i j : Int) : oDiv (.int i) (.int j) = (if cDiv i j = true then some (.val (.int (i / j))) else none) := rfl
theorem ev_oPow (i j : Int) : oPow (.int i) (.int j) = (if cPow i j = true then some (.val (.int (i ^ j.toNat))) else none) := rfl
local macro_rules | `(tactic| walk_at "ev") => `(tactic| simp (decide := true) only [ev_rdE, ev_xRd, ev_M_bind, ev_M_pure, ev_xC, ev_xVar, ev_x1, ev_x2, ev_x3, ev_xN, ev_aNil, ev_aCons, ev_sSeq, ev_sIf, ev_sSet, ev_sRet, ev_sDrop, ev_sNext, ev_sBr, ev_sCt, ev_sRetN, ev_sAug, ev_sPut, ev_sUnp, ev_sPar, ev_sPar3, ev_xLst, ev_xTup, ev_tB1, ev_tV1, ev_mAnd, ev_mOr, ev_mNot, ev_xAnd, ev_xOr, ev_xNot, ev_xIf, ev_xMut, ev_mutE, ev_gNm, ev_gTp, ev_gNl, ev_gCs, ev_iSeq, ev_iRange, ev_iFrz, ev_xCall, ev_callE, ev_sRaise, ev_xSl, ev_pNone, ev_pSome, ev_oAddI, ev_oSub, ev_oLt, ev_oLe, ev_oGt, ev_oGe, ev_oMulI, ev_oMod, ev_oDiv, ev_oPow, isT, rCount, peek, peeks, slotD, Sl.get, parE, par3E, isSlot, isIo_no, isIo_fz, isIo_ow, ev_sto, stoV, frz, frzs, truth, oAdd, oMul, oNeg, oLen, oMax, oMin, oAbs, oInt, iAdd, oIx, ownL, putL, finO, finF, outs, env0, fzs, argsD, ioR, putO, mAppend, mExtend, mPop, oList, oIsN, oNotN, oEq, oNe, sclD, ixN, PySem.sizeLine_eq, List.replicate_succ, List.replicate_zero, List.getElem?_cons_zero, List.getElem?_cons_succ, List.getElem?_nil, List.set_cons_zero, List.set_cons_succ, List.length_cons, List.length_nil, List.length_map, List.length_replicate, List.length_range, Option.map_some, Option.map_none, Nat.reduceAdd, Nat.reduceSub, Nat.reduceLT, Nat.reduceLeDiff, Nat.zero_add, Nat.add_zero, Int.reduceToNat, Int.reducePow, Int.reduceAdd, Int.reduceMul, Int.reduceSub, Int.reduceNeg, ↓reduceIte, ite_true, ite_false, if_true, if_false, decide_true, decide_false, Bool.and_true, Bool.true_and, Bool.false_and, Bool.and_false, Bool.not_true, Bool.not_false, Bool.or_true, Bool.true_or, Bool.false_or, Bool.or_false, Bool.and_self, Bool.or_self, Bool.false_eq_true, reduceCtorEq, List.cons_append, List.nil_append, List.append_nil, List.map_cons, List.map_nil, not_true_eq_false, not_false_eq_true, List.nodup_nil, List.nodup_cons, List.not_mem_nil, and_self, and_true, true_and, beq_self_eq_true, bne_self_eq_false, wipeE, *])
local macro_rules | `(tactic| walk_at "evs") => `(tactic| simp [ev_rdE, ev_xRd, ev_M_bind, ev_M_pure, ev_xC, ev_xVar, ev_x1, ev_x2, ev_x3, ev_xN, ev_aNil, ev_aCons, ev_sSeq, ev_sIf, ev_sSet, ev_sRet, ev_sDrop, ev_sNext, ev_sBr, ev_sCt, ev_sRetN, ev_sAug, ev_sPut, ev_sUnp, ev_sPar, ev_sPar3, ev_xLst, ev_xTup, ev_tB1, ev_tV1, ev_mAnd, ev_mOr, ev_mNot, ev_xAnd, ev_xOr, ev_xNot, ev_xIf, ev_xMut, ev_mutE, ev_gNm, ev_gTp, ev_gNl, ev_gCs, ev_iSeq, ev_iRange, ev_iFrz, ev_xCall, ev_callE, ev_sRaise, ev_xSl, ev_pNone, ev_pSome, ev_oAddI, ev_oSub, ev_oLt, ev_oLe, ev_oGt, ev_oGe, ev_oMulI, ev_oMod, ev_oDiv, ev_oPow, isT, rCount, peek, peeks, slotD, Sl.get, parE, par3E, isSlot, isIo_no, isIo_fz, isIo_ow, ev_sto, stoV, frz, frzs, truth, oAdd, oMul, oNeg, oLen, oMax, oMin, oAbs, oInt, iAdd, oIx, ownL, putL, finO, finF, outs, env0, fzs, argsD, ioR, putO, mAppend, mExtend, mPop, oList, oIsN, oNotN, oEq, oNe, sclD, ixN, PySem.sizeLine_eq, *])
/-! ev: end -/
theorem mkF_app (ks : List Bool) (n : Nat) (m : MS) (ds : List D) (h : ds.length = ks.length) : mkF ks n m ds = finF ks (m (env0 ks ds ++ List.replicate (n - ks.length) .no)) := by
  unfold mkF
  rw [if_pos h]
theorem log2_b {n k : Nat} (h : n < 2 ^ k) (hk : 0 < k) : n.log2 < k := by
  by_cases e : n = 0
  · subst e; exact hk
  · exact (Nat.log2_lt e).mpr h
theorem cMul_b {i j : Int} (h1 : i.natAbs < 2 ^ 4000) (h2 : j.natAbs < 2 ^ 4000) : cMul i j = true := by
  have := log2_b h1 (by decide)
  have := log2_b h2 (by decide)
  exact decide_eq_true (by omega)
theorem cMul_w {a b : Nat} {i j : Int} (h1 : i.natAbs < 2 ^ a) (h2 : j.natAbs < 2 ^ b) (h : a + b ≤ 1000000) (ha : 0 < a) (hb : 0 < b) : cMul i j = true := by
  have := log2_b h1 ha
  have := log2_b h2 hb
  exact decide_eq_true (by omega)
theorem cPow3_b {i : Int} (h1 : i.natAbs < 2 ^ 4000) : cPow i 3 = true := by
  have := log2_b h1 (by decide)
  exact decide_eq_true ⟨by decide, by show (i.natAbs.log2 + 1) * 3 ≤ 1000000; omega⟩
theorem cDiv_b {i j : Int} (h1 : 0 < j) (h2 : j < 2 ^ 64) : cDiv i j = true := by
  have := log2_b (n := j.natAbs) (k := 64) (by omega) (by decide)
  exact decide_eq_true ⟨h1, by omega⟩
theorem cMod_b {i j : Int} (h1 : 0 < j) : cMod i j = true := decide_eq_true h1
def mPool : MS :=
  sSeq (sSet 2 (xC (.int 0)))
    (sSeq (sIf (tB1 (x2 oLt (xVar 1) (xN oLen (aCons (xVar 0) (aNil)))))
    (sSet 2 (x2 oIx (xVar 0) (xVar 1)))
    (sNext))
    (sRet (xLst (aCons (xN oMax (aCons (xC (.int 0)) (aCons (x2 oSub (xVar 2) (x2 oPow (xC (.int 10)) (xC (.int 18)))) (aNil)))) (aCons (x2 oAdd (x2 oMul (x2 oMod (xVar 2) (x2 oAdd (x2 oPow (xC (.int 10)) (xC (.int 40))) (xC (.int 121)))) (xC (.int 64))) (xVar 1)) (aCons (xC (.int 0)) (aNil)))))))
def fPool : FD := mkF [false, false] 3 mPool
def mDraw : MS :=
  sSeq (sIf (tB1 (x2 oGt (x2 oIx (xVar 0) (xC (.int 0))) (xC (.int 0))))
    (sSeq (sSet 2 (x2 oMod (x2 oIx (xVar 0) (xC (.int 0))) (xVar 1)))
    (sSeq (sPut 0 (xC (.int 0)) (x2 oDiv (x2 oIx (xVar 0) (xC (.int 0))) (xVar 1)))
    (sRet (xVar 2))))
    (sNext))
    (sSeq (sPut 0 (xC (.int 2)) (x2 oAdd (x2 oIx (xVar 0) (xC (.int 2))) (xC (.int 1))))
    (sSeq (sSet 3 (x2 oMod (x2 oPow (x2 oAdd (x2 oIx (xVar 0) (xC (.int 1))) (x2 oMul (xC (.int 69061)) (x2 oIx (xVar 0) (xC (.int 2))))) (xC (.int 3))) (x2 oAdd (x2 oPow (xC (.int 10)) (xC (.int 41))) (xC (.int 37)))))
    (sSeq (sSet 3 (x2 oMod (x2 oPow (x2 oAdd (xVar 3) (x2 oMul (xC (.int 88469)) (x2 oIx (xVar 0) (xC (.int 2))))) (xC (.int 3))) (x2 oAdd (x2 oPow (xC (.int 10)) (xC (.int 38))) (xC (.int 133)))))
    (sRet (x2 oMod (x2 oDiv (xVar 3) (xC (.int 65537))) (xVar 1))))))
def fDraw : FD := mkF [true, false] 4 mDraw
/-- a pool behind at most n draws -/
def PoolOk (p : D) (n : Nat) : Prop := ∃ a b c : Int, p = .lst [.int a, .int b, .int c] ∧ 0 ≤ a ∧ 0 ≤ b ∧ b < 2 ^ 200 ∧ 0 ≤ c ∧ c ≤ n
theorem cPow10 {k : Nat} (h : k ≤ 100) : cPow 10 k = true := by
  refine decide_eq_true ⟨Int.natCast_nonneg k, ?_⟩
  have : (10 : Int).natAbs.log2 = 3 := by decide
  rw [this]
  omega
theorem pool_ok (ns : List Int) (k : Nat) (hk : k < 64) : ∃ p, fPool [.scr (ns.map D.int), .int k] = .ok true p [] ∧ PoolOk p 0 := by
  have e18 : cPow 10 18 = true := cPow10 (k := 18) (by omega)
  have e40 : cPow 10 40 = true := cPow10 (k := 40) (by omega)
  have cm : ∀ c : Int, cMul (c % 10000000000000000000000000000000000000121) 64 = true := fun c => by
    have h1 := Int.emod_nonneg c (b := 10000000000000000000000000000000000000121) (by decide)
    have h2 := Int.emod_lt_of_pos c (b := 10000000000000000000000000000000000000121) (by decide)
    refine cMul_w (a := 200) (b := 10) ?_ (by decide) (by decide) (by decide) (by decide)
    omega
  have fin : ∀ c : Int, PoolOk (.lst [.int (max 0 (c - 10 ^ 18)), .int (c % 10000000000000000000000000000000000000121 * 64 + k), .int 0]) 0 := fun c => by
    have h1 := Int.emod_nonneg c (b := 10000000000000000000000000000000000000121) (by decide)
    have h2 := Int.emod_lt_of_pos c (b := 10000000000000000000000000000000000000121) (by decide)
    exact ⟨_, _, _, rfl, by omega, by omega, by omega, by omega, by omega⟩
  unfold fPool
  rw [mkF_app _ _ _ _ rfl]
  unfold mPool
  have em : ∀ c : Int, cMod c 10000000000000000000000000000000000000121 = true := fun c => cMod_b (by decide)
  by_cases h : k < ns.length
  · have hx : atD (ns.map D.int) k = some (.int ns[k]) := by
      unfold atD atI ixN
      have : ((k : Int) < ((ns.map D.int).length : Nat)) := by simp; exact h
      simp [h]
    walk_at "evs"
    simpa using fin ns[k]
  · have cm0 : cMul 0 64 = true := by decide
    walk_at "evs"
    simpa using fin 0
theorem draw_ok {p : D} {n : Nat} {m : Int} (hp : PoolOk p n) (hn : n < 2 ^ 64) (h0 : 0 < m) (h1 : m < 2 ^ 64) : ∃ d p', fDraw [p, .int m] = .ok false (.int d) [p'] ∧ 0 ≤ d ∧ d < m ∧ PoolOk p' (n + 1) := by
  obtain ⟨a, b, c, rfl, ha, hb, hb2, hc, hcn⟩ := hp
  unfold fDraw
  rw [mkF_app _ _ _ _ rfl]
  unfold mDraw
  have i0 : ∀ x y z : Int, atD [.int x, .int y, .int z] 0 = some (.int x) := fun _ _ _ => rfl
  have i1 : ∀ x y z : Int, atD [.int x, .int y, .int z] 1 = some (.int y) := fun _ _ _ => rfl
  have i2 : ∀ x y z : Int, atD [.int x, .int y, .int z] 2 = some (.int z) := fun _ _ _ => rfl
  by_cases h : 0 < a
  · refine ⟨a % m, .lst [.int (a / m), .int b, .int c], ?_, Int.emod_nonneg _ (by omega), Int.emod_lt_of_pos _ h0, _, _, _, rfl, Int.ediv_nonneg ha (by omega), hb, hb2, hc, by omega⟩
    have := cMod_b (i := a) h0
    have := cDiv_b (i := a) h0 h1
    walk_at "evs"
  · have e3 : cPow (b + 69061 * (c + 1)) 3 = true := cPow3_b (Nat.lt_of_lt_of_le (show _ < 2 ^ 201 by omega) (by decide))
    have e41 : cPow 10 41 = true := cPow10 (k := 41) (by omega)
    have e38 : cPow 10 38 = true := cPow10 (k := 38) (by omega)
    have c1 : cMul 69061 (c + 1) = true := cMul_w (a := 64) (b := 128) (by decide) (by omega) (by decide) (by decide) (by decide)
    have c2 : cMul 88469 (c + 1) = true := cMul_w (a := 64) (b := 128) (by decide) (by omega) (by decide) (by decide) (by decide)
    have e4 : ∀ x : Int, cPow (x % 100000000000000000000000000000000000000037 + 88469 * (c + 1)) 3 = true := fun x => by
      have h1 := Int.emod_nonneg x (b := 100000000000000000000000000000000000000037) (by decide)
      have h2 := Int.emod_lt_of_pos x (b := 100000000000000000000000000000000000000037) (by decide)
      exact cPow3_b (Nat.lt_of_lt_of_le (show _ < 2 ^ 201 by omega) (by decide))
    have d1 : ∀ x : Int, cDiv x 65537 = true := fun x => cDiv_b (by decide) (by decide)
    have := fun x => cMod_b (i := x) h0
    refine ⟨((((b + 69061 * (c + 1)) ^ 3 % 100000000000000000000000000000000000000037 + 88469 * (c + 1)) ^ 3 % 100000000000000000000000000000000000133) / 65537) % m, .lst [.int a, .int b, .int (c + 1)], ?_, Int.emod_nonneg _ (by omega), Int.emod_lt_of_pos _ h0, _, _, _, rfl, ha, hb, hb2, by omega, by omega⟩
    have em1 : ∀ c : Int, cMod c 100000000000000000000000000000000000000037 = true := fun c => cMod_b (by decide)
    have em2 : ∀ c : Int, cMod c 100000000000000000000000000000000000133 = true := fun c => cMod_b (by decide)
    walk_at "evs"
end DL

/-! P2: the plain side: loops, comprehensions, what is shown, closed checks. -/
namespace DL
open PySem L2
local macro_rules | `(tactic| walk_at "ev") => `(tactic| simp (decide := true) only [ev_rdE, ev_xRd, ev_M_bind, ev_M_pure, ev_xC, ev_xVar, ev_x1, ev_x2, ev_x3, ev_xN, ev_aNil, ev_aCons, ev_sSeq, ev_sIf, ev_sSet, ev_sRet, ev_sDrop, ev_sNext, ev_sBr, ev_sCt, ev_sRetN, ev_sAug, ev_sPut, ev_sUnp, ev_sPar, ev_sPar3, ev_xLst, ev_xTup, ev_tB1, ev_tV1, ev_mAnd, ev_mOr, ev_mNot, ev_xAnd, ev_xOr, ev_xNot, ev_xIf, ev_xMut, ev_mutE, ev_gNm, ev_gTp, ev_gNl, ev_gCs, ev_iSeq, ev_iRange, ev_iFrz, ev_xCall, ev_callE, ev_sRaise, ev_xSl, ev_pNone, ev_pSome, ev_oAddI, ev_oSub, ev_oLt, ev_oLe, ev_oGt, ev_oGe, ev_oMulI, ev_oMod, ev_oDiv, ev_oPow, isT, rCount, peek, peeks, slotD, Sl.get, parE, par3E, isSlot, isIo_no, isIo_fz, isIo_ow, ev_sto, stoV, frz, frzs, truth, oAdd, oMul, oNeg, oLen, oMax, oMin, oAbs, oInt, iAdd, oIx, ownL, putL, finO, finF, outs, env0, fzs, argsD, ioR, putO, mAppend, mExtend, mPop, oList, oIsN, oNotN, oEq, oNe, sclD, ixN, PySem.sizeLine_eq, List.replicate_succ, List.replicate_zero, List.getElem?_cons_zero, List.getElem?_cons_succ, List.getElem?_nil, List.set_cons_zero, List.set_cons_succ, List.length_cons, List.length_nil, List.length_map, List.length_replicate, List.length_range, Option.map_some, Option.map_none, Nat.reduceAdd, Nat.reduceSub, Nat.reduceLT, Nat.reduceLeDiff, Nat.zero_add, Nat.add_zero, Int.reduceToNat, Int.reducePow, Int.reduceAdd, Int.reduceMul, Int.reduceSub, Int.reduceNeg, ↓reduceIte, ite_true, ite_false, if_true, if_false, decide_true, decide_false, Bool.and_true, Bool.true_and, Bool.false_and, Bool.and_false, Bool.not_true, Bool.not_false, Bool.or_true, Bool.true_or, Bool.false_or, Bool.or_false, Bool.and_self, Bool.or_self, Bool.false_eq_true, reduceCtorEq, List.cons_append, List.nil_append, List.append_nil, List.map_cons, List.map_nil, not_true_eq_false, not_false_eq_true, List.nodup_nil, List.nodup_cons, List.not_mem_nil, and_self, and_true, true_and, beq_self_eq_true, bne_self_eq_false, wipeE, *])
local macro_rules | `(tactic| walk_at "evs") => `(tactic| simp [ev_rdE, ev_xRd, ev_M_bind, ev_M_pure, ev_xC, ev_xVar, ev_x1, ev_x2, ev_x3, ev_xN, ev_aNil, ev_aCons, ev_sSeq, ev_sIf, ev_sSet, ev_sRet, ev_sDrop, ev_sNext, ev_sBr, ev_sCt, ev_sRetN, ev_sAug, ev_sPut, ev_sUnp, ev_sPar, ev_sPar3, ev_xLst, ev_xTup, ev_tB1, ev_tV1, ev_mAnd, ev_mOr, ev_mNot, ev_xAnd, ev_xOr, ev_xNot, ev_xIf, ev_xMut, ev_mutE, ev_gNm, ev_gTp, ev_gNl, ev_gCs, ev_iSeq, ev_iRange, ev_iFrz, ev_xCall, ev_callE, ev_sRaise, ev_xSl, ev_pNone, ev_pSome, ev_oAddI, ev_oSub, ev_oLt, ev_oLe, ev_oGt, ev_oGe, ev_oMulI, ev_oMod, ev_oDiv, ev_oPow, isT, rCount, peek, peeks, slotD, Sl.get, parE, par3E, isSlot, isIo_no, isIo_fz, isIo_ow, ev_sto, stoV, frz, frzs, truth, oAdd, oMul, oNeg, oLen, oMax, oMin, oAbs, oInt, iAdd, oIx, ownL, putL, finO, finF, outs, env0, fzs, argsD, ioR, putO, mAppend, mExtend, mPop, oList, oIsN, oNotN, oEq, oNe, sclD, ixN, PySem.sizeLine_eq, *])
/-! ### statement by statement -/
theorem seq_nx {m n : MS} {e e' : Ev} (h : m e = .nx e') : sSeq m n e = n e' := by unfold sSeq; rw [h]
theorem seq_rt {m n : MS} {e e' : Ev} {r : Opd} (h : m e = .rt r e') : sSeq m n e = .rt r e' := by unfold sSeq; rw [h]
theorem if_t {c : M Bool} {m n : MS} {e e' : Ev} (h : c e = .ok true e') : sIf c m n e = m e' := by unfold sIf; rw [h]
theorem if_f {c : M Bool} {m n : MS} {e e' : Ev} (h : c e = .ok false e') : sIf c m n e = n e' := by unfold sIf; rw [h]
theorem if_skip {c : M Bool} {m : MS} {e e' : Ev} (h : c e = .ok false e') : sIf c m sNext e = .nx e' := if_f h
theorem tB1_of {f : M Opd} {e e' : Ev} {b : Bool} (h : f e = .ok (.val (.bl b)) e') : tB1 f e = .ok b e' := by unfold tB1 M.bind; rw [h]; rfl
theorem tV1_of {f : M Opd} {e e' : Ev} {b : Bool} (h : f e = .ok (.val (.bl b)) e') : tV1 f e = .ok b e' := by unfold tV1 M.bind; rw [h]; rfl
theorem ret_of {f : M Opd} {e e' : Ev} {r : Opd} (h : f e = .ok r e') : sRet f e = .rt r e' := by unfold sRet; rw [h]
/-! ### loops -/
theorem loopF_inv {gt : Tg} {body : MS} (I : List D → Ev → Prop) (h : ∀ d r e, I (d :: r) e → ∃ e1, gt d e = some e1 ∧ ∃ e2, (body e1 = .nx e2 ∨ body e1 = .ct e2) ∧ I r e2) : ∀ l e, I l e → ∃ e', loopF gt body l e = .nx e' ∧ I [] e'
  | [], e, i => ⟨e, rfl, i⟩
  | d :: r, e, i => by
    obtain ⟨e1, h1, e2, h2, i2⟩ := h d r e i
    obtain ⟨e', h3, h4⟩ := loopF_inv I h r e2 i2
    refine ⟨e', ?_, h4⟩
    unfold loopF
    rw [h1]
    rcases h2 with h2 | h2 <;> simp only [h2] <;> exact h3
theorem sFor_inv {it : M (List D)} {gt : Tg} {body : MS} {e e0 : Ev} {l : List D} (hi : it e = .ok l e0) (I : List D → Ev → Prop) (i0 : I l e0) (h : ∀ d r e, I (d :: r) e → ∃ e1, gt d e = some e1 ∧ ∃ e2, (body e1 = .nx e2 ∨ body e1 = .ct e2) ∧ I r e2) :
    ∃ e', sFor it gt body e = .nx e' ∧ I [] e' := by
  unfold sFor
  rw [hi]
  exact loopF_inv I h l e0 i0
/-- a name that a for walks with: not yet, or a frozen value -/
def Lz (s : Sl) : Prop := s = .no ∨ ∃ d, s = .fz d
theorem Lz.no : Lz .no := .inl rfl
theorem Lz.fz (d : D) : Lz (.fz d) := .inr ⟨d, rfl⟩
/-- a for as a fold -/
theorem loop_fold {α β : Type} {gt : Tg} {body : MS} (em : β → D) (E : α → Sl → Ev) (step : α → β → α) (I : α → List β → Prop) (hg : ∀ a s x, Lz s → gt (em x) (E a s) = some (E a (.fz (em x))))
    (hb : ∀ a x r, I a (x :: r) → body (E a (.fz (em x))) = .nx (E (step a x) (.fz (em x))) ∧ I (step a x) r) : ∀ (q : List β) (a : α) (s : Sl), I a q → Lz s → ∃ s', Lz s' ∧ loopF gt body (q.map em) (E a s) = .nx (E (q.foldl step a) s') ∧ I (q.foldl step a) []
  | [], a, s, i, l => ⟨s, l, rfl, i⟩
  | x :: q, a, s, i, l => by
    obtain ⟨h1, h2⟩ := hb a x q i
    obtain ⟨s', l', h3, h4⟩ := loop_fold em E step I hg hb q (step a x) _ h2 (Lz.fz (em x))
    refine ⟨s', l', ?_, h4⟩
    rw [List.map_cons, List.foldl_cons, ← h3]
    show loopF gt body (em x :: q.map em) (E a s) = _
    conv => lhs; unfold loopF
    simp only [hg a s x l, h1]
theorem sFor_fold {α β : Type} {it : M (List D)} {gt : Tg} {body : MS} (em : β → D) (E : α → Sl → Ev) (step : α → β → α) (I : α → List β → Prop) {e : Ev} {q : List β} {a : α} (hi : it e = .ok (q.map em) (E a .no)) (hg : ∀ a s x, Lz s → gt (em x) (E a s) = some (E a (.fz (em x))))
    (hb : ∀ a x r, I a (x :: r) → body (E a (.fz (em x))) = .nx (E (step a x) (.fz (em x))) ∧ I (step a x) r) (i : I a q) : ∃ s', Lz s' ∧ sFor it gt body e = .nx (E (q.foldl step a) s') ∧ I (q.foldl step a) [] := by
  unfold sFor
  rw [hi]
  exact loop_fold em E step I hg hb q a .no i Lz.no
theorem rngD_map (lo c : Int) (n : Nat) : rngD lo c n = ((List.range n).map fun (i : Nat) => lo + (i : Int) * c).map D.int := by
  unfold rngD
  rw [List.map_map]
  rfl
theorem loopC_map {gt : Tg} {cond : M Bool} {elt : M Opd} {own : List Nat} (I : Ev → Prop) (v : D → D) : ∀ (l : List D), (∀ d ∈ l, ∀ e, I e → ∃ e1, gt d e = some e1 ∧ ∃ e2, cond e1 = .ok true e2 ∧ ∃ r e3, elt e2 = .ok r e3 ∧ ∃ e4, frz r e3 = some (v d, e4) ∧ I (wipeE e4 own)) →
    ∀ e, I e → ∃ e', loopC gt cond elt own l e = .ok (l.map v) e' ∧ I e'
  | [], _, e, i => ⟨e, rfl, i⟩
  | d :: r, h, e, i => by
    obtain ⟨e1, h1, e2, h2, x, e3, h3, e4, h4, i2⟩ := h d List.mem_cons_self e i
    obtain ⟨e', h5, i3⟩ := loopC_map I v r (fun d m => h d (List.mem_cons_of_mem _ m)) _ i2
    refine ⟨e', ?_, i3⟩
    unfold loopC
    simp only [h1, h2, h3, h4, h5, List.map_cons]
theorem xComp_map {it : M (List D)} {gt : Tg} {cond : M Bool} {elt : M Opd} {own : List Nat} {e e0 : Ev} {l : List D} (hi : it e = .ok l e0) (hl : l.length ≤ sizeLine) (I : Ev → Prop) (v : D → D) (i0 : I (wipeE e0 own))
    (h : ∀ d ∈ l, ∀ e, I e → ∃ e1, gt d e = some e1 ∧ ∃ e2, cond e1 = .ok true e2 ∧ ∃ r e3, elt e2 = .ok r e3 ∧ ∃ e4, frz r e3 = some (v d, e4) ∧ I (wipeE e4 own)) : ∃ e', xComp it gt cond elt own e = .ok (.tmp (.lst (l.map v))) e' ∧ I e' := by
  obtain ⟨e', h1, h2⟩ := loopC_map I v l h _ i0
  refine ⟨e', ?_, h2⟩
  unfold xComp
  simp only [hi, if_pos hl, h1]
theorem loopC_filter {gt : Tg} {cond : M Bool} {elt : M Opd} {own : List Nat} (I : Ev → Prop) (p : D → Bool) (v : D → D) : ∀ (l : List D), (∀ d ∈ l, ∀ e, I e → ∃ e1, gt d e = some e1 ∧ ∃ e2, cond e1 = .ok (p d) e2 ∧ (p d = false → I (wipeE e2 own)) ∧ (p d = true → ∃ r e3, elt e2 = .ok r e3 ∧ ∃ e4, frz r e3 = some (v d, e4) ∧ I (wipeE e4 own))) →
    ∀ e, I e → ∃ e', loopC gt cond elt own l e = .ok ((l.filter p).map v) e' ∧ I e'
  | [], _, e, i => ⟨e, rfl, i⟩
  | d :: r, h, e, i => by
    obtain ⟨e1, h1, e2, h2, hf, ht⟩ := h d List.mem_cons_self e i
    cases c : p d with
    | false =>
      obtain ⟨e', h5, i3⟩ := loopC_filter I p v r (fun d m => h d (List.mem_cons_of_mem _ m)) _ (hf c)
      refine ⟨e', ?_, i3⟩
      rw [c] at h2
      rw [List.filter_cons_of_neg (by rw [c]; exact Bool.false_ne_true)]
      unfold loopC
      simp only [h1, h2, h5]
    | true =>
      obtain ⟨x, e3, h3, e4, h4, i2⟩ := ht c
      obtain ⟨e', h5, i3⟩ := loopC_filter I p v r (fun d m => h d (List.mem_cons_of_mem _ m)) _ i2
      refine ⟨e', ?_, i3⟩
      rw [c] at h2
      rw [List.filter_cons_of_pos c]
      unfold loopC
      simp only [h1, h2, h3, h4, h5, List.map_cons]
theorem xComp_filter {it : M (List D)} {gt : Tg} {cond : M Bool} {elt : M Opd} {own : List Nat} {e e0 : Ev} {l : List D} (hi : it e = .ok l e0) (hl : l.length ≤ sizeLine) (I : Ev → Prop) (p : D → Bool) (v : D → D) (i0 : I (wipeE e0 own))
    (h : ∀ d ∈ l, ∀ e, I e → ∃ e1, gt d e = some e1 ∧ ∃ e2, cond e1 = .ok (p d) e2 ∧ (p d = false → I (wipeE e2 own)) ∧ (p d = true → ∃ r e3, elt e2 = .ok r e3 ∧ ∃ e4, frz r e3 = some (v d, e4) ∧ I (wipeE e4 own))) : ∃ e', xComp it gt cond elt own e = .ok (.tmp (.lst ((l.filter p).map v))) e' ∧ I e' := by
  obtain ⟨e', h1, h2⟩ := loopC_filter I p v l h _ i0
  refine ⟨e', ?_, h2⟩
  unfold xComp
  simp only [hi, if_pos hl, h1]
/-! ### what is shown -/
structure Sh (B n w : Nat) (d : D) : Prop where
  sw : (toPy d).showable = true
  ly : (toPy d).canLay0 = true
  dp : (toPy d).depth ≤ n
  lv : (toPy d).leavesShort B = true
  wt : (toPy d).weight ≤ w
theorem Sh.mono {B n w n' w' : Nat} {d : D} (h : Sh B n w d) (h1 : n ≤ n') (h2 : w ≤ w') : Sh B n' w' d := ⟨h.sw, h.ly, Nat.le_trans h.dp h1, h.lv, Nat.le_trans h.wt h2⟩
theorem Sh.repr {B n w : Nat} {d : D} (h : Sh B n w d) (hB : 8 ≤ B) (hn : n ≤ 64) (hw : (B + 2) * w + B ≤ 16777216) : okRepr d = true := by
  have h1 := PyData.shown_le B hB _ h.lv
  have h2 := Nat.mul_le_mul_left (B + 2) h.wt
  have h3 : (toPy d).shown.length ≤ sizeLine := by rw [sizeLine_eq]; omega
  unfold okRepr
  rw [h.sw, h.ly, decide_eq_true (Nat.le_trans h.dp hn), decide_eq_true h3]
  rfl
theorem Sh.int {B k : Nat} {i : Int} (h : i.natAbs < 2 ^ k) (hk : 0 < k) (hk2 : k ≤ 1920) (hB : k + 1 ≤ B) : Sh B 0 k (.int i) := by
  have l := log2_b h hk
  refine ⟨decide_eq_true (by omega), rfl, Nat.le_refl _, ?_, ?_⟩
  · refine decide_eq_true ?_
    show (Str.ofString (toString i)).length ≤ B
    rw [ofString_length]
    exact Nat.le_trans (int_text_length_le hk l) hB
  · show (if i == 0 then 0 else i.natAbs.log2 + 1) ≤ k
    split <;> omega
theorem Sh.bl {B : Nat} {b : Bool} : Sh B 0 0 (.bl b) := ⟨rfl, rfl, Nat.le_refl _, rfl, Nat.le_refl _⟩
theorem Sh.non {B : Nat} : Sh B 0 0 .non := ⟨rfl, rfl, Nat.le_refl _, rfl, Nat.le_refl _⟩
theorem shL {B n w : Nat} : ∀ {l : List D}, (∀ d ∈ l, Sh B n w d) → PyData.showableAll (toPyL l) = true ∧ PyData.canLayAll0 (toPyL l) = true ∧ PyData.depthAll (toPyL l) ≤ n ∧ PyData.leavesShortAll B (toPyL l) = true ∧ PyData.weightAll (toPyL l) ≤ l.length * (w + 1)
  | [], _ => ⟨rfl, rfl, Nat.zero_le _, rfl, Nat.zero_le _⟩
  | d :: r, h => by
    obtain ⟨h1, h2, h3, h4, h5⟩ := shL fun d m => h d (List.mem_cons_of_mem _ m)
    have x := h d List.mem_cons_self
    refine ⟨?_, ?_, ?_, ?_, ?_⟩
    · show (PyData.showable _ && PyData.showableAll _) = true
      rw [x.sw, h1]; rfl
    · show (PyData.canLay0 _ && PyData.canLayAll0 _) = true
      rw [x.ly, h2]; rfl
    · exact Nat.max_le.mpr ⟨x.dp, h3⟩
    · show (PyData.leavesShort B _ && PyData.leavesShortAll B _) = true
      rw [x.lv, h4]; rfl
    · have := x.wt
      show PyData.weight _ + 1 + PyData.weightAll _ ≤ (r.length + 1) * (w + 1)
      rw [Nat.add_mul]
      omega
theorem Sh.lst {B n w : Nat} {l : List D} (h : ∀ d ∈ l, Sh B n w d) : Sh B (n + 1) (l.length * (w + 1)) (.lst l) := by
  obtain ⟨h1, h2, h3, h4, h5⟩ := shL h
  exact ⟨h1, h2, Nat.succ_le_succ h3, h4, h5⟩
theorem Sh.tup {B n w : Nat} {l : List D} (h : ∀ d ∈ l, Sh B n w d) : Sh B (n + 1) (l.length * (w + 1)) (.tup l) := by
  obtain ⟨h1, h2, h3, h4, h5⟩ := shL h
  exact ⟨h1, h2, Nat.succ_le_succ h3, h4, h5⟩
theorem deq_refl {d : D} (h : (toPy d).canLay0 = true) : deq d d = true := SeqAt.eqv_refl _ h
theorem oRepr_ok {d : D} (h : okRepr d = true) : oRepr [d] = some (.val (.str (shownD d))) := if_pos h
theorem isi_int (i : Int) : oIsi "int" (.int i) = some (.val (.bl true)) := by rfl
theorem isi_bool (i : Int) : oIsi "bool" (.int i) = some (.val (.bl false)) := by rfl
/-! ### closed checks -/
mutual
def sameD : D → D → Bool
  | .non, .non => true
  | .bl a, .bl b => a == b
  | .int a, .int b => a == b
  | .str a, .str b => a.cps == b.cps
  | .lst a, .lst b => sameL a b
  | .tup a, .tup b => sameL a b
  | .scr a, .scr b => sameL a b
  | _, _ => false
def sameL : List D → List D → Bool
  | [], [] => true
  | a :: r, b :: s => sameD a b && sameL r s
  | _, _ => false
end
mutual
theorem sameD_eq : ∀ {a b : D}, sameD a b = true → a = b
  | .non, .non, _ => rfl
  | .bl _, .bl _, h => by rw [beq_iff_eq.mp (show (_ == _) = true from h)]
  | .int _, .int _, h => by rw [beq_iff_eq.mp (show (_ == _) = true from h)]
  | .str ⟨a⟩, .str ⟨b⟩, h => by
    have e : a = b := beq_iff_eq.mp (show (a == b) = true from h)
    rw [e]
  | .lst _, .lst _, h => by rw [sameL_eq (show sameL _ _ = true from h)]
  | .tup _, .tup _, h => by rw [sameL_eq (show sameL _ _ = true from h)]
  | .scr _, .scr _, h => by rw [sameL_eq (show sameL _ _ = true from h)]
theorem sameL_eq : ∀ {a b : List D}, sameL a b = true → a = b
  | [], [], _ => rfl
  | a :: r, b :: s, h => by
    have h' := Bool.and_eq_true_iff.mp (show (sameD a b && sameL r s) = true from h)
    rw [sameD_eq h'.1, sameL_eq h'.2]
end
def sameR : RF → RF → Bool
  | .ok a b c, .ok a' b' c' => a == a' && sameD b b' && sameL c c'
  | .ex a c, .ex a' c' => a.cps == a'.cps && sameL c c'
  | _, _ => false
theorem sameR_eq {a b : RF} (h : sameR a b = true) : a = b := by
  cases a <;> cases b <;> try (cases h; done)
  · rename_i a b c a' b' c'
    have h' : (a == a' && sameD b b' && sameL c c') = true := h
    simp only [Bool.and_eq_true, beq_iff_eq] at h'
    rw [h'.1.1, sameD_eq h'.1.2, sameL_eq h'.2]
  · rename_i a c a' c'
    obtain ⟨a⟩ := a
    obtain ⟨a'⟩ := a'
    have h' : (a == a' && sameL c c') = true := h
    simp only [Bool.and_eq_true, beq_iff_eq] at h'
    rw [h'.1, sameL_eq h'.2]
end DL


namespace Law
open PySem L2 DL
def N_is_shape : List Str := ["value", "running", "sign"]
abbrev k_is_shape : List Bool := [false]
def m_is_shape : MS :=
  sSeq (sIf (mOr (mNot (tV1 (x1 (oIsi "str") (xVar 0)))) (mOr (tB1 (x2 oGt (xN oLen (aCons (xVar 0) (aNil))) (xC (.int 200)))) (tB1 (x2 oGt (xRd "str" rCount (xVar 0) (aCons (xC (.str "+")) (aNil))) (xC (.int 100))))))
    (sRet (xC (.bl false)))
    (sNext))
    (sSeq (sSet 1 (xC (.int 0)))
    (sSeq (sFor (iSeq (xVar 0)) (gNm 2)
    (sSeq (sIf (tB1 (x2 oNotIn (xVar 2) (xTup (aCons (xC (.str "+")) (aCons (xC (.str "-")) (aNil))))))
    (sRet (xC (.bl false)))
    (sNext))
    (sSeq (sAug 1 iAdd (xIf (tB1 (x2 oEq (xVar 2) (xC (.str "+")))) (xC (.int 1)) (x1 oNeg (xC (.int 1)))))
    (sIf (tB1 (x2 oLt (xVar 1) (xC (.int 0))))
    (sRet (xC (.bl false)))
    (sNext)))))
    (sRet (xC (.bl true)))))
def f_is_shape : FD := mkF k_is_shape 3 m_is_shape
def N_check_shape : List Str := ["shape"]
abbrev k_check_shape : List Bool := [false]
def m_check_shape : MS :=
  sIf (mNot (tV1 (xCall k_is_shape f_is_shape (aCons (xVar 0) (aNil)))))
    (sRaise "InvalidShapeError")
    (sNext)
def f_check_shape : FD := mkF k_check_shape 1 m_check_shape
def N_choices_in : List Str := ["shape", "found", "running", "sign"]
abbrev k_choices_in : List Bool := [false]
def m_choices_in : MS :=
  sSeq (sPar 1 2 (aCons (xLst (aNil)) (aCons (xC (.int 0)) (aNil))))
    (sSeq (sFor (iSeq (xVar 0)) (gNm 3)
    (sIf (tB1 (x2 oEq (xVar 3) (xC (.str "+"))))
    (sAug 2 iAdd (xC (.int 1)))
    (sSeq (sDrop (xMut 1 mAppend (aCons (xVar 2) (aNil))))
    (sAug 2 oSub (xC (.int 1))))))
    (sRet (xVar 1)))
def f_choices_in : FD := mkF k_choices_in 4 m_choices_in
def N_product_of : List Str := ["numbers", "found", "number"]
abbrev k_product_of : List Bool := [false]
def m_product_of : MS :=
  sSeq (sSet 1 (xC (.int 1)))
    (sSeq (sFor (iSeq (xVar 0)) (gNm 2)
    (sAug 1 oMulI (xVar 2)))
    (sRet (xVar 1)))
def f_product_of : FD := mkF k_product_of 3 m_product_of
def N_count_in_shape : List Str := ["shape"]
abbrev k_count_in_shape : List Bool := [false]
def m_count_in_shape : MS :=
  sSeq (sDrop (xCall k_check_shape f_check_shape (aCons (xVar 0) (aNil))))
    (sRet (xCall k_product_of f_product_of (aCons (xCall k_choices_in f_choices_in (aCons (xVar 0) (aNil))) (aNil))))
def f_count_in_shape : FD := mkF k_count_in_shape 1 m_count_in_shape
def N_law_pool : List Str := ["script", "k", "cell"]
abbrev k_law_pool : List Bool := [false, false]
def m_law_pool : MS :=
  sSeq (sSet 2 (xC (.int 0)))
    (sSeq (sIf (tB1 (x2 oLt (xVar 1) (xN oLen (aCons (xVar 0) (aNil)))))
    (sSet 2 (x2 oIx (xVar 0) (xVar 1)))
    (sNext))
    (sRet (xLst (aCons (xN oMax (aCons (xC (.int 0)) (aCons (x2 oSub (xVar 2) (x2 oPow (xC (.int 10)) (xC (.int 18)))) (aNil)))) (aCons (x2 oAdd (x2 oMul (x2 oMod (xVar 2) (x2 oAdd (x2 oPow (xC (.int 10)) (xC (.int 40))) (xC (.int 121)))) (xC (.int 64))) (xVar 1)) (aCons (xC (.int 0)) (aNil)))))))
def f_law_pool : FD := mkF k_law_pool 3 m_law_pool
def N_law_draw : List Str := ["pool", "many", "digit", "mixed"]
abbrev k_law_draw : List Bool := [true, false]
def m_law_draw : MS :=
  sSeq (sIf (tB1 (x2 oGt (x2 oIx (xVar 0) (xC (.int 0))) (xC (.int 0))))
    (sSeq (sSet 2 (x2 oMod (x2 oIx (xVar 0) (xC (.int 0))) (xVar 1)))
    (sSeq (sPut 0 (xC (.int 0)) (x2 oDiv (x2 oIx (xVar 0) (xC (.int 0))) (xVar 1)))
    (sRet (xVar 2))))
    (sNext))
    (sSeq (sPut 0 (xC (.int 2)) (x2 oAdd (x2 oIx (xVar 0) (xC (.int 2))) (xC (.int 1))))
    (sSeq (sSet 3 (x2 oMod (x2 oPow (x2 oAdd (x2 oIx (xVar 0) (xC (.int 1))) (x2 oMul (xC (.int 69061)) (x2 oIx (xVar 0) (xC (.int 2))))) (xC (.int 3))) (x2 oAdd (x2 oPow (xC (.int 10)) (xC (.int 41))) (xC (.int 37)))))
    (sSeq (sSet 3 (x2 oMod (x2 oPow (x2 oAdd (xVar 3) (x2 oMul (xC (.int 88469)) (x2 oIx (xVar 0) (xC (.int 2))))) (xC (.int 3))) (x2 oAdd (x2 oPow (xC (.int 10)) (xC (.int 38))) (xC (.int 133)))))
    (sRet (x2 oMod (x2 oDiv (xVar 3) (xC (.int 65537))) (xVar 1))))))
def f_law_draw : FD := mkF k_law_draw 4 m_law_draw
def N_law_signs : List Str := ["pool", "script", "many", "style", "wide", "found", "running", "starts", "turn", "hit", "up"]
abbrev k_law_signs : List Bool := [true, false]
def m_law_signs : MS :=
  sSeq (sPar 2 3 (aCons (x2 oIx (xLst (aCons (x2 oAdd (xC (.int 1)) (xCall k_law_draw f_law_draw (aCons (xVar 0) (aCons (xC (.int 8)) (aNil))))) (aCons (x2 oAdd (xC (.int 1)) (xCall k_law_draw f_law_draw (aCons (xVar 0) (aCons (xC (.int 60)) (aNil))))) (aCons (xC (.int 200)) (aNil))))) (xCall k_law_draw f_law_draw (aCons (xVar 0) (aCons (xC (.int 3)) (aNil))))) (aCons (xCall k_law_draw f_law_draw (aCons (xVar 0) (aCons (xC (.int 4)) (aNil)))) (aNil))))
    (sSeq (sSet 4 (x2 oAdd (xC (.int 1)) (xCall k_law_draw f_law_draw (aCons (xVar 0) (aCons (xC (.int 100)) (aNil))))))
    (sSeq (sUnp (gTp 3 (gCs (gNm 2) (gCs (gNm 3) (gCs (gNm 4) (gNl))))) (xIf (tB1 (x2 oEq (xVar 1) (xLst (aNil)))) (xTup (aCons (xC (.int 6)) (aCons (xC (.int 0)) (aCons (xC (.int 3)) (aNil))))) (xTup (aCons (xVar 2) (aCons (xVar 3) (aCons (xVar 4) (aNil)))))))
    (sSeq (sUnp (gTp 3 (gCs (gNm 5) (gCs (gNm 6) (gCs (gNm 7) (gNl))))) (xTup (aCons (xC (.str "")) (aCons (xC (.int 0)) (aCons (xC (.int 0)) (aNil))))))
    (sSeq (sFor (iRange rangeD1 (aCons (xVar 2) (aNil))) (gNm 8)
    (sSeq (sSet 9 (xCall k_law_draw f_law_draw (aCons (xVar 0) (aCons (xC (.int 4)) (aNil)))))
    (sSeq (sSet 10 (x2 oIx (xLst (aCons (x2 oGt (xVar 9) (xC (.int 1))) (aCons (x2 oEq (xVar 6) (xC (.int 0))) (aCons (x2 oLt (xVar 7) (xVar 4)) (aCons (x2 oLt (xVar 6) (x2 oAdd (x2 oMod (xVar 4) (xC (.int 5))) (xVar 9))) (aNil)))))) (xVar 3)))
    (sIf (mOr (tB1 (x2 oEq (xVar 6) (xC (.int 0)))) (mAnd (tB1 (x2 oLt (xVar 7) (xC (.int 100)))) (tV1 (xVar 10))))
    (sSeq (sIf (tB1 (x2 oEq (xVar 7) (xC (.int 100))))
    (sRet (xVar 5))
    (sNext))
    (sPar3 5 6 7 (aCons (x2 oAdd (xVar 5) (xC (.str "+"))) (aCons (x2 oAdd (xVar 6) (xC (.int 1))) (aCons (x2 oAdd (xVar 7) (xC (.int 1))) (aNil))))))
    (sPar 5 6 (aCons (x2 oAdd (xVar 5) (xC (.str "-"))) (aCons (x2 oSub (xVar 6) (xC (.int 1))) (aNil))))))))
    (sRet (xVar 5))))))
def f_law_signs : FD := mkF k_law_signs 11 m_law_signs
def N_law_ways : List Str := ["signs", "found", "running", "sign"]
abbrev k_law_ways : List Bool := [false]
def m_law_ways : MS :=
  sSeq (sUnp (gTp 2 (gCs (gNm 1) (gCs (gNm 2) (gNl)))) (xTup (aCons (xC (.int 1)) (aCons (xC (.int 0)) (aNil)))))
    (sSeq (sFor (iSeq (xVar 0)) (gNm 3)
    (sSeq (sIf (tB1 (x2 oEq (xVar 3) (xC (.str "-"))))
    (sSet 1 (x2 oMul (xVar 1) (xVar 2)))
    (sNext))
    (sSet 2 (x2 oAdd (xVar 2) (x2 oIx (xLst (aCons (xC (.int 1)) (aCons (x1 oNeg (xC (.int 1))) (aNil)))) (xN oInt (aCons (x2 oEq (xVar 3) (xC (.str "-"))) (aNil))))))))
    (sRet (xVar 1)))
def f_law_ways : FD := mkF k_law_ways 4 m_law_ways
def N_law_every : List Str := ["signs", "rows", "starts", "sign", "longer", "row", "able", "one"]
abbrev k_law_every : List Bool := [false]
def m_law_every : MS :=
  sSeq (sPar 1 2 (aCons (xLst (aCons (xLst (aNil)) (aNil))) (aCons (xC (.int 0)) (aNil))))
    (sSeq (sFor (iSeq (xVar 0)) (gNm 3)
    (sSeq (sSet 2 (x2 oAdd (xVar 2) (xN oInt (aCons (x2 oEq (xVar 3) (xC (.str "+"))) (aNil)))))
    (sSeq (sSet 4 (xLst (aNil)))
    (sSeq (sFor (iSeq (xVar 1)) (gNm 5)
    (sSeq (sSet 6 (xLst (aCons (xVar 2) (aNil))))
    (sSeq (sIf (tB1 (x2 oEq (xVar 3) (xC (.str "-"))))
    (sSet 6 (xComp (iRange rangeD3 (aCons (xVar 2) (aCons (xC (.int 0)) (aCons (x1 oNeg (xC (.int 1))) (aNil))))) (gNm 7) (tB1 (x2 oNotIn (x2 oSub (xC (.int 0)) (xVar 7)) (xVar 5))) (x2 oSub (xC (.int 0)) (xVar 7)) [7]))
    (sNext))
    (sDrop (xMut 4 mExtend (aCons (xComp (iSeq (xVar 6)) (gNm 7) (M.pure true) (x2 oAdd (xVar 5) (xLst (aCons (xVar 7) (aNil)))) [7]) (aNil)))))))
    (sSet 1 (xVar 4))))))
    (sRet (xVar 1)))
def f_law_every : FD := mkF k_law_every 8 m_law_every
def N_law_right : List Str := ["signs", "due", "running"]
abbrev k_law_right : List Bool := [false]
def m_law_right : MS :=
  sSeq (sSet 1 (xCall k_law_ways f_law_ways (aCons (xVar 0) (aNil))))
    (sSeq (sIf (tB1 (x2 oNe (xN oRepr (aCons (xLst (aCons (xCall k_count_in_shape f_count_in_shape (aCons (xVar 0) (aNil))) (aCons (xCall k_count_in_shape f_count_in_shape (aCons (xVar 0) (aNil))) (aNil)))) (aNil))) (xN oRepr (aCons (xLst (aCons (xVar 1) (aCons (xVar 1) (aNil)))) (aNil)))))
    (sRet (xC (.bl false)))
    (sNext))
    (sSeq (sIf (mAnd (tB1 (x2 oLt (xVar 1) (xC (.int 201)))) (mAnd (tB1 (x2 oLt (xN oLen (aCons (xVar 0) (aNil))) (xC (.int 21)))) (tB1 (x2 oNe (xN oLen (aCons (xCall k_law_every f_law_every (aCons (xVar 0) (aNil))) (aNil))) (xVar 1)))))
    (sRet (xC (.bl false)))
    (sNext))
    (sSeq (sSet 2 (x2 oSub (xRd "str" rCount (xVar 0) (aCons (xC (.str "+")) (aNil))) (xRd "str" rCount (xVar 0) (aCons (xC (.str "-")) (aNil)))))
    (sSeq (sIf (mAnd (tB1 (x2 oLt (xN oLen (aCons (xVar 0) (aNil))) (xC (.int 200)))) (mAnd (tB1 (x2 oLt (xRd "str" rCount (xVar 0) (aCons (xC (.str "+")) (aNil))) (xC (.int 100)))) (tB1 (x2 oNe (xCall k_count_in_shape f_count_in_shape (aCons (x2 oAdd (xVar 0) (xC (.str "+"))) (aNil))) (xVar 1)))))
    (sRet (xC (.bl false)))
    (sNext))
    (sRet (xOr (x2 oGt (xN oLen (aCons (xVar 0) (aNil))) (xC (.int 199))) (xOr (x2 oEq (xVar 2) (xC (.int 0))) (x2 oEq (xCall k_count_in_shape f_count_in_shape (aCons (x2 oAdd (xVar 0) (xC (.str "-"))) (aNil))) (x2 oMul (xVar 1) (xVar 2))))))))))
def f_law_right : FD := mkF k_law_right 3 m_law_right
def N_law : List Str := ["script", "k", "pool", "signs", "cuts", "cut"]
abbrev k_law : List Bool := [false]
def m_law : MS :=
  sSeq (sFor (iRange rangeD1 (aCons (xN oMax (aCons (xC (.int 1)) (aCons (xN oMin (aCons (xC (.int 8)) (aCons (xN oLen (aCons (xVar 0) (aNil))) (aNil)))) (aNil)))) (aNil))) (gNm 1)
    (sSeq (sSet 2 (xCall k_law_pool f_law_pool (aCons (xVar 0) (aCons (xVar 1) (aNil)))))
    (sSeq (sSet 3 (xCall k_law_signs f_law_signs (aCons (xVar 2) (aCons (xVar 0) (aNil)))))
    (sSeq (sSet 4 (xLst (aCons (xN oLen (aCons (xVar 3) (aNil))) (aCons (xC (.int 0)) (aCons (xCall k_law_draw f_law_draw (aCons (xVar 2) (aCons (x2 oAdd (xN oLen (aCons (xVar 3) (aNil))) (xC (.int 1))) (aNil)))) (aCons (xCall k_law_draw f_law_draw (aCons (xVar 2) (aCons (x2 oAdd (xN oLen (aCons (xVar 3) (aNil))) (xC (.int 1))) (aNil)))) (aNil)))))))
    (sIf (mOr (tB1 (x2 oNe (xComp (iSeq (xVar 4)) (gNm 5) (mNot (tV1 (xCall k_law_right f_law_right (aCons (xSl (xVar 3) pNone (pSome (xVar 5))) (aNil))))) (xC (.int 1)) [5]) (xLst (aNil)))) (mNot (tV1 (xCall k_law_right f_law_right (aCons (x2 oAdd (x2 oMul (xC (.str "+")) (xC (.int 100))) (x2 oMul (xC (.str "-")) (xC (.int 100)))) (aNil))))))
    (sRet (xC (.bl false)))
    (sNext))))))
    (sRet (xC (.bl true)))
def f_law : FD := mkF k_law 6 m_law
end Law


namespace Law
open PySem L2 DL
def top (i : Nat) : Stmt := PySem.Challenge.pw_latepatches_k55_histories_counted_in_sha.main.body.getD i (.Pass ⟨0, 0, 0, 0⟩)
abbrev s_is_shape : Stmt := top 8
theorem sc_is_shape : FnScope N_is_shape ["value"] (defScope s_is_shape) := ⟨rfl, rfl, rfl, by decide +kernel, rfl, by decide +kernel, by decide +kernel⟩
theorem ok_is_shape {P : Program} {w : World} {K : PySem.W.Frag} {mg : Str → Option Value} {base : Heap} (F : FunC K mg "is_shape" s_is_shape ["value"])
    (b_isinstance : mg "isinstance" = none)
    (b_str : mg "str" = none)
    (b_len : mg "len" = none)
    (g_MOST_SIGNS : ∃ u, mg "MOST_SIGNS" = some u ∧ RelV (.int 200) u)
    (g_START : ∃ u, mg "START" = some u ∧ RelV (.str "+") u)
    (g_MOST_STARTS : ∃ u, mg "MOST_STARTS" = some u ∧ RelV (.int 100) u)
    (g_STOP : ∃ u, mg "STOP" = some u ∧ RelV (.str "-") u) :
    Cal P w K mg base 1 "is_shape" ["value"] k_is_shape f_is_shape :=
  cal_mk (N := N_is_shape) F sc_is_shape rfl (by decide) fun f cdv A outer s H W E C =>
    (dss_cons (ds_if (PW.pt (dw_or (dt_not (dt_truth (de_isi (n := "str") (by rfl) b_isinstance (de_var 0 (pv 0)) (by rfl) b_str (by decide +kernel)))) (dw_or (dt_cmp oGt_d (de_callB oLen_d (by rfl) b_len (by decide +kernel) (da_cons (de_var 0 (pv 0)) da_nil)) (de_gl g_MOST_SIGNS (by rfl) (fun _ _ => .int _)) (nomark _)) (dw_or1 (dt_cmp oGt_d (de_rd rCount_d PySem.F.plainAttrs_str PySem.F.slot_str_count PySem.F.type_str_count (de_var 0 (pv 0)) (da_cons (de_gl g_START (by rfl) (fun _ _ => .str _)) da_nil)) (de_gl g_MOST_STARTS (by rfl) (fun _ _ => .int _)) (nomark _)))))) (dss_one (ds_ret de_bl)) dss_nil)
      (dss_cons (ds_set (i := 1) C rfl (by first | exact .inl rfl | exact .inr rfl) de_int)
      (dss_cons (ds_for C (di_seq (de_var 0 (pv 0))) (gd_name (i := 2) C.nd rfl (by first | exact .inl rfl | exact .inr rfl)) (dss_cons (ds_if (dt_cmp oNotIn_d (de_var 2 (pv 2)) (de_tup (da_cons (de_gl g_START (by rfl) (fun _ _ => .str _)) (da_cons (de_gl g_STOP (by rfl) (fun _ _ => .str _)) da_nil))) (by first | rfl | with_unfolding_all rfl)) (dss_one (ds_ret de_bl)) dss_nil)
      (dss_cons (ds_aug (i := 1) C rfl (by first | exact .inl rfl | exact .inr rfl) iAdd_d (de_if (dt_cmp (oEq_d C.eq) (de_var 2 (pv 2)) (de_gl g_START (by rfl) (fun _ _ => .str _)) (nomark _)) de_int (de_neg de_int)))
      (dss_one (ds_if (dt_cmp oLt_d (de_var 1 (pv 1)) de_int (nomark _)) (dss_one (ds_ret de_bl)) dss_nil)))))
      (dss_one (ds_ret de_bl)))))
abbrev s_check_shape : Stmt := top 9
theorem sc_check_shape : FnScope N_check_shape ["shape"] (defScope s_check_shape) := ⟨rfl, rfl, rfl, by decide +kernel, rfl, by decide +kernel, by decide +kernel⟩
theorem ok_check_shape {P : Program} {w : World} {K : PySem.W.Frag} {mg : Str → Option Value} {base : Heap} (F : FunC K mg "check_shape" s_check_shape ["shape"])
    (c_is_shape : Cal P w K mg base 1 "is_shape" ["value"] k_is_shape f_is_shape)
    (e_InvalidShapeError : ExcC K mg "InvalidShapeError") :
    Cal P w K mg base 2 "check_shape" ["shape"] k_check_shape f_check_shape :=
  cal_mk (N := N_check_shape) F sc_check_shape rfl (by decide) fun f cdv A outer s H W E C =>
    (dss_one (ds_if (dt_not (dt_truth (de_cal c_is_shape C (by decide) (by rfl) (da_cons (de_var 0 (pv 0)) da_nil)))) (dss_one (ds_raiseC e_InvalidShapeError C (by rfl))) dss_nil))
abbrev s_choices_in : Stmt := top 10
theorem sc_choices_in : FnScope N_choices_in ["shape"] (defScope s_choices_in) := ⟨rfl, rfl, rfl, by decide +kernel, rfl, by decide +kernel, by decide +kernel⟩
theorem ok_choices_in {P : Program} {w : World} {K : PySem.W.Frag} {mg : Str → Option Value} {base : Heap} (F : FunC K mg "choices_in" s_choices_in ["shape"])
    (g_START : ∃ u, mg "START" = some u ∧ RelV (.str "+") u) :
    Cal P w K mg base 1 "choices_in" ["shape"] k_choices_in f_choices_in :=
  cal_mk (N := N_choices_in) F sc_choices_in rfl (by decide) fun f cdv A outer s H W E C =>
    (dss_cons (ds_par C rfl rfl (by decide) rfl rfl (da_cons (de_lst da_nil) (da_cons de_int da_nil)) (by rfl))
      (dss_cons (ds_for C (di_seq (de_var 0 (pv 0))) (gd_name (i := 3) C.nd rfl (by first | exact .inl rfl | exact .inr rfl)) (dss_one (ds_if (dt_cmp (oEq_d C.eq) (de_var 3 (pv 3)) (de_gl g_START (by rfl) (fun _ _ => .str _)) (nomark _)) (dss_one (ds_aug (i := 2) C rfl (by first | exact .inl rfl | exact .inr rfl) iAdd_d de_int)) (dss_cons (ds_expr (de_mut mAppend_d PySem.F.plainAttrs_list PySem.F.slot_list_append PySem.F.type_list_append (pv 1) (da_cons (de_var 2 (pv 2)) da_nil)))
      (dss_one (ds_aug (i := 2) C rfl (by first | exact .inl rfl | exact .inr rfl) iSub_d de_int))))))
      (dss_one (ds_ret (de_var 1 (pv 1))))))
abbrev s_product_of : Stmt := top 11
theorem sc_product_of : FnScope N_product_of ["numbers"] (defScope s_product_of) := ⟨rfl, rfl, rfl, by decide +kernel, rfl, by decide +kernel, by decide +kernel⟩
theorem ok_product_of {P : Program} {w : World} {K : PySem.W.Frag} {mg : Str → Option Value} {base : Heap} (F : FunC K mg "product_of" s_product_of ["numbers"]) :
    Cal P w K mg base 1 "product_of" ["numbers"] k_product_of f_product_of :=
  cal_mk (N := N_product_of) F sc_product_of rfl (by decide) fun f cdv A outer s H W E C =>
    (dss_cons (ds_set (i := 1) C rfl (by first | exact .inl rfl | exact .inr rfl) de_int)
      (dss_cons (ds_for C (di_seq (de_var 0 (pv 0))) (gd_name (i := 2) C.nd rfl (by first | exact .inl rfl | exact .inr rfl)) (dss_one (ds_aug (i := 1) C rfl (by first | exact .inl rfl | exact .inr rfl) iMul_d (de_var 2 (pv 2)))))
      (dss_one (ds_ret (de_var 1 (pv 1))))))
abbrev s_count_in_shape : Stmt := top 12
theorem sc_count_in_shape : FnScope N_count_in_shape ["shape"] (defScope s_count_in_shape) := ⟨rfl, rfl, rfl, by decide +kernel, rfl, by decide +kernel, by decide +kernel⟩
theorem ok_count_in_shape {P : Program} {w : World} {K : PySem.W.Frag} {mg : Str → Option Value} {base : Heap} (F : FunC K mg "count_in_shape" s_count_in_shape ["shape"])
    (c_check_shape : Cal P w K mg base 2 "check_shape" ["shape"] k_check_shape f_check_shape)
    (c_choices_in : Cal P w K mg base 1 "choices_in" ["shape"] k_choices_in f_choices_in)
    (c_product_of : Cal P w K mg base 1 "product_of" ["numbers"] k_product_of f_product_of) :
    Cal P w K mg base 3 "count_in_shape" ["shape"] k_count_in_shape f_count_in_shape :=
  cal_mk (N := N_count_in_shape) F sc_count_in_shape rfl (by decide) fun f cdv A outer s H W E C =>
    (dss_cons (ds_expr (de_cal c_check_shape C (by decide) (by rfl) (da_cons (de_var 0 (pv 0)) da_nil)))
      (dss_one (ds_ret (de_cal c_product_of C (by decide) (by rfl) (da_cons (de_cal c_choices_in C (by decide) (by rfl) (da_cons (de_var 0 (pv 0)) da_nil)) da_nil)))))
abbrev s_law_pool : Stmt := top 14
theorem sc_law_pool : FnScope N_law_pool ["script", "k"] (defScope s_law_pool) := ⟨rfl, rfl, rfl, by decide +kernel, rfl, by decide +kernel, by decide +kernel⟩
theorem ok_law_pool {P : Program} {w : World} {K : PySem.W.Frag} {mg : Str → Option Value} {base : Heap} (F : FunC K mg "_law_pool" s_law_pool ["script", "k"])
    (b_len : mg "len" = none)
    (b_max : mg "max" = none) :
    Cal P w K mg base 1 "_law_pool" ["script", "k"] k_law_pool f_law_pool :=
  cal_mk (N := N_law_pool) F sc_law_pool rfl (by decide) fun f cdv A outer s H W E C =>
    (dss_cons (ds_set (i := 2) C rfl (by first | exact .inl rfl | exact .inr rfl) de_int)
      (dss_cons (ds_if (dt_cmp oLt_d (de_var 1 (pv 1)) (de_callB oLen_d (by rfl) b_len (by decide +kernel) (da_cons (de_var 0 (pv 0)) da_nil)) (nomark _)) (dss_one (ds_set (i := 2) C rfl (by first | exact .inl rfl | exact .inr rfl) (de_ix oIx_d (de_var 0 (pv 0)) (de_var 1 (pv 1)) (fun _ _ => rfl)))) dss_nil)
      (dss_one (ds_ret (de_lst (da_cons (de_callB (oMax_d C.calm) (by rfl) b_max (by decide +kernel) (da_cons de_int (da_cons (de_op oSub_d (de_var 2 (pv 2)) (de_op oPow_d de_int de_int)) da_nil))) (da_cons (de_op oAdd_d (de_op oMul_d (de_op oMod_d (de_var 2 (pv 2)) (de_op oAdd_d (de_op oPow_d de_int de_int) de_int)) de_int) (de_var 1 (pv 1))) (da_cons de_int da_nil))))))))
abbrev s_law_draw : Stmt := top 15
theorem sc_law_draw : FnScope N_law_draw ["pool", "many"] (defScope s_law_draw) := ⟨rfl, rfl, rfl, by decide +kernel, rfl, by decide +kernel, by decide +kernel⟩
theorem ok_law_draw {P : Program} {w : World} {K : PySem.W.Frag} {mg : Str → Option Value} {base : Heap} (F : FunC K mg "_law_draw" s_law_draw ["pool", "many"]) :
    Cal P w K mg base 1 "_law_draw" ["pool", "many"] k_law_draw f_law_draw :=
  cal_mk (N := N_law_draw) F sc_law_draw rfl (by decide) fun f cdv A outer s H W E C =>
    (dss_cons (ds_if (dt_cmp oGt_d (de_ix oIx_d (de_var 0 (pv 0)) de_int (fun _ _ => rfl)) de_int (nomark _)) (dss_cons (ds_set (i := 2) C rfl (by first | exact .inl rfl | exact .inr rfl) (de_op oMod_d (de_ix oIx_d (de_var 0 (pv 0)) de_int (fun _ _ => rfl)) (de_var 1 (pv 1))))
      (dss_cons (ds_put (de_op oDiv_d (de_ix oIx_d (de_var 0 (pv 0)) de_int (fun _ _ => rfl)) (de_var 1 (pv 1))) (pv 0) de_int)
      (dss_one (ds_ret (de_var 2 (pv 2)))))) dss_nil)
      (dss_cons (ds_put (de_op oAdd_d (de_ix oIx_d (de_var 0 (pv 0)) de_int (fun _ _ => rfl)) de_int) (pv 0) de_int)
      (dss_cons (ds_set (i := 3) C rfl (by first | exact .inl rfl | exact .inr rfl) (de_op oMod_d (de_op oPow_d (de_op oAdd_d (de_ix oIx_d (de_var 0 (pv 0)) de_int (fun _ _ => rfl)) (de_op oMul_d de_int (de_ix oIx_d (de_var 0 (pv 0)) de_int (fun _ _ => rfl)))) de_int) (de_op oAdd_d (de_op oPow_d de_int de_int) de_int)))
      (dss_cons (ds_set (i := 3) C rfl (by first | exact .inl rfl | exact .inr rfl) (de_op oMod_d (de_op oPow_d (de_op oAdd_d (de_var 3 (pv 3)) (de_op oMul_d de_int (de_ix oIx_d (de_var 0 (pv 0)) de_int (fun _ _ => rfl)))) de_int) (de_op oAdd_d (de_op oPow_d de_int de_int) de_int)))
      (dss_one (ds_ret (de_op oMod_d (de_op oDiv_d (de_var 3 (pv 3)) de_int) (de_var 1 (pv 1)))))))))
abbrev s_law_signs : Stmt := top 16
theorem sc_law_signs : FnScope N_law_signs ["pool", "script"] (defScope s_law_signs) := ⟨rfl, rfl, rfl, by decide +kernel, rfl, by decide +kernel, by decide +kernel⟩
theorem ok_law_signs {P : Program} {w : World} {K : PySem.W.Frag} {mg : Str → Option Value} {base : Heap} (F : FunC K mg "_law_signs" s_law_signs ["pool", "script"])
    (c_law_draw : Cal P w K mg base 1 "_law_draw" ["pool", "many"] k_law_draw f_law_draw)
    (b_range : mg "range" = none) :
    Cal P w K mg base 2 "_law_signs" ["pool", "script"] k_law_signs f_law_signs :=
  cal_mk (N := N_law_signs) F sc_law_signs rfl (by decide) fun f cdv A outer s H W E C =>
    (dss_cons (ds_par C rfl rfl (by decide) rfl rfl (da_cons (de_ix oIx_d (de_lst (da_cons (de_op oAdd_d de_int (de_cal c_law_draw C (by decide) (by rfl) (da_cons (de_var 0 (pv 0)) (da_cons de_int da_nil)))) (da_cons (de_op oAdd_d de_int (de_cal c_law_draw C (by decide) (by rfl) (da_cons (de_var 0 (pv 0)) (da_cons de_int da_nil)))) (da_cons de_int da_nil)))) (de_cal c_law_draw C (by decide) (by rfl) (da_cons (de_var 0 (pv 0)) (da_cons de_int da_nil))) (fun _ _ => rfl)) (da_cons (de_cal c_law_draw C (by decide) (by rfl) (da_cons (de_var 0 (pv 0)) (da_cons de_int da_nil))) da_nil)) (by rfl))
      (dss_cons (ds_set (i := 4) C rfl (by first | exact .inl rfl | exact .inr rfl) (de_op oAdd_d de_int (de_cal c_law_draw C (by decide) (by rfl) (da_cons (de_var 0 (pv 0)) (da_cons de_int da_nil)))))
      (dss_cons (ds_unp (de_if (dt_cmp (oEq_d C.eq) (de_var 1 (pv 1)) (de_lst da_nil) (nomark _)) (de_tup (da_cons de_int (da_cons de_int (da_cons de_int da_nil)))) (de_tup (da_cons (de_var 2 (pv 2)) (da_cons (de_var 3 (pv 3)) (da_cons (de_var 4 (pv 4)) da_nil))))) (gd_tup C.calm (gds_cons (gd_name (i := 2) C.nd rfl (by first | exact .inl rfl | exact .inr rfl)) (gds_cons (gd_name (i := 3) C.nd rfl (by first | exact .inl rfl | exact .inr rfl)) (gds_cons (gd_name (i := 4) C.nd rfl (by first | exact .inl rfl | exact .inr rfl)) gds_nil)))))
      (dss_cons (ds_unp (de_tup (da_cons de_str (da_cons de_int (da_cons de_int da_nil)))) (gd_tup C.calm (gds_cons (gd_name (i := 5) C.nd rfl (by first | exact .inl rfl | exact .inr rfl)) (gds_cons (gd_name (i := 6) C.nd rfl (by first | exact .inl rfl | exact .inr rfl)) (gds_cons (gd_name (i := 7) C.nd rfl (by first | exact .inl rfl | exact .inr rfl)) gds_nil)))))
      (dss_cons (ds_for C (di_range1 (by rfl) b_range (da_cons (de_var 2 (pv 2)) da_nil)) (gd_name (i := 8) C.nd rfl (by first | exact .inl rfl | exact .inr rfl)) (dss_cons (ds_set (i := 9) C rfl (by first | exact .inl rfl | exact .inr rfl) (de_cal c_law_draw C (by decide) (by rfl) (da_cons (de_var 0 (pv 0)) (da_cons de_int da_nil))))
      (dss_cons (ds_set (i := 10) C rfl (by first | exact .inl rfl | exact .inr rfl) (de_ix oIx_d (de_lst (da_cons (de_cmp oGt_d (de_var 9 (pv 9)) de_int (nomark _)) (da_cons (de_cmp (oEq_d C.eq) (de_var 6 (pv 6)) de_int (nomark _)) (da_cons (de_cmp oLt_d (de_var 7 (pv 7)) (de_var 4 (pv 4)) (nomark _)) (da_cons (de_cmp oLt_d (de_var 6 (pv 6)) (de_op oAdd_d (de_op oMod_d (de_var 4 (pv 4)) de_int) (de_var 9 (pv 9))) (nomark _)) da_nil))))) (de_var 3 (pv 3)) (fun _ _ => rfl)))
      (dss_one (ds_if (PW.pt (dw_or (dt_cmp (oEq_d C.eq) (de_var 6 (pv 6)) de_int (nomark _)) (dw_or1 (PW.pt (dw_and (dt_cmp oLt_d (de_var 7 (pv 7)) de_int (nomark _)) (dw_and1 (dt_truth (de_var 10 (pv 10))))))))) (dss_cons (ds_if (dt_cmp (oEq_d C.eq) (de_var 7 (pv 7)) de_int (nomark _)) (dss_one (ds_ret (de_var 5 (pv 5)))) dss_nil)
      (dss_one (ds_par3 C rfl rfl rfl (by decide) (by decide) (by decide) rfl rfl rfl (da_cons (de_op oAdd_d (de_var 5 (pv 5)) de_str) (da_cons (de_op oAdd_d (de_var 6 (pv 6)) de_int) (da_cons (de_op oAdd_d (de_var 7 (pv 7)) de_int) da_nil))) (by rfl)))) (dss_one (ds_par C rfl rfl (by decide) rfl rfl (da_cons (de_op oAdd_d (de_var 5 (pv 5)) de_str) (da_cons (de_op oSub_d (de_var 6 (pv 6)) de_int) da_nil)) (by rfl))))))))
      (dss_one (ds_ret (de_var 5 (pv 5)))))))))
abbrev s_law_ways : Stmt := top 17
theorem sc_law_ways : FnScope N_law_ways ["signs"] (defScope s_law_ways) := ⟨rfl, rfl, rfl, by decide +kernel, rfl, by decide +kernel, by decide +kernel⟩
theorem ok_law_ways {P : Program} {w : World} {K : PySem.W.Frag} {mg : Str → Option Value} {base : Heap} (F : FunC K mg "_law_ways" s_law_ways ["signs"])
    (b_int : mg "int" = none) :
    Cal P w K mg base 1 "_law_ways" ["signs"] k_law_ways f_law_ways :=
  cal_mk (N := N_law_ways) F sc_law_ways rfl (by decide) fun f cdv A outer s H W E C =>
    (dss_cons (ds_unp (de_tup (da_cons de_int (da_cons de_int da_nil))) (gd_tup C.calm (gds_cons (gd_name (i := 1) C.nd rfl (by first | exact .inl rfl | exact .inr rfl)) (gds_cons (gd_name (i := 2) C.nd rfl (by first | exact .inl rfl | exact .inr rfl)) gds_nil))))
      (dss_cons (ds_for C (di_seq (de_var 0 (pv 0))) (gd_name (i := 3) C.nd rfl (by first | exact .inl rfl | exact .inr rfl)) (dss_cons (ds_if (dt_cmp (oEq_d C.eq) (de_var 3 (pv 3)) de_str (nomark _)) (dss_one (ds_set (i := 1) C rfl (by first | exact .inl rfl | exact .inr rfl) (de_op oMul_d (de_var 1 (pv 1)) (de_var 2 (pv 2))))) dss_nil)
      (dss_one (ds_set (i := 2) C rfl (by first | exact .inl rfl | exact .inr rfl) (de_op oAdd_d (de_var 2 (pv 2)) (de_ix oIx_d (de_lst (da_cons de_int (da_cons (de_neg de_int) da_nil))) (de_callTy oInt_d (by rfl) b_int (by decide +kernel) (da_cons (de_cmp (oEq_d C.eq) (de_var 3 (pv 3)) de_str (nomark _)) da_nil)) (fun _ _ => rfl)))))))
      (dss_one (ds_ret (de_var 1 (pv 1))))))
abbrev s_law_every : Stmt := top 18
theorem sc_law_every : FnScope N_law_every ["signs"] (defScope s_law_every) := ⟨rfl, rfl, rfl, by decide +kernel, rfl, by decide +kernel, by decide +kernel⟩
theorem ok_law_every {P : Program} {w : World} {K : PySem.W.Frag} {mg : Str → Option Value} {base : Heap} (F : FunC K mg "_law_every" s_law_every ["signs"])
    (b_int : mg "int" = none)
    (b_range : mg "range" = none) :
    Cal P w K mg base 1 "_law_every" ["signs"] k_law_every f_law_every :=
  cal_mk (N := N_law_every) F sc_law_every rfl (by decide) fun f cdv A outer s H W E C =>
    (dss_cons (ds_par C rfl rfl (by decide) rfl rfl (da_cons (de_lst (da_cons (de_lst da_nil) da_nil)) (da_cons de_int da_nil)) (by rfl))
      (dss_cons (ds_for C (di_seq (de_var 0 (pv 0))) (gd_name (i := 3) C.nd rfl (by first | exact .inl rfl | exact .inr rfl)) (dss_cons (ds_set (i := 2) C rfl (by first | exact .inl rfl | exact .inr rfl) (de_op oAdd_d (de_var 2 (pv 2)) (de_callTy oInt_d (by rfl) b_int (by decide +kernel) (da_cons (de_cmp (oEq_d C.eq) (de_var 3 (pv 3)) de_str (nomark _)) da_nil))))
      (dss_cons (ds_set (i := 4) C rfl (by first | exact .inl rfl | exact .inr rfl) (de_lst da_nil))
      (dss_cons (ds_for C (di_seq (de_var 1 (pv 1))) (gd_name (i := 5) C.nd rfl (by first | exact .inl rfl | exact .inr rfl)) (dss_cons (ds_set (i := 6) C rfl (by first | exact .inl rfl | exact .inr rfl) (de_lst (da_cons (de_var 2 (pv 2)) da_nil)))
      (dss_cons (ds_if (dt_cmp (oEq_d C.eq) (de_var 3 (pv 3)) de_str (nomark _)) (dss_one (ds_setLc (i := 6) C rfl rfl (sw_true rfl rfl rfl (by decide +kernel)) (di_range3 (by rfl) b_range (da_cons (de_var 2 (pv 2)) (da_cons de_int (da_cons (de_neg de_int) da_nil)))) (blkOk_by (own := [("one", 7)]) (N := N_law_every) (sc := defScope s_law_every) (by decide +kernel)) (fun _ _ _ _ _ => (gd_name (i := 7) C.nd rfl (by first | exact .inl rfl | exact .inr rfl))) (by decide) (fun _ _ _ _ _ => (dts_one (dt_cmp oNotIn_d (de_op oSub_d de_int (de_var 7 (pv 7))) (de_var 5 (pv 5)) (by first | rfl | with_unfolding_all rfl)))) (fun _ _ _ _ _ => (de_op oSub_d de_int (de_var 7 (pv 7)))))) dss_nil)
      (dss_one (ds_expr (de_mut mExtend_d PySem.F.plainAttrs_list PySem.F.slot_list_extend PySem.F.type_list_extend (pv 4) (da_cons (de_lc C (di_seq (de_var 6 (pv 6))) (blkOk_by (own := [("one", 7)]) (N := N_law_every) (sc := defScope s_law_every) (by decide +kernel)) (fun _ _ _ _ _ => (gd_name (i := 7) C.nd rfl (by first | exact .inl rfl | exact .inr rfl))) (by decide) (fun _ _ _ _ _ => dts_nil) (fun _ _ _ _ _ => (de_op oAdd_d (de_var 5 (pv 5)) (de_lst (da_cons (de_var 7 (pv 7)) da_nil))))) da_nil)))))))
      (dss_one (ds_set (i := 1) C rfl (by first | exact .inl rfl | exact .inr rfl) (de_var 4 (pv 4))))))))
      (dss_one (ds_ret (de_var 1 (pv 1))))))
abbrev s_law_right : Stmt := top 19
theorem sc_law_right : FnScope N_law_right ["signs"] (defScope s_law_right) := ⟨rfl, rfl, rfl, by decide +kernel, rfl, by decide +kernel, by decide +kernel⟩
theorem ok_law_right {P : Program} {w : World} {K : PySem.W.Frag} {mg : Str → Option Value} {base : Heap} (F : FunC K mg "_law_right" s_law_right ["signs"])
    (c_law_ways : Cal P w K mg base 1 "_law_ways" ["signs"] k_law_ways f_law_ways)
    (c_count_in_shape : Cal P w K mg base 3 "count_in_shape" ["shape"] k_count_in_shape f_count_in_shape)
    (b_repr : mg "repr" = none)
    (b_len : mg "len" = none)
    (c_law_every : Cal P w K mg base 1 "_law_every" ["signs"] k_law_every f_law_every) :
    Cal P w K mg base 4 "_law_right" ["signs"] k_law_right f_law_right :=
  cal_mk (N := N_law_right) F sc_law_right rfl (by decide) fun f cdv A outer s H W E C =>
    (dss_cons (ds_set (i := 1) C rfl (by first | exact .inl rfl | exact .inr rfl) (de_cal c_law_ways C (by decide) (by rfl) (da_cons (de_var 0 (pv 0)) da_nil)))
      (dss_cons (ds_if (dt_cmp (oNe_d C.eq) (de_callB (oRepr_d C) (by rfl) b_repr (by decide +kernel) (da_cons (de_lst (da_cons (de_cal c_count_in_shape C (by decide) (by rfl) (da_cons (de_var 0 (pv 0)) da_nil)) (da_cons (de_calK c_count_in_shape C (by decide) (by rfl) (dk_cons (de_var 0 (pv 0)) dk_nil)) da_nil))) da_nil)) (de_callB (oRepr_d C) (by rfl) b_repr (by decide +kernel) (da_cons (de_lst (da_cons (de_var 1 (pv 1)) (da_cons (de_var 1 (pv 1)) da_nil))) da_nil)) (nomark _)) (dss_one (ds_ret de_bl)) dss_nil)
      (dss_cons (ds_if (PW.pt (dw_and (dt_cmp oLt_d (de_var 1 (pv 1)) de_int (nomark _)) (dw_and (dt_cmp oLt_d (de_callB oLen_d (by rfl) b_len (by decide +kernel) (da_cons (de_var 0 (pv 0)) da_nil)) de_int (nomark _)) (dw_and1 (dt_cmp (oNe_d C.eq) (de_callB oLen_d (by rfl) b_len (by decide +kernel) (da_cons (de_cal c_law_every C (by decide) (by rfl) (da_cons (de_var 0 (pv 0)) da_nil)) da_nil)) (de_var 1 (pv 1)) (nomark _)))))) (dss_one (ds_ret de_bl)) dss_nil)
      (dss_cons (ds_set (i := 2) C rfl (by first | exact .inl rfl | exact .inr rfl) (de_op oSub_d (de_rd rCount_d PySem.F.plainAttrs_str PySem.F.slot_str_count PySem.F.type_str_count (de_var 0 (pv 0)) (da_cons de_str da_nil)) (de_rd rCount_d PySem.F.plainAttrs_str PySem.F.slot_str_count PySem.F.type_str_count (de_var 0 (pv 0)) (da_cons de_str da_nil))))
      (dss_cons (ds_if (PW.pt (dw_and (dt_cmp oLt_d (de_callB oLen_d (by rfl) b_len (by decide +kernel) (da_cons (de_var 0 (pv 0)) da_nil)) de_int (nomark _)) (dw_and (dt_cmp oLt_d (de_rd rCount_d PySem.F.plainAttrs_str PySem.F.slot_str_count PySem.F.type_str_count (de_var 0 (pv 0)) (da_cons de_str da_nil)) de_int (nomark _)) (dw_and1 (dt_cmp (oNe_d C.eq) (de_cal c_count_in_shape C (by decide) (by rfl) (da_cons (de_op oAdd_d (de_var 0 (pv 0)) de_str) da_nil)) (de_var 1 (pv 1)) (nomark _)))))) (dss_one (ds_ret de_bl)) dss_nil)
      (dss_one (ds_ret (de_or (de_cmp oGt_d (de_callB oLen_d (by rfl) b_len (by decide +kernel) (da_cons (de_var 0 (pv 0)) da_nil)) de_int (nomark _)) (de_or (de_cmp (oEq_d C.eq) (de_var 2 (pv 2)) de_int (nomark _)) (de_one (de_cmp (oEq_d C.eq) (de_cal c_count_in_shape C (by decide) (by rfl) (da_cons (de_op oAdd_d (de_var 0 (pv 0)) de_str) da_nil)) (de_op oMul_d (de_var 1 (pv 1)) (de_var 2 (pv 2))) (nomark _))))))))))))
abbrev s_law : Stmt := top 20
theorem sc_law : FnScope N_law ["script"] (defScope s_law) := ⟨rfl, rfl, rfl, by decide +kernel, rfl, by decide +kernel, by decide +kernel⟩
theorem ok_law {P : Program} {w : World} {K : PySem.W.Frag} {mg : Str → Option Value} {base : Heap} (F : FunC K mg "law" s_law ["script"])
    (b_len : mg "len" = none)
    (b_min : mg "min" = none)
    (b_max : mg "max" = none)
    (b_range : mg "range" = none)
    (c_law_pool : Cal P w K mg base 1 "_law_pool" ["script", "k"] k_law_pool f_law_pool)
    (c_law_signs : Cal P w K mg base 2 "_law_signs" ["pool", "script"] k_law_signs f_law_signs)
    (c_law_draw : Cal P w K mg base 1 "_law_draw" ["pool", "many"] k_law_draw f_law_draw)
    (c_law_right : Cal P w K mg base 4 "_law_right" ["signs"] k_law_right f_law_right) :
    Cal P w K mg base 5 "law" ["script"] k_law f_law :=
  cal_mk (N := N_law) F sc_law rfl (by decide) fun f cdv A outer s H W E C =>
    (dss_cons (ds_for C (di_range1 (by rfl) b_range (da_cons (de_callB (oMax_d C.calm) (by rfl) b_max (by decide +kernel) (da_cons de_int (da_cons (de_callB (oMin_d C.calm) (by rfl) b_min (by decide +kernel) (da_cons de_int (da_cons (de_callB oLen_d (by rfl) b_len (by decide +kernel) (da_cons (de_var 0 (pv 0)) da_nil)) da_nil))) da_nil))) da_nil)) (gd_name (i := 1) C.nd rfl (by first | exact .inl rfl | exact .inr rfl)) (dss_cons (ds_set (i := 2) C rfl (by first | exact .inl rfl | exact .inr rfl) (de_cal c_law_pool C (by decide) (by rfl) (da_cons (de_var 0 (pv 0)) (da_cons (de_var 1 (pv 1)) da_nil))))
      (dss_cons (ds_set (i := 3) C rfl (by first | exact .inl rfl | exact .inr rfl) (de_cal c_law_signs C (by decide) (by rfl) (da_cons (de_var 2 (pv 2)) (da_cons (de_var 0 (pv 0)) da_nil))))
      (dss_cons (ds_set (i := 4) C rfl (by first | exact .inl rfl | exact .inr rfl) (de_lst (da_cons (de_callB oLen_d (by rfl) b_len (by decide +kernel) (da_cons (de_var 3 (pv 3)) da_nil)) (da_cons de_int (da_cons (de_cal c_law_draw C (by decide) (by rfl) (da_cons (de_var 2 (pv 2)) (da_cons (de_op oAdd_d (de_callB oLen_d (by rfl) b_len (by decide +kernel) (da_cons (de_var 3 (pv 3)) da_nil)) de_int) da_nil))) (da_cons (de_cal c_law_draw C (by decide) (by rfl) (da_cons (de_var 2 (pv 2)) (da_cons (de_op oAdd_d (de_callB oLen_d (by rfl) b_len (by decide +kernel) (da_cons (de_var 3 (pv 3)) da_nil)) de_int) da_nil))) da_nil))))))
      (dss_one (ds_if (PW.pt (dw_or (dt_cmp (oNe_d C.eq) (de_lc C (di_seq (de_var 4 (pv 4))) (blkOk_by (own := [("cut", 5)]) (N := N_law) (sc := defScope s_law) (by decide +kernel)) (fun _ _ _ _ _ => (gd_name (i := 5) C.nd rfl (by first | exact .inl rfl | exact .inr rfl))) (by decide) (fun _ _ _ _ _ => (dts_one (dt_not (dt_truth (de_cal c_law_right C.blk (by decide) (by rfl) (da_cons (de_sl (de_var 3 (pv 3)) dp_none (dp_some (de_var 5 (pv 5)))) da_nil)))))) (fun _ _ _ _ _ => de_int)) (de_lst da_nil) (nomark _)) (dw_or1 (dt_not (dt_truth (de_cal c_law_right C (by decide) (by rfl) (da_cons (de_op oAdd_d (de_op oMul_d de_str de_int) (de_op oMul_d de_str de_int)) da_nil))))))) (dss_one (ds_ret de_bl)) dss_nil))))))
      (dss_one (ds_ret de_bl)))
theorem all_ok {P : Program} {w : World} {K : PySem.W.Frag} {mg : Str → Option Value}
    (F_is_shape : FunC K mg "is_shape" s_is_shape ["value"])
    (F_check_shape : FunC K mg "check_shape" s_check_shape ["shape"])
    (F_choices_in : FunC K mg "choices_in" s_choices_in ["shape"])
    (F_product_of : FunC K mg "product_of" s_product_of ["numbers"])
    (F_count_in_shape : FunC K mg "count_in_shape" s_count_in_shape ["shape"])
    (F_law_pool : FunC K mg "_law_pool" s_law_pool ["script", "k"])
    (F_law_draw : FunC K mg "_law_draw" s_law_draw ["pool", "many"])
    (F_law_signs : FunC K mg "_law_signs" s_law_signs ["pool", "script"])
    (F_law_ways : FunC K mg "_law_ways" s_law_ways ["signs"])
    (F_law_every : FunC K mg "_law_every" s_law_every ["signs"])
    (F_law_right : FunC K mg "_law_right" s_law_right ["signs"])
    (F_law : FunC K mg "law" s_law ["script"])
    (b_isinstance : mg "isinstance" = none)
    (b_str : mg "str" = none)
    (b_len : mg "len" = none)
    (b_max : mg "max" = none)
    (b_range : mg "range" = none)
    (b_int : mg "int" = none)
    (b_repr : mg "repr" = none)
    (b_min : mg "min" = none)
    (g_MOST_SIGNS : ∃ u, mg "MOST_SIGNS" = some u ∧ RelV (.int 200) u)
    (g_START : ∃ u, mg "START" = some u ∧ RelV (.str "+") u)
    (g_MOST_STARTS : ∃ u, mg "MOST_STARTS" = some u ∧ RelV (.int 100) u)
    (g_STOP : ∃ u, mg "STOP" = some u ∧ RelV (.str "-") u)
    (e_InvalidShapeError : ExcC K mg "InvalidShapeError") (base : Heap) :
    Cal P w K mg base 5 "law" ["script"] k_law f_law := by
  have c_is_shape : Cal P w K mg base 1 "is_shape" ["value"] k_is_shape f_is_shape := ok_is_shape F_is_shape b_isinstance b_str b_len g_MOST_SIGNS g_START g_MOST_STARTS g_STOP
  have c_choices_in : Cal P w K mg base 1 "choices_in" ["shape"] k_choices_in f_choices_in := ok_choices_in F_choices_in g_START
  have c_product_of : Cal P w K mg base 1 "product_of" ["numbers"] k_product_of f_product_of := ok_product_of F_product_of 
  have c_law_pool : Cal P w K mg base 1 "_law_pool" ["script", "k"] k_law_pool f_law_pool := ok_law_pool F_law_pool b_len b_max
  have c_law_draw : Cal P w K mg base 1 "_law_draw" ["pool", "many"] k_law_draw f_law_draw := ok_law_draw F_law_draw 
  have c_law_ways : Cal P w K mg base 1 "_law_ways" ["signs"] k_law_ways f_law_ways := ok_law_ways F_law_ways b_int
  have c_law_every : Cal P w K mg base 1 "_law_every" ["signs"] k_law_every f_law_every := ok_law_every F_law_every b_int b_range
  have c_check_shape : Cal P w K mg base 2 "check_shape" ["shape"] k_check_shape f_check_shape := ok_check_shape F_check_shape c_is_shape e_InvalidShapeError
  have c_law_signs : Cal P w K mg base 2 "_law_signs" ["pool", "script"] k_law_signs f_law_signs := ok_law_signs F_law_signs c_law_draw b_range
  have c_count_in_shape : Cal P w K mg base 3 "count_in_shape" ["shape"] k_count_in_shape f_count_in_shape := ok_count_in_shape F_count_in_shape c_check_shape c_choices_in c_product_of
  have c_law_right : Cal P w K mg base 4 "_law_right" ["signs"] k_law_right f_law_right := ok_law_right F_law_right c_law_ways c_count_in_shape b_repr b_len c_law_every
  have c_law : Cal P w K mg base 5 "law" ["script"] k_law f_law := ok_law F_law b_len b_min b_max b_range c_law_pool c_law_signs c_law_draw c_law_right
  exact c_law
theorem walk {l : PySem.W.OpenLaw} {q : Program} {loose : List Str} {XP : (Str → Option Value) → Heap → Prop} {YP : World → Heap → Prop} {d : DefRec} {K : Params → PySem.W.Frag} (hn : l.most = some 63) (hdf : d.params.defaults = []) (hdn : d.name = "law")
    (hY : ∀ (w : World) (h : Heap), YP w h → (K w.params).In h)
    (F : ∀ (w : World) (mg : Str → Option Value) (h : Heap), (K w.params).In h → h.Ns mainGlobals mg → ∀ base : Heap, Cal l.prog w (K w.params) mg base 5 "law" ["script"] k_law f_law)
    (hf : ∀ ns : List Int, ns.length ≤ 63 → f_law [.scr (ns.map D.int)] = .ok false (.bl true) []) : PySem.W.WalkO q loose XP YP l.row.toRowW d [] (fun f vs => PySem.call f vs) :=
  walkC hn hdf hdn (by decide) ⟨rfl, by decide, by decide⟩ hY F hf
theorem facts {P : Program} {w : World} {K : PySem.W.Frag} {mg : Str → Option Value} {h : Heap} (KX : K.In h) (G : h.Ns mainGlobals mg)
    {ad_is_shape : Addr} {od_is_shape an_is_shape : Option Addr} {sl_is_shape : Array (Option Value)} {oc_is_shape kV_is_shape dc_is_shape pm_is_shape cd_is_shape ct_is_shape : Value}
    (a_is_shape : PySem.W.nsIn K mainGlobals "is_shape" = some (some (.ref ad_is_shape))) (l_is_shape : K.lookup ad_is_shape = some ⟨oc_is_shape, od_is_shape, .func (PySem.W.fnOf "is_shape" "is_shape" (defArgs s_is_shape) (defBody s_is_shape) (defScope s_is_shape) .none kV_is_shape dc_is_shape pm_is_shape an_is_shape cd_is_shape ct_is_shape), sl_is_shape⟩)
    (c_is_shape : PySem.W.codeIn K cd_is_shape "is_shape" = true) (kp_is_shape : PySem.W.keepIn K (.ref ad_is_shape) = true)
    {ad_check_shape : Addr} {od_check_shape an_check_shape : Option Addr} {sl_check_shape : Array (Option Value)} {oc_check_shape kV_check_shape dc_check_shape pm_check_shape cd_check_shape ct_check_shape : Value}
    (a_check_shape : PySem.W.nsIn K mainGlobals "check_shape" = some (some (.ref ad_check_shape))) (l_check_shape : K.lookup ad_check_shape = some ⟨oc_check_shape, od_check_shape, .func (PySem.W.fnOf "check_shape" "check_shape" (defArgs s_check_shape) (defBody s_check_shape) (defScope s_check_shape) .none kV_check_shape dc_check_shape pm_check_shape an_check_shape cd_check_shape ct_check_shape), sl_check_shape⟩)
    (c_check_shape : PySem.W.codeIn K cd_check_shape "check_shape" = true) (kp_check_shape : PySem.W.keepIn K (.ref ad_check_shape) = true)
    {ad_choices_in : Addr} {od_choices_in an_choices_in : Option Addr} {sl_choices_in : Array (Option Value)} {oc_choices_in kV_choices_in dc_choices_in pm_choices_in cd_choices_in ct_choices_in : Value}
    (a_choices_in : PySem.W.nsIn K mainGlobals "choices_in" = some (some (.ref ad_choices_in))) (l_choices_in : K.lookup ad_choices_in = some ⟨oc_choices_in, od_choices_in, .func (PySem.W.fnOf "choices_in" "choices_in" (defArgs s_choices_in) (defBody s_choices_in) (defScope s_choices_in) .none kV_choices_in dc_choices_in pm_choices_in an_choices_in cd_choices_in ct_choices_in), sl_choices_in⟩)
    (c_choices_in : PySem.W.codeIn K cd_choices_in "choices_in" = true) (kp_choices_in : PySem.W.keepIn K (.ref ad_choices_in) = true)
    {ad_product_of : Addr} {od_product_of an_product_of : Option Addr} {sl_product_of : Array (Option Value)} {oc_product_of kV_product_of dc_product_of pm_product_of cd_product_of ct_product_of : Value}
    (a_product_of : PySem.W.nsIn K mainGlobals "product_of" = some (some (.ref ad_product_of))) (l_product_of : K.lookup ad_product_of = some ⟨oc_product_of, od_product_of, .func (PySem.W.fnOf "product_of" "product_of" (defArgs s_product_of) (defBody s_product_of) (defScope s_product_of) .none kV_product_of dc_product_of pm_product_of an_product_of cd_product_of ct_product_of), sl_product_of⟩)
    (c_product_of : PySem.W.codeIn K cd_product_of "product_of" = true) (kp_product_of : PySem.W.keepIn K (.ref ad_product_of) = true)
    {ad_count_in_shape : Addr} {od_count_in_shape an_count_in_shape : Option Addr} {sl_count_in_shape : Array (Option Value)} {oc_count_in_shape kV_count_in_shape dc_count_in_shape pm_count_in_shape cd_count_in_shape ct_count_in_shape : Value}
    (a_count_in_shape : PySem.W.nsIn K mainGlobals "count_in_shape" = some (some (.ref ad_count_in_shape))) (l_count_in_shape : K.lookup ad_count_in_shape = some ⟨oc_count_in_shape, od_count_in_shape, .func (PySem.W.fnOf "count_in_shape" "count_in_shape" (defArgs s_count_in_shape) (defBody s_count_in_shape) (defScope s_count_in_shape) .none kV_count_in_shape dc_count_in_shape pm_count_in_shape an_count_in_shape cd_count_in_shape ct_count_in_shape), sl_count_in_shape⟩)
    (c_count_in_shape : PySem.W.codeIn K cd_count_in_shape "count_in_shape" = true) (kp_count_in_shape : PySem.W.keepIn K (.ref ad_count_in_shape) = true)
    {ad_law_pool : Addr} {od_law_pool an_law_pool : Option Addr} {sl_law_pool : Array (Option Value)} {oc_law_pool kV_law_pool dc_law_pool pm_law_pool cd_law_pool ct_law_pool : Value}
    (a_law_pool : PySem.W.nsIn K mainGlobals "_law_pool" = some (some (.ref ad_law_pool))) (l_law_pool : K.lookup ad_law_pool = some ⟨oc_law_pool, od_law_pool, .func (PySem.W.fnOf "_law_pool" "_law_pool" (defArgs s_law_pool) (defBody s_law_pool) (defScope s_law_pool) .none kV_law_pool dc_law_pool pm_law_pool an_law_pool cd_law_pool ct_law_pool), sl_law_pool⟩)
    (c_law_pool : PySem.W.codeIn K cd_law_pool "_law_pool" = true) (kp_law_pool : PySem.W.keepIn K (.ref ad_law_pool) = true)
    {ad_law_draw : Addr} {od_law_draw an_law_draw : Option Addr} {sl_law_draw : Array (Option Value)} {oc_law_draw kV_law_draw dc_law_draw pm_law_draw cd_law_draw ct_law_draw : Value}
    (a_law_draw : PySem.W.nsIn K mainGlobals "_law_draw" = some (some (.ref ad_law_draw))) (l_law_draw : K.lookup ad_law_draw = some ⟨oc_law_draw, od_law_draw, .func (PySem.W.fnOf "_law_draw" "_law_draw" (defArgs s_law_draw) (defBody s_law_draw) (defScope s_law_draw) .none kV_law_draw dc_law_draw pm_law_draw an_law_draw cd_law_draw ct_law_draw), sl_law_draw⟩)
    (c_law_draw : PySem.W.codeIn K cd_law_draw "_law_draw" = true) (kp_law_draw : PySem.W.keepIn K (.ref ad_law_draw) = true)
    {ad_law_signs : Addr} {od_law_signs an_law_signs : Option Addr} {sl_law_signs : Array (Option Value)} {oc_law_signs kV_law_signs dc_law_signs pm_law_signs cd_law_signs ct_law_signs : Value}
    (a_law_signs : PySem.W.nsIn K mainGlobals "_law_signs" = some (some (.ref ad_law_signs))) (l_law_signs : K.lookup ad_law_signs = some ⟨oc_law_signs, od_law_signs, .func (PySem.W.fnOf "_law_signs" "_law_signs" (defArgs s_law_signs) (defBody s_law_signs) (defScope s_law_signs) .none kV_law_signs dc_law_signs pm_law_signs an_law_signs cd_law_signs ct_law_signs), sl_law_signs⟩)
    (c_law_signs : PySem.W.codeIn K cd_law_signs "_law_signs" = true) (kp_law_signs : PySem.W.keepIn K (.ref ad_law_signs) = true)
    {ad_law_ways : Addr} {od_law_ways an_law_ways : Option Addr} {sl_law_ways : Array (Option Value)} {oc_law_ways kV_law_ways dc_law_ways pm_law_ways cd_law_ways ct_law_ways : Value}
    (a_law_ways : PySem.W.nsIn K mainGlobals "_law_ways" = some (some (.ref ad_law_ways))) (l_law_ways : K.lookup ad_law_ways = some ⟨oc_law_ways, od_law_ways, .func (PySem.W.fnOf "_law_ways" "_law_ways" (defArgs s_law_ways) (defBody s_law_ways) (defScope s_law_ways) .none kV_law_ways dc_law_ways pm_law_ways an_law_ways cd_law_ways ct_law_ways), sl_law_ways⟩)
    (c_law_ways : PySem.W.codeIn K cd_law_ways "_law_ways" = true) (kp_law_ways : PySem.W.keepIn K (.ref ad_law_ways) = true)
    {ad_law_every : Addr} {od_law_every an_law_every : Option Addr} {sl_law_every : Array (Option Value)} {oc_law_every kV_law_every dc_law_every pm_law_every cd_law_every ct_law_every : Value}
    (a_law_every : PySem.W.nsIn K mainGlobals "_law_every" = some (some (.ref ad_law_every))) (l_law_every : K.lookup ad_law_every = some ⟨oc_law_every, od_law_every, .func (PySem.W.fnOf "_law_every" "_law_every" (defArgs s_law_every) (defBody s_law_every) (defScope s_law_every) .none kV_law_every dc_law_every pm_law_every an_law_every cd_law_every ct_law_every), sl_law_every⟩)
    (c_law_every : PySem.W.codeIn K cd_law_every "_law_every" = true) (kp_law_every : PySem.W.keepIn K (.ref ad_law_every) = true)
    {ad_law_right : Addr} {od_law_right an_law_right : Option Addr} {sl_law_right : Array (Option Value)} {oc_law_right kV_law_right dc_law_right pm_law_right cd_law_right ct_law_right : Value}
    (a_law_right : PySem.W.nsIn K mainGlobals "_law_right" = some (some (.ref ad_law_right))) (l_law_right : K.lookup ad_law_right = some ⟨oc_law_right, od_law_right, .func (PySem.W.fnOf "_law_right" "_law_right" (defArgs s_law_right) (defBody s_law_right) (defScope s_law_right) .none kV_law_right dc_law_right pm_law_right an_law_right cd_law_right ct_law_right), sl_law_right⟩)
    (c_law_right : PySem.W.codeIn K cd_law_right "_law_right" = true) (kp_law_right : PySem.W.keepIn K (.ref ad_law_right) = true)
    {ad_law : Addr} {od_law an_law : Option Addr} {sl_law : Array (Option Value)} {oc_law kV_law dc_law pm_law cd_law ct_law : Value}
    (a_law : PySem.W.nsIn K mainGlobals "law" = some (some (.ref ad_law))) (l_law : K.lookup ad_law = some ⟨oc_law, od_law, .func (PySem.W.fnOf "law" "law" (defArgs s_law) (defBody s_law) (defScope s_law) .none kV_law dc_law pm_law an_law cd_law ct_law), sl_law⟩)
    (c_law : PySem.W.codeIn K cd_law "law" = true) (kp_law : PySem.W.keepIn K (.ref ad_law) = true)
    (z_isinstance : PySem.W.nsIn K mainGlobals "isinstance" = some none)
    (z_str : PySem.W.nsIn K mainGlobals "str" = some none)
    (z_len : PySem.W.nsIn K mainGlobals "len" = some none)
    (z_max : PySem.W.nsIn K mainGlobals "max" = some none)
    (z_range : PySem.W.nsIn K mainGlobals "range" = some none)
    (z_int : PySem.W.nsIn K mainGlobals "int" = some none)
    (z_repr : PySem.W.nsIn K mainGlobals "repr" = some none)
    (z_min : PySem.W.nsIn K mainGlobals "min" = some none)
    {u_MOST_SIGNS : Value} (v_MOST_SIGNS : PySem.W.nsIn K mainGlobals "MOST_SIGNS" = some (some u_MOST_SIGNS)) (r_MOST_SIGNS : RelV (.int 200) u_MOST_SIGNS)
    {u_START : Value} (v_START : PySem.W.nsIn K mainGlobals "START" = some (some u_START)) (r_START : RelV (.str "+") u_START)
    {u_MOST_STARTS : Value} (v_MOST_STARTS : PySem.W.nsIn K mainGlobals "MOST_STARTS" = some (some u_MOST_STARTS)) (r_MOST_STARTS : RelV (.int 100) u_MOST_STARTS)
    {u_STOP : Value} (v_STOP : PySem.W.nsIn K mainGlobals "STOP" = some (some u_STOP)) (r_STOP : RelV (.str "-") u_STOP)
    {e_InvalidShapeError : Addr} (ea_InvalidShapeError : PySem.W.nsIn K mainGlobals "InvalidShapeError" = some (some (.ref e_InvalidShapeError))) (eq_InvalidShapeError : PySem.W.excIn K e_InvalidShapeError [.type "ValueError", .type "Exception", .type "BaseException", .type "object"] "ValueError.__new__" = true)
    (ek_InvalidShapeError : PySem.W.keepIn K (.ref e_InvalidShapeError) = true) (es_InvalidShapeError : PySem.W.subIn K (.ref e_InvalidShapeError) (.type "BaseException") = some true) (et_InvalidShapeError : PySem.W.typeIn K (.ref e_InvalidShapeError) = some (.type "type"))
    (base : Heap) : Cal P w K mg base 5 "law" ["script"] k_law f_law :=
  all_ok (funC_mk KX G a_is_shape l_is_shape c_is_shape kp_is_shape (fun _ _ _ _ _ _ us hl => match us, hl with | [_], _ => rfl) (fun _ _ _ _ _ _ us hl => match us, hl with | [_], _ => rfl))
    (funC_mk KX G a_check_shape l_check_shape c_check_shape kp_check_shape (fun _ _ _ _ _ _ us hl => match us, hl with | [_], _ => rfl) (fun _ _ _ _ _ _ us hl => match us, hl with | [_], _ => rfl))
    (funC_mk KX G a_choices_in l_choices_in c_choices_in kp_choices_in (fun _ _ _ _ _ _ us hl => match us, hl with | [_], _ => rfl) (fun _ _ _ _ _ _ us hl => match us, hl with | [_], _ => rfl))
    (funC_mk KX G a_product_of l_product_of c_product_of kp_product_of (fun _ _ _ _ _ _ us hl => match us, hl with | [_], _ => rfl) (fun _ _ _ _ _ _ us hl => match us, hl with | [_], _ => rfl))
    (funC_mk KX G a_count_in_shape l_count_in_shape c_count_in_shape kp_count_in_shape (fun _ _ _ _ _ _ us hl => match us, hl with | [_], _ => rfl) (fun _ _ _ _ _ _ us hl => match us, hl with | [_], _ => rfl))
    (funC_mk KX G a_law_pool l_law_pool c_law_pool kp_law_pool (fun _ _ _ _ _ _ us hl => match us, hl with | [_, _], _ => rfl) (fun _ _ _ _ _ _ us hl => match us, hl with | [_, _], _ => rfl))
    (funC_mk KX G a_law_draw l_law_draw c_law_draw kp_law_draw (fun _ _ _ _ _ _ us hl => match us, hl with | [_, _], _ => rfl) (fun _ _ _ _ _ _ us hl => match us, hl with | [_, _], _ => rfl))
    (funC_mk KX G a_law_signs l_law_signs c_law_signs kp_law_signs (fun _ _ _ _ _ _ us hl => match us, hl with | [_, _], _ => rfl) (fun _ _ _ _ _ _ us hl => match us, hl with | [_, _], _ => rfl))
    (funC_mk KX G a_law_ways l_law_ways c_law_ways kp_law_ways (fun _ _ _ _ _ _ us hl => match us, hl with | [_], _ => rfl) (fun _ _ _ _ _ _ us hl => match us, hl with | [_], _ => rfl))
    (funC_mk KX G a_law_every l_law_every c_law_every kp_law_every (fun _ _ _ _ _ _ us hl => match us, hl with | [_], _ => rfl) (fun _ _ _ _ _ _ us hl => match us, hl with | [_], _ => rfl))
    (funC_mk KX G a_law_right l_law_right c_law_right kp_law_right (fun _ _ _ _ _ _ us hl => match us, hl with | [_], _ => rfl) (fun _ _ _ _ _ _ us hl => match us, hl with | [_], _ => rfl))
    (funC_mk KX G a_law l_law c_law kp_law (fun _ _ _ _ _ _ us hl => match us, hl with | [_], _ => rfl) (fun _ _ _ _ _ _ us hl => match us, hl with | [_], _ => rfl))
    (PySem.W.mg_none_of KX G z_isinstance)
    (PySem.W.mg_none_of KX G z_str)
    (PySem.W.mg_none_of KX G z_len)
    (PySem.W.mg_none_of KX G z_max)
    (PySem.W.mg_none_of KX G z_range)
    (PySem.W.mg_none_of KX G z_int)
    (PySem.W.mg_none_of KX G z_repr)
    (PySem.W.mg_none_of KX G z_min)
    ⟨_, PySem.W.mg_of KX G v_MOST_SIGNS, r_MOST_SIGNS⟩
    ⟨_, PySem.W.mg_of KX G v_START, r_START⟩
    ⟨_, PySem.W.mg_of KX G v_MOST_STARTS, r_MOST_STARTS⟩
    ⟨_, PySem.W.mg_of KX G v_STOP, r_STOP⟩
    (excC_mk KX G ea_InvalidShapeError eq_InvalidShapeError ek_InvalidShapeError es_InvalidShapeError et_InvalidShapeError) base
end Law

namespace Law
open PySem L2 DL
local macro_rules | `(tactic| walk_at "ev") => `(tactic| simp (decide := true) only [ev_rdE, ev_xRd, ev_M_bind, ev_M_pure, ev_xC, ev_xVar, ev_x1, ev_x2, ev_x3, ev_xN, ev_aNil, ev_aCons, ev_sSeq, ev_sIf, ev_sSet, ev_sRet, ev_sDrop, ev_sNext, ev_sBr, ev_sCt, ev_sRetN, ev_sAug, ev_sPut, ev_sUnp, ev_sPar, ev_sPar3, ev_xLst, ev_xTup, ev_tB1, ev_tV1, ev_mAnd, ev_mOr, ev_mNot, ev_xAnd, ev_xOr, ev_xNot, ev_xIf, ev_xMut, ev_mutE, ev_gNm, ev_gTp, ev_gNl, ev_gCs, ev_iSeq, ev_iRange, ev_iFrz, ev_xCall, ev_callE, ev_sRaise, ev_xSl, ev_pNone, ev_pSome, ev_oAddI, ev_oSub, ev_oLt, ev_oLe, ev_oGt, ev_oGe, ev_oMulI, ev_oMod, ev_oDiv, ev_oPow, isT, rCount, peek, peeks, slotD, Sl.get, parE, par3E, isSlot, isIo_no, isIo_fz, isIo_ow, ev_sto, stoV, frz, frzs, truth, oAdd, oMul, oNeg, oLen, oMax, oMin, oAbs, oInt, iAdd, oIx, ownL, putL, finO, finF, outs, env0, fzs, argsD, ioR, putO, mAppend, mExtend, mPop, oList, oIsN, oNotN, oEq, oNe, sclD, ixN, PySem.sizeLine_eq, List.replicate_succ, List.replicate_zero, List.getElem?_cons_zero, List.getElem?_cons_succ, List.getElem?_nil, List.set_cons_zero, List.set_cons_succ, List.length_cons, List.length_nil, List.length_map, List.length_replicate, List.length_range, Option.map_some, Option.map_none, Nat.reduceAdd, Nat.reduceSub, Nat.reduceLT, Nat.reduceLeDiff, Nat.zero_add, Nat.add_zero, Int.reduceToNat, Int.reducePow, Int.reduceAdd, Int.reduceMul, Int.reduceSub, Int.reduceNeg, ↓reduceIte, ite_true, ite_false, if_true, if_false, decide_true, decide_false, Bool.and_true, Bool.true_and, Bool.false_and, Bool.and_false, Bool.not_true, Bool.not_false, Bool.or_true, Bool.true_or, Bool.false_or, Bool.or_false, Bool.and_self, Bool.or_self, Bool.false_eq_true, reduceCtorEq, List.cons_append, List.nil_append, List.append_nil, List.map_cons, List.map_nil, not_true_eq_false, not_false_eq_true, List.nodup_nil, List.nodup_cons, List.not_mem_nil, and_self, and_true, true_and, beq_self_eq_true, bne_self_eq_false, wipeE, *])
local macro_rules | `(tactic| walk_at "evs") => `(tactic| simp [ev_rdE, ev_xRd, ev_M_bind, ev_M_pure, ev_xC, ev_xVar, ev_x1, ev_x2, ev_x3, ev_xN, ev_aNil, ev_aCons, ev_sSeq, ev_sIf, ev_sSet, ev_sRet, ev_sDrop, ev_sNext, ev_sBr, ev_sCt, ev_sRetN, ev_sAug, ev_sPut, ev_sUnp, ev_sPar, ev_sPar3, ev_xLst, ev_xTup, ev_tB1, ev_tV1, ev_mAnd, ev_mOr, ev_mNot, ev_xAnd, ev_xOr, ev_xNot, ev_xIf, ev_xMut, ev_mutE, ev_gNm, ev_gTp, ev_gNl, ev_gCs, ev_iSeq, ev_iRange, ev_iFrz, ev_xCall, ev_callE, ev_sRaise, ev_xSl, ev_pNone, ev_pSome, ev_oAddI, ev_oSub, ev_oLt, ev_oLe, ev_oGt, ev_oGe, ev_oMulI, ev_oMod, ev_oDiv, ev_oPow, isT, rCount, peek, peeks, slotD, Sl.get, parE, par3E, isSlot, isIo_no, isIo_fz, isIo_ow, ev_sto, stoV, frz, frzs, truth, oAdd, oMul, oNeg, oLen, oMax, oMin, oAbs, oInt, iAdd, oIx, ownL, putL, finO, finF, outs, env0, fzs, argsD, ioR, putO, mAppend, mExtend, mPop, oList, oIsN, oNotN, oEq, oNe, sclD, ixN, PySem.sizeLine_eq, *])
def prodI (l : List Int) : Int := l.foldl (· * ·) 1
theorem foldl_mul (l : List Int) : ∀ a : Int, l.foldl (· * ·) a = a * l.foldl (· * ·) 1 := by
  induction l with
  | nil => intro a; simp
  | cons x r ih => intro a; rw [List.foldl_cons, ih, List.foldl_cons, ih (1 * x)]; rw [Int.one_mul, Int.mul_assoc]
theorem prodI_cons (x : Int) (l : List Int) : prodI (x :: l) = x * prodI l := by
  unfold prodI
  rw [List.foldl_cons, foldl_mul, Int.one_mul]
theorem product_ok (l : List Int) (hl : l.length ≤ 400) (hb : ∀ x ∈ l, x.natAbs < 2 ^ 9) : f_product_of [.lst (l.map D.int)] = .ok false (.int (prodI l)) [] := by
  unfold f_product_of
  rw [mkF_app _ _ _ _ rfl]
  unfold m_product_of
  have key := sFor_inv (it := iSeq (xVar 0)) (gt := gNm 2) (body := sAug 1 oMulI (xVar 2)) (e := [.fz (.lst (l.map D.int)), .fz (.int 1), .no]) (e0 := [.fz (.lst (l.map D.int)), .fz (.int 1), .no]) (l := l.map D.int) (by walk_at "ev")
    (fun r e => ∃ (q : List Int) (f : Int) (s : Sl), r = q.map D.int ∧ e = [.fz (.lst (l.map D.int)), .fz (.int f), s] ∧ (s = .no ∨ ∃ d, s = .fz d) ∧ q.length ≤ l.length ∧ (∀ x ∈ q, x.natAbs < 2 ^ 9) ∧ f * prodI q = prodI l ∧ f.natAbs < 2 ^ (9 * (l.length - q.length) + 1))
    ⟨l, 1, .no, rfl, rfl, .inl rfl, Nat.le_refl _, hb, Int.one_mul _, by rw [Nat.sub_self]; decide⟩
    (fun d r e ⟨q, f, s, h1, h2, h3, h4, h5, h6, h7⟩ => by
      cases q with
      | nil => cases h1
      | cons x q =>
        obtain ⟨rfl, rfl⟩ := List.cons.inj h1
        subst h2
        have hx := h5 x List.mem_cons_self
        have hc : cMul f x = true := cMul_w h7 hx (by omega) (by omega) (by decide)
        have g : gNm 2 (.int x) [.fz (.lst (l.map D.int)), .fz (.int f), s] = some [.fz (.lst (l.map D.int)), .fz (.int f), .fz (.int x)] := by
          rcases h3 with rfl | ⟨d, rfl⟩ <;> rfl
        refine ⟨_, g, [.fz (.lst (l.map D.int)), .fz (.int (f * x)), .fz (.int x)], .inl (by walk_at "ev"), q, f * x, _, rfl, rfl, .inr ⟨_, rfl⟩, by simp at h4; omega, fun y m => h5 y (List.mem_cons_of_mem _ m), ?_, ?_⟩
        · rw [← h6, prodI_cons, Int.mul_assoc]
        · rw [Int.natAbs_mul]
          have e : 9 * (l.length - q.length) + 1 = (9 * (l.length - (x :: q).length) + 1) + 9 := by
            simp at h4 ⊢; omega
          rw [e, Nat.pow_add]
          exact Nat.mul_lt_mul'' h7 hx)
  obtain ⟨e', k1, q, f, s, h1, h2, h3, h4, h5, h6, h7⟩ := key
  cases q with
  | cons x q => cases h1
  | nil =>
    subst h2
    have e : f = prodI l := by rw [← h6]; unfold prodI; simp
    subst e
    clear h1 h3 h4 h5 h6 h7 hb
    walk_at "ev"

/-! ### texts of signs -/
def sgc (b : Bool) : Nat := if b = true then 43 else 45
def sgn (b : Bool) : Str := ⟨#[sgc b]⟩
def sg (l : List Bool) : Str := ⟨(l.map sgc).toArray⟩
abbrev dS (b : Bool) : D := .str (sgn b)
theorem sg_len (l : List Bool) : (sg l).length = l.length := by
  show (l.map sgc).toArray.size = _
  rw [List.size_toArray, List.length_map]
theorem sg_app (l m : List Bool) : sg l ++ sg m = sg (l ++ m) := by
  show (⟨(l.map sgc).toArray ++ (m.map sgc).toArray⟩ : Str) = ⟨((l ++ m).map sgc).toArray⟩
  rw [List.map_append]
  simp
theorem plus_eq : ("+" : Str) = sg [true] := by rfl
theorem minus_eq : ("-" : Str) = sg [false] := by rfl
theorem none_eq : ("" : Str) = sg [] := by rfl
theorem sg_signs (l : List Bool) : signs (sg l) = l.map dS := by
  unfold signs
  show ((l.map sgc).toArray.toList).map _ = _
  rw [List.toList_toArray, List.map_map]
  rfl
theorem eq_plus (b : Bool) : (sgn b == ("+" : Str)) = b := by cases b <;> rfl
theorem eq_minus (b : Bool) : (sgn b == ("-" : Str)) = !b := by cases b <;> rfl
theorem isi_str (s : Str) : oIsi "str" (.str s) = some (.val (.bl true)) := by rfl
theorem sg_cut (l : List Bool) (k : Nat) : cutS (sg l) none (some (k : Int)) = sg (l.take k) := by
  unfold cutS
  rw [HT.sIx_nat, HT.sIx_none, sg_len]
  show (⟨((((l.map sgc).toArray.toList).drop 0).take (min k l.length - 0)).toArray⟩ : Str) = _
  rw [List.toList_toArray, List.drop_zero, Nat.sub_zero, ← List.map_take]
  congr 3
  by_cases h : k ≤ l.length
  · rw [Nat.min_eq_left h]
  · rw [Nat.min_eq_right (by omega), List.take_of_length_le (Nat.le_refl _), List.take_of_length_le (by omega)]
/-! ### shapes -/
/-- from r running patches, no stop without a running one -/
def good : Nat → List Bool → Bool
  | _, [] => true
  | r, true :: l => good (r + 1) l
  | 0, false :: _ => false
  | r + 1, false :: l => good r l
def chs : Nat → List Bool → List Int
  | _, [] => []
  | r, true :: l => chs (r + 1) l
  | r, false :: l => (r : Int) :: chs (r - 1) l
theorem chs_len : ∀ (l : List Bool) (r : Nat), (chs r l).length ≤ l.length
  | [], _ => Nat.le_refl _
  | true :: l, r => Nat.le_succ_of_le (chs_len l (r + 1))
  | false :: l, r => Nat.succ_le_succ (chs_len l (r - 1))
theorem chs_mem : ∀ (l : List Bool) (r : Nat) (x : Int), x ∈ chs r l → 0 ≤ x ∧ x ≤ r + l.length
  | [], _, _, h => nomatch h
  | true :: l, r, x, h => by
    have := chs_mem l (r + 1) x h
    simp only [List.length_cons]
    omega
  | false :: l, r, x, h => by
    simp only [List.length_cons]
    rcases List.mem_cons.mp h with rfl | h
    · omega
    · have := chs_mem l (r - 1) x h
      omega
def nxt (r : Nat) (b : Bool) : Nat := if b = true then r + 1 else r - 1
theorem iter_ok (l : List Bool) (h : l.length ≤ 1000) (e : Ev) (e0 : e[0]? = some (.fz (.str (sg l)))) : iSeq (xVar 0) e = .ok (l.map dS) e := by
  have hz : (sg l).length ≤ sizeLine := by rw [sg_len, sizeLine_eq]; omega
  have hs := sg_signs l
  walk_at "ev"
theorem shape_loop (l : List Bool) (hl : l.length ≤ 1000) (hg : good 0 l = true) : ∃ r s', Lz s' ∧ sFor (iSeq (xVar 0)) (gNm 2) (sSeq (sIf (tB1 (x2 oNotIn (xVar 2) (xTup (aCons (xC (.str "+")) (aCons (xC (.str "-")) (aNil))))))
    (sRet (xC (.bl false)))
    (sNext))
    (sSeq (sAug 1 iAdd (xIf (tB1 (x2 oEq (xVar 2) (xC (.str "+")))) (xC (.int 1)) (x1 oNeg (xC (.int 1)))))
    (sIf (tB1 (x2 oLt (xVar 1) (xC (.int 0))))
    (sRet (xC (.bl false)))
    (sNext)))) [.fz (.str (sg l)), .fz (.int 0), .no] = .nx [.fz (.str (sg l)), .fz (.int r), s'] := by
  obtain ⟨s', l', k1, _⟩ := sFor_fold (it := iSeq (xVar 0)) (gt := gNm 2) (body := (sSeq (sIf (tB1 (x2 oNotIn (xVar 2) (xTup (aCons (xC (.str "+")) (aCons (xC (.str "-")) (aNil))))))
    (sRet (xC (.bl false)))
    (sNext))
    (sSeq (sAug 1 iAdd (xIf (tB1 (x2 oEq (xVar 2) (xC (.str "+")))) (xC (.int 1)) (x1 oNeg (xC (.int 1)))))
    (sIf (tB1 (x2 oLt (xVar 1) (xC (.int 0))))
    (sRet (xC (.bl false)))
    (sNext))))) dS (fun (r : Nat) s => [.fz (.str (sg l)), .fz (.int r), s]) nxt (fun r q => good r q = true) (e := [.fz (.str (sg l)), .fz (.int 0), .no]) (q := l) (a := 0)
    (iter_ok l hl _ rfl)
    (fun r s b lz => by rcases lz with rfl | ⟨d, rfl⟩ <;> rfl)
    (fun r b q h => by
      have hn : oNotIn (.str (sgn b)) (.tup [.str "+", .str "-"]) = some (.val (.bl false)) := by cases b <;> rfl
      have he := eq_plus b
      cases b with
      | true =>
        refine ⟨?_, h⟩
        have h0 : ¬ ((r : Int) + 1 < 0) := by omega
        have h1 : ((nxt r true : Nat) : Int) = (r : Int) + 1 := by simp [nxt]
        clear h
        walk_at "ev"
      | false =>
        cases r with
        | zero => cases h
        | succ r =>
          refine ⟨?_, h⟩
          have h0 : ¬ (((r + 1 : Nat) : Int) + -1 < 0) := by omega
          have h1 : ((nxt (r + 1) false : Nat) : Int) = ((r + 1 : Nat) : Int) + -1 := by simp [nxt]; omega
          clear h
          walk_at "ev")
    hg
  exact ⟨_, s', l', k1⟩
end Law

namespace Law
open PySem L2 DL
local macro_rules | `(tactic| walk_at "ev") => `(tactic| simp (decide := true) only [ev_rdE, ev_xRd, ev_M_bind, ev_M_pure, ev_xC, ev_xVar, ev_x1, ev_x2, ev_x3, ev_xN, ev_aNil, ev_aCons, ev_sSeq, ev_sIf, ev_sSet, ev_sRet, ev_sDrop, ev_sNext, ev_sBr, ev_sCt, ev_sRetN, ev_sAug, ev_sPut, ev_sUnp, ev_sPar, ev_sPar3, ev_xLst, ev_xTup, ev_tB1, ev_tV1, ev_mAnd, ev_mOr, ev_mNot, ev_xAnd, ev_xOr, ev_xNot, ev_xIf, ev_xMut, ev_mutE, ev_gNm, ev_gTp, ev_gNl, ev_gCs, ev_iSeq, ev_iRange, ev_iFrz, ev_xCall, ev_callE, ev_sRaise, ev_xSl, ev_pNone, ev_pSome, ev_oAddI, ev_oSub, ev_oLt, ev_oLe, ev_oGt, ev_oGe, ev_oMulI, ev_oMod, ev_oDiv, ev_oPow, isT, rCount, peek, peeks, slotD, Sl.get, parE, par3E, isSlot, isIo_no, isIo_fz, isIo_ow, ev_sto, stoV, frz, frzs, truth, oAdd, oMul, oNeg, oLen, oMax, oMin, oAbs, oInt, iAdd, oIx, ownL, putL, finO, finF, outs, env0, fzs, argsD, ioR, putO, mAppend, mExtend, mPop, oList, oIsN, oNotN, oEq, oNe, sclD, ixN, PySem.sizeLine_eq, List.replicate_succ, List.replicate_zero, List.getElem?_cons_zero, List.getElem?_cons_succ, List.getElem?_nil, List.set_cons_zero, List.set_cons_succ, List.length_cons, List.length_nil, List.length_map, List.length_replicate, List.length_range, Option.map_some, Option.map_none, Nat.reduceAdd, Nat.reduceSub, Nat.reduceLT, Nat.reduceLeDiff, Nat.zero_add, Nat.add_zero, Int.reduceToNat, Int.reducePow, Int.reduceAdd, Int.reduceMul, Int.reduceSub, Int.reduceNeg, ↓reduceIte, ite_true, ite_false, if_true, if_false, decide_true, decide_false, Bool.and_true, Bool.true_and, Bool.false_and, Bool.and_false, Bool.not_true, Bool.not_false, Bool.or_true, Bool.true_or, Bool.false_or, Bool.or_false, Bool.and_self, Bool.or_self, Bool.false_eq_true, reduceCtorEq, List.cons_append, List.nil_append, List.append_nil, List.map_cons, List.map_nil, not_true_eq_false, not_false_eq_true, List.nodup_nil, List.nodup_cons, List.not_mem_nil, and_self, and_true, true_and, beq_self_eq_true, bne_self_eq_false, wipeE, *])
local macro_rules | `(tactic| walk_at "evs") => `(tactic| simp [ev_rdE, ev_xRd, ev_M_bind, ev_M_pure, ev_xC, ev_xVar, ev_x1, ev_x2, ev_x3, ev_xN, ev_aNil, ev_aCons, ev_sSeq, ev_sIf, ev_sSet, ev_sRet, ev_sDrop, ev_sNext, ev_sBr, ev_sCt, ev_sRetN, ev_sAug, ev_sPut, ev_sUnp, ev_sPar, ev_sPar3, ev_xLst, ev_xTup, ev_tB1, ev_tV1, ev_mAnd, ev_mOr, ev_mNot, ev_xAnd, ev_xOr, ev_xNot, ev_xIf, ev_xMut, ev_mutE, ev_gNm, ev_gTp, ev_gNl, ev_gCs, ev_iSeq, ev_iRange, ev_iFrz, ev_xCall, ev_callE, ev_sRaise, ev_xSl, ev_pNone, ev_pSome, ev_oAddI, ev_oSub, ev_oLt, ev_oLe, ev_oGt, ev_oGe, ev_oMulI, ev_oMod, ev_oDiv, ev_oPow, isT, rCount, peek, peeks, slotD, Sl.get, parE, par3E, isSlot, isIo_no, isIo_fz, isIo_ow, ev_sto, stoV, frz, frzs, truth, oAdd, oMul, oNeg, oLen, oMax, oMin, oAbs, oInt, iAdd, oIx, ownL, putL, finO, finF, outs, env0, fzs, argsD, ioR, putO, mAppend, mExtend, mPop, oList, oIsN, oNotN, oEq, oNe, sclD, ixN, PySem.sizeLine_eq, *])

theorem count_sg (b : Bool) : ∀ l : List Bool, Txt.count (sg l) (sgn b) = ((l.count b : Nat) : Int) := by
  have go : ∀ l : List Bool, PyProof.Rows.cnt (sgc b) (l.map sgc) = ((l.count b : Nat) : Int) := by
    intro l
    induction l with
    | nil => rfl
    | cons a r ih =>
      rw [List.map_cons, PyProof.Rows.cnt_cons, ih, List.count_cons]
      cases a <;> cases b <;> simp [sgc] <;> omega
  intro l
  show Txt.count (sg l) ⟨#[sgc b]⟩ = _
  rw [PyProof.Rows.count_cnt]
  show PyProof.Rows.cnt (sgc b) ((l.map sgc).toArray.toList) = _
  rw [List.toList_toArray]
  exact go l
theorem count_p (l : List Bool) : Txt.count (sg l) "+" = ((l.count true : Nat) : Int) := count_sg true l
theorem count_m (l : List Bool) : Txt.count (sg l) "-" = ((l.count false : Nat) : Int) := count_sg false l
structure Shp (l : List Bool) : Prop where
  len : l.length ≤ 200
  st : l.count true ≤ 100
  gd : good 0 l = true
theorem is_shape_ok {l : List Bool} (h : Shp l) : f_is_shape [.str (sg l)] = .ok false (.bl true) [] := by
  obtain ⟨h1, h2, h3⟩ := h
  obtain ⟨r, s', l', k1⟩ := shape_loop l (by omega) h3
  unfold f_is_shape
  rw [mkF_app _ _ _ _ rfl]
  unfold m_is_shape
  have i1 := isi_str (sg l)
  have hz : (sg l).length ≤ 16777216 := by rw [sg_len]; omega
  have n1 : ¬ (200 < ((sg l).length : Int)) := by rw [sg_len]; omega
  have n2 : ¬ (100 < Txt.count (sg l) "+") := by rw [count_p]; omega
  clear h1 h2 h3 l'
  walk_at "ev"
theorem check_shape_ok {l : List Bool} (h : Shp l) : f_check_shape [.str (sg l)] = .ok false .non [] := by
  have i1 := is_shape_ok h
  unfold f_check_shape
  rw [mkF_app _ _ _ _ rfl]
  unfold m_check_shape
  clear h
  walk_at "ev"
def cstep (p : List Int × Nat) (b : Bool) : List Int × Nat := if b = true then (p.1, p.2 + 1) else (p.1 ++ [(p.2 : Int)], p.2 - 1)
theorem cstep_all : ∀ (l : List Bool) (f : List Int) (r : Nat), (l.foldl cstep (f, r)).1 = f ++ chs r l
  | [], f, r => (List.append_nil f).symm
  | true :: l, f, r => cstep_all l f (r + 1)
  | false :: l, f, r => by
    show (l.foldl cstep (f ++ [(r : Int)], r - 1)).1 = _
    rw [cstep_all l, List.append_assoc]
    rfl
abbrev bCh : MS := (sIf (tB1 (x2 oEq (xVar 3) (xC (.str "+"))))
    (sAug 2 iAdd (xC (.int 1)))
    (sSeq (sDrop (xMut 1 mAppend (aCons (xVar 2) (aNil))))
    (sAug 2 oSub (xC (.int 1)))))
theorem choices_ok {l : List Bool} (hl : l.length ≤ 200) (hg : good 0 l = true) : f_choices_in [.str (sg l)] = .ok true (.lst ((chs 0 l).map D.int)) [] := by
  obtain ⟨s', l', k1, _⟩ := sFor_fold (it := iSeq (xVar 0)) (gt := gNm 3) (body := bCh) dS (fun (p : List Int × Nat) s => [.fz (.str (sg l)), .ow (.lst (p.1.map D.int)), .fz (.int p.2), s]) cstep (fun p q => good p.2 q = true ∧ p.1.length + q.length ≤ 1000)
    (e := [.fz (.str (sg l)), .ow (.lst []), .fz (.int 0), .no]) (q := l) (a := ([], 0))
    (iter_ok l (by omega) _ rfl)
    (fun r s b lz => by rcases lz with rfl | ⟨d, rfl⟩ <;> rfl)
    (fun p b q ⟨h, hz⟩ => by
      obtain ⟨f, r⟩ := p
      have he := eq_plus b
      simp only [List.length_cons] at hz
      cases b with
      | true =>
        refine ⟨?_, h, by show f.length + q.length ≤ 1000; omega⟩
        show _ = F.nx [.fz (.str (sg l)), .ow (.lst (f.map D.int)), .fz (.int ((r : Int) + 1)), .fz (dS true)]
        clear h hz
        walk_at "ev"
      | false =>
        cases r with
        | zero => cases h
        | succ r =>
          refine ⟨?_, h, by show (f ++ [((r + 1 : Nat) : Int)]).length + q.length ≤ 1000; rw [List.length_append, List.length_singleton]; omega⟩
          have e1 : ((r + 1 : Nat) : Int) - 1 = (r : Int) := by omega
          have hz2 : f.length < 16777216 := by omega
          have e2 : (f ++ [((r + 1 : Nat) : Int)]).map D.int = f.map D.int ++ [.int ((r + 1 : Nat) : Int)] := by rw [List.map_append]; rfl
          show _ = F.nx [.fz (.str (sg l)), .ow (.lst ((f ++ [((r + 1 : Nat) : Int)]).map D.int)), .fz (.int (r : Int)), .fz (dS false)]
          rw [e2]
          clear h hz e2
          walk_at "ev")
    ⟨hg, by show 0 + l.length ≤ 1000; omega⟩
  have ce := cstep_all l [] 0
  rw [List.nil_append] at ce
  rw [ce] at k1
  unfold f_choices_in
  rw [mkF_app _ _ _ _ rfl]
  unfold m_choices_in
  clear ce l' hl hg
  walk_at "ev"
def waysI (l : List Bool) : Int := prodI (chs 0 l)
theorem count_ok {l : List Bool} (h : Shp l) : f_count_in_shape [.str (sg l)] = .ok false (.int (waysI l)) [] := by
  have i1 := check_shape_ok h
  have i2 := choices_ok (by have := h.len; omega) h.gd
  have hb : ∀ x ∈ chs 0 l, x.natAbs < 2 ^ 9 := fun x m => by
    have := chs_mem l 0 x m
    have := h.len
    omega
  have i3 := product_ok (chs 0 l) (by have := chs_len l 0; have := h.len; omega) hb
  unfold f_count_in_shape
  rw [mkF_app _ _ _ _ rfl]
  unfold m_count_in_shape waysI
  clear h hb
  walk_at "ev"
def wstep (p : Int × Nat) (b : Bool) : Int × Nat := if b = true then (p.1, p.2 + 1) else (p.1 * p.2, p.2 - 1)
theorem wstep_all : ∀ (l : List Bool) (w : Int) (r : Nat), (l.foldl wstep (w, r)).1 = w * prodI (chs r l)
  | [], w, r => by show w = w * prodI []; unfold prodI; simp
  | true :: l, w, r => wstep_all l w (r + 1)
  | false :: l, w, r => by
    show (l.foldl wstep (w * r, r - 1)).1 = w * prodI ((r : Int) :: chs (r - 1) l)
    rw [wstep_all l, prodI_cons, Int.mul_assoc]
abbrev bWays : MS := (sSeq (sIf (tB1 (x2 oEq (xVar 3) (xC (.str "-"))))
    (sSet 1 (x2 oMul (xVar 1) (xVar 2)))
    (sNext))
    (sSet 2 (x2 oAdd (xVar 2) (x2 oIx (xLst (aCons (xC (.int 1)) (aCons (x1 oNeg (xC (.int 1))) (aNil)))) (xN oInt (aCons (x2 oEq (xVar 3) (xC (.str "-"))) (aNil)))))))
theorem ways_ok {l : List Bool} (hl : l.length ≤ 200) (hg : good 0 l = true) : f_law_ways [.str (sg l)] = .ok false (.int (waysI l)) [] := by
  obtain ⟨s', l', k1, _⟩ := sFor_fold (it := iSeq (xVar 0)) (gt := gNm 3) (body := bWays) dS (fun (p : Int × Nat) s => [.fz (.str (sg l)), .fz (.int p.1), .fz (.int p.2), s]) wstep (fun p q => good p.2 q = true ∧ p.2 + q.length ≤ 400 ∧ p.1.natAbs < 2 ^ (9 * (400 - q.length) + 1) ∧ q.length ≤ 400)
    (e := [.fz (.str (sg l)), .fz (.int 1), .fz (.int 0), .no]) (q := l) (a := (1, 0))
    (iter_ok l (by omega) _ rfl)
    (fun r s b lz => by rcases lz with rfl | ⟨d, rfl⟩ <;> rfl)
    (fun p b q ⟨h, hz, hw, hq⟩ => by
      obtain ⟨w, r⟩ := p
      have he := eq_minus b
      simp only [List.length_cons] at hz hw hq
      have a0 : atD [.int 1, .int (-1)] 0 = some (.int 1) := rfl
      have a1 : atD [.int 1, .int (-1)] 1 = some (.int (-1)) := rfl
      cases b with
      | true =>
        refine ⟨?_, h, by show r + 1 + q.length ≤ 400; omega, Nat.lt_of_lt_of_le hw (Nat.pow_le_pow_right (by decide) (by omega)), by omega⟩
        show _ = F.nx [.fz (.str (sg l)), .fz (.int w), .fz (.int ((r : Int) + 1)), .fz (dS true)]
        clear h hz hw
        walk_at "ev"
      | false =>
        cases r with
        | zero => cases h
        | succ r =>
          have hr : (((r + 1 : Nat) : Int)).natAbs < 2 ^ 9 := by omega
          have cm : cMul w ((r + 1 : Nat) : Int) = true := cMul_w hw hr (by omega) (by omega) (by decide)
          refine ⟨?_, h, by show r + q.length ≤ 400; omega, ?_, by omega⟩
          · have e1 : ((r + 1 : Nat) : Int) + -1 = (r : Int) := by omega
            show _ = F.nx [.fz (.str (sg l)), .fz (.int (w * ((r + 1 : Nat) : Int))), .fz (.int (r : Int)), .fz (dS false)]
            clear h hz hw hr
            walk_at "ev"
          · show (w * ((r + 1 : Nat) : Int)).natAbs < _
            have e : 9 * (400 - q.length) + 1 = (9 * (400 - (q.length + 1)) + 1) + 9 := by omega
            rw [Int.natAbs_mul, e, Nat.pow_add]
            exact Nat.mul_lt_mul'' hw hr)
    ⟨hg, by show 0 + l.length ≤ 400; omega, Nat.lt_of_lt_of_le (show Int.natAbs 1 < 2 ^ 1 by decide) (Nat.pow_le_pow_right (by decide) (by omega)), by omega⟩
  have ce := wstep_all l 1 0
  rw [Int.one_mul] at ce
  rw [ce] at k1
  unfold f_law_ways
  rw [mkF_app _ _ _ _ rfl]
  unfold m_law_ways waysI
  clear ce l' hl hg
  walk_at "ev"
end Law

namespace Law
open PySem L2 DL
local macro_rules | `(tactic| walk_at "ev") => `(tactic| simp (decide := true) only [ev_rdE, ev_xRd, ev_M_bind, ev_M_pure, ev_xC, ev_xVar, ev_x1, ev_x2, ev_x3, ev_xN, ev_aNil, ev_aCons, ev_sSeq, ev_sIf, ev_sSet, ev_sRet, ev_sDrop, ev_sNext, ev_sBr, ev_sCt, ev_sRetN, ev_sAug, ev_sPut, ev_sUnp, ev_sPar, ev_sPar3, ev_xLst, ev_xTup, ev_tB1, ev_tV1, ev_mAnd, ev_mOr, ev_mNot, ev_xAnd, ev_xOr, ev_xNot, ev_xIf, ev_xMut, ev_mutE, ev_gNm, ev_gTp, ev_gNl, ev_gCs, ev_iSeq, ev_iRange, ev_iFrz, ev_xCall, ev_callE, ev_sRaise, ev_xSl, ev_pNone, ev_pSome, ev_oAddI, ev_oSub, ev_oLt, ev_oLe, ev_oGt, ev_oGe, ev_oMulI, ev_oMod, ev_oDiv, ev_oPow, isT, rCount, peek, peeks, slotD, Sl.get, parE, par3E, isSlot, isIo_no, isIo_fz, isIo_ow, ev_sto, stoV, frz, frzs, truth, oAdd, oMul, oNeg, oLen, oMax, oMin, oAbs, oInt, iAdd, oIx, ownL, putL, finO, finF, outs, env0, fzs, argsD, ioR, putO, mAppend, mExtend, mPop, oList, oIsN, oNotN, oEq, oNe, sclD, ixN, PySem.sizeLine_eq, List.replicate_succ, List.replicate_zero, List.getElem?_cons_zero, List.getElem?_cons_succ, List.getElem?_nil, List.set_cons_zero, List.set_cons_succ, List.length_cons, List.length_nil, List.length_map, List.length_replicate, List.length_range, Option.map_some, Option.map_none, Nat.reduceAdd, Nat.reduceSub, Nat.reduceLT, Nat.reduceLeDiff, Nat.zero_add, Nat.add_zero, Int.reduceToNat, Int.reducePow, Int.reduceAdd, Int.reduceMul, Int.reduceSub, Int.reduceNeg, ↓reduceIte, ite_true, ite_false, if_true, if_false, decide_true, decide_false, Bool.and_true, Bool.true_and, Bool.false_and, Bool.and_false, Bool.not_true, Bool.not_false, Bool.or_true, Bool.true_or, Bool.false_or, Bool.or_false, Bool.and_self, Bool.or_self, Bool.false_eq_true, reduceCtorEq, List.cons_append, List.nil_append, List.append_nil, List.map_cons, List.map_nil, not_true_eq_false, not_false_eq_true, List.nodup_nil, List.nodup_cons, List.not_mem_nil, and_self, and_true, true_and, beq_self_eq_true, bne_self_eq_false, wipeE, *])
local macro_rules | `(tactic| walk_at "evs") => `(tactic| simp [ev_rdE, ev_xRd, ev_M_bind, ev_M_pure, ev_xC, ev_xVar, ev_x1, ev_x2, ev_x3, ev_xN, ev_aNil, ev_aCons, ev_sSeq, ev_sIf, ev_sSet, ev_sRet, ev_sDrop, ev_sNext, ev_sBr, ev_sCt, ev_sRetN, ev_sAug, ev_sPut, ev_sUnp, ev_sPar, ev_sPar3, ev_xLst, ev_xTup, ev_tB1, ev_tV1, ev_mAnd, ev_mOr, ev_mNot, ev_xAnd, ev_xOr, ev_xNot, ev_xIf, ev_xMut, ev_mutE, ev_gNm, ev_gTp, ev_gNl, ev_gCs, ev_iSeq, ev_iRange, ev_iFrz, ev_xCall, ev_callE, ev_sRaise, ev_xSl, ev_pNone, ev_pSome, ev_oAddI, ev_oSub, ev_oLt, ev_oLe, ev_oGt, ev_oGe, ev_oMulI, ev_oMod, ev_oDiv, ev_oPow, isT, rCount, peek, peeks, slotD, Sl.get, parE, par3E, isSlot, isIo_no, isIo_fz, isIo_ow, ev_sto, stoV, frz, frzs, truth, oAdd, oMul, oNeg, oLen, oMax, oMin, oAbs, oInt, iAdd, oIx, ownL, putL, finO, finF, outs, env0, fzs, argsD, ioR, putO, mAppend, mExtend, mPop, oList, oIsN, oNotN, oEq, oNe, sclD, ixN, PySem.sizeLine_eq, *])

theorem all_flat : ∀ l : List Int, (l.map D.int).all flatD = true
  | [] => rfl
  | _ :: r => all_flat r
theorem any_ints (x : Int) : ∀ l : List Int, inD (.int x) (l.map D.int) = decide (x ∈ l)
  | [] => rfl
  | y :: r => by
    show (y == x || inD (.int x) (r.map D.int)) = _
    rw [any_ints x r]
    by_cases h : y = x
    · subst h; simp
    · have : (y == x) = false := by simp [h]
      rw [this, Bool.false_or]
      have h' : ¬ x = y := fun z => h z.symm
      simp [h']
theorem notIn_ints (x : Int) (row : List Int) : oNotIn (.int x) (.lst (row.map D.int)) = some (.val (.bl (!decide (x ∈ row)))) := by
  show (if (flatD (.int x) && (row.map D.int).all flatD) = true then some (Opd.val (.bl (!inD (.int x) (row.map D.int)))) else none) = _
  rw [all_flat, any_ints]
  rfl
/-- st, st - 1, .., 1 -/
def down (st : Nat) : List Int := (List.range st).map fun (i : Nat) => (st : Int) + (i : Int) * (-1)
theorem down_mem {st : Nat} {x : Int} (h : x ∈ down st) : 0 < x ∧ x ≤ st := by
  unfold down at h
  obtain ⟨i, m, rfl⟩ := List.mem_map.mp h
  have := List.mem_range.mp m
  omega
theorem down_succ (st : Nat) : down (st + 1) = ((st : Int) + 1) :: down st := by
  unfold down
  rw [List.range_succ_eq_map, List.map_cons, List.map_map]
  refine congr (congrArg List.cons (by simp)) ?_
  · refine List.map_congr_left fun i _ => ?_
    show ((st + 1 : Nat) : Int) + ((i + 1 : Nat) : Int) * (-1) = (st : Int) + (i : Int) * (-1)
    omega
theorem down_nodup : ∀ st, (down st).Nodup
  | 0 => List.nodup_nil
  | st + 1 => by
    rw [down_succ, List.nodup_cons]
    exact ⟨fun m => by have := down_mem m; omega, down_nodup st⟩
theorem down_len (st : Nat) : (down st).length = st := by unfold down; rw [List.length_map, List.length_range]
def free (row : List Int) (x : Int) : Bool := !decide (0 - x ∈ row)
def able (st : Nat) (row : List Int) : List Int := ((down st).filter (free row)).map fun x => 0 - x
theorem rg_down (st : Nat) (h : st ≤ 400) : rangeD3 [.int st, .int 0, .int (-1)] = some ((down st).map D.int) := by
  have e : cR3 (st : Int) 0 (-1) = true := by
    unfold cR3
    rw [fit62_mk (show (st : Int).natAbs < 2 ^ 62 by omega)]
    decide
  have rs : (Builtin.Range.rangeSize (st : Int) 0 (-1)).toNat = st := by
    unfold Builtin.Range.rangeSize
    rw [if_neg (by decide)]
    have e1 : (-(-1) : Int) = 1 := by decide
    rw [e1, Int.ediv_one]
    split <;> omega
  show (if cR3 (st : Int) 0 (-1) = true then some (rngD (st : Int) (-1) (Builtin.Range.rangeSize (st : Int) 0 (-1)).toNat) else none) = _
  rw [if_pos e, rs, rngD_map]
  rfl
def pF (row : List Int) : D → Bool
  | .int x => free row x
  | _ => false
def vN : D → D
  | .int x => .int (0 - x)
  | _ => .non
theorem filt_map (row : List Int) : ∀ l : List Int, ((l.map D.int).filter (pF row)).map vN = ((l.filter (free row)).map fun x => 0 - x).map D.int
  | [] => rfl
  | x :: r => by
    rw [List.map_cons]
    cases c : free row x with
    | true =>
      rw [List.filter_cons_of_pos (show pF row (.int x) = true from c), List.filter_cons_of_pos c, List.map_cons, filt_map row r]
      rfl
    | false =>
      rw [List.filter_cons_of_neg (show ¬ pF row (.int x) = true by rw [show pF row (.int x) = false from c]; exact Bool.false_ne_true), List.filter_cons_of_neg (by rw [c]; exact Bool.false_ne_true), filt_map row r]
abbrev cAble : M Opd := xComp (iRange rangeD3 (aCons (xVar 2) (aCons (xC (.int 0)) (aCons (x1 oNeg (xC (.int 1))) (aNil))))) (gNm 7) (tB1 (x2 oNotIn (x2 oSub (xC (.int 0)) (xVar 7)) (xVar 5))) (x2 oSub (xC (.int 0)) (xVar 7)) [7]
theorem able_ok (st : Nat) (h : st ≤ 400) (row : List Int) (a b c d f : Sl) : cAble [a, b, .fz (.int st), c, d, .fz (.lst (row.map D.int)), f, .no] = .ok (.tmp (.lst ((able st row).map D.int))) [a, b, .fz (.int st), c, d, .fz (.lst (row.map D.int)), f, .no] := by
  have hr := rg_down st h
  have hi : iRange rangeD3 (aCons (xVar 2) (aCons (xC (.int 0)) (aCons (x1 oNeg (xC (.int 1))) (aNil)))) [a, b, .fz (.int st), c, d, .fz (.lst (row.map D.int)), f, .no] = .ok ((down st).map D.int) [a, b, .fz (.int st), c, d, .fz (.lst (row.map D.int)), f, .no] := by
    clear h
    walk_at "ev"
  obtain ⟨e', k1, k2⟩ := xComp_filter (gt := gNm 7) (cond := tB1 (x2 oNotIn (x2 oSub (xC (.int 0)) (xVar 7)) (xVar 5))) (elt := x2 oSub (xC (.int 0)) (xVar 7)) (own := [7]) hi (by rw [List.length_map, down_len, sizeLine_eq]; omega)
    (fun e => e = [a, b, .fz (.int st), c, d, .fz (.lst (row.map D.int)), f, .no]) (pF row) vN rfl (fun x m e he => by
      subst he
      obtain ⟨s, ms, rfl⟩ := List.mem_map.mp m
      have hn := notIn_ints (0 - s) row
      refine ⟨[a, b, .fz (.int st), c, d, .fz (.lst (row.map D.int)), f, .fz (.int s)], rfl, [a, b, .fz (.int st), c, d, .fz (.lst (row.map D.int)), f, .fz (.int s)], ?_, fun _ => rfl, fun _ => ⟨.val (.int (0 - s)), [a, b, .fz (.int st), c, d, .fz (.lst (row.map D.int)), f, .fz (.int s)], ?_, [a, b, .fz (.int st), c, d, .fz (.lst (row.map D.int)), f, .fz (.int s)], rfl, rfl⟩⟩
      · show _ = DL.R.ok (!decide (0 - s ∈ row)) _
        clear hr hi m ms
        walk_at "ev"
      · clear hr hi m ms hn
        walk_at "ev")
  subst k2
  rw [filt_map] at k1
  exact k1
abbrev rowD (r : List Int) : D := .lst (r.map D.int)
abbrev cLong : M Opd := xComp (iSeq (xVar 6)) (gNm 7) (M.pure true) (x2 oAdd (xVar 5) (xLst (aCons (xVar 7) (aNil)))) [7]
def vR (row : List Int) : D → D
  | .int x => rowD (row ++ [x])
  | _ => .non
theorem long_ok (ab row : List Int) (hr : row.length ≤ 400) (hab : ab.length ≤ 400) (a b c d f s6 : Sl) (h6 : s6 = .ow (.lst (ab.map D.int)) ∨ s6 = .fz (.lst (ab.map D.int))) : cLong [a, b, c, d, f, .fz (rowD row), s6, .no] = .ok (.tmp (.lst (ab.map fun x => rowD (row ++ [x])))) [a, b, c, d, f, .fz (rowD row), .fz (.lst (ab.map D.int)), .no] := by
  have hi : iSeq (xVar 6) [a, b, c, d, f, .fz (rowD row), s6, .no] = .ok (ab.map D.int) [a, b, c, d, f, .fz (rowD row), .fz (.lst (ab.map D.int)), .no] := by
    rcases h6 with rfl | rfl <;> rfl
  obtain ⟨e', k1, k2⟩ := xComp_map (gt := gNm 7) (cond := M.pure true) (elt := x2 oAdd (xVar 5) (xLst (aCons (xVar 7) (aNil)))) (own := [7]) hi (by rw [List.length_map, sizeLine_eq]; omega)
    (fun e => e = [a, b, c, d, f, .fz (rowD row), .fz (.lst (ab.map D.int)), .no]) (vR row) rfl (fun x m e he => by
      subst he
      obtain ⟨s, ms, rfl⟩ := List.mem_map.mp m
      have e2 : (row ++ [s]).map D.int = row.map D.int ++ [.int s] := by rw [List.map_append]; rfl
      refine ⟨[a, b, c, d, f, .fz (rowD row), .fz (.lst (ab.map D.int)), .fz (.int s)], rfl, [a, b, c, d, f, .fz (rowD row), .fz (.lst (ab.map D.int)), .fz (.int s)], rfl, .tmp (rowD (row ++ [s])), [a, b, c, d, f, .fz (rowD row), .fz (.lst (ab.map D.int)), .fz (.int s)], ?_, [a, b, c, d, f, .fz (rowD row), .fz (.lst (ab.map D.int)), .fz (.int s)], rfl, rfl⟩
      have hz : row.length + (0 + 1) ≤ 16777216 := by omega
      show _ = DL.R.ok (Opd.tmp (.lst ((row ++ [s]).map D.int))) _
      rw [e2]
      clear hi m ms e2 h6 hr hab
      walk_at "ev")
  subst k2
  rw [List.map_map] at k1
  exact k1
end Law

namespace Law
open PySem L2 DL
local macro_rules | `(tactic| walk_at "ev") => `(tactic| simp (decide := true) only [ev_rdE, ev_xRd, ev_M_bind, ev_M_pure, ev_xC, ev_xVar, ev_x1, ev_x2, ev_x3, ev_xN, ev_aNil, ev_aCons, ev_sSeq, ev_sIf, ev_sSet, ev_sRet, ev_sDrop, ev_sNext, ev_sBr, ev_sCt, ev_sRetN, ev_sAug, ev_sPut, ev_sUnp, ev_sPar, ev_sPar3, ev_xLst, ev_xTup, ev_tB1, ev_tV1, ev_mAnd, ev_mOr, ev_mNot, ev_xAnd, ev_xOr, ev_xNot, ev_xIf, ev_xMut, ev_mutE, ev_gNm, ev_gTp, ev_gNl, ev_gCs, ev_iSeq, ev_iRange, ev_iFrz, ev_xCall, ev_callE, ev_sRaise, ev_xSl, ev_pNone, ev_pSome, ev_oAddI, ev_oSub, ev_oLt, ev_oLe, ev_oGt, ev_oGe, ev_oMulI, ev_oMod, ev_oDiv, ev_oPow, isT, rCount, peek, peeks, slotD, Sl.get, parE, par3E, isSlot, isIo_no, isIo_fz, isIo_ow, ev_sto, stoV, frz, frzs, truth, oAdd, oMul, oNeg, oLen, oMax, oMin, oAbs, oInt, iAdd, oIx, ownL, putL, finO, finF, outs, env0, fzs, argsD, ioR, putO, mAppend, mExtend, mPop, oList, oIsN, oNotN, oEq, oNe, sclD, ixN, PySem.sizeLine_eq, List.replicate_succ, List.replicate_zero, List.getElem?_cons_zero, List.getElem?_cons_succ, List.getElem?_nil, List.set_cons_zero, List.set_cons_succ, List.length_cons, List.length_nil, List.length_map, List.length_replicate, List.length_range, Option.map_some, Option.map_none, Nat.reduceAdd, Nat.reduceSub, Nat.reduceLT, Nat.reduceLeDiff, Nat.zero_add, Nat.add_zero, Int.reduceToNat, Int.reducePow, Int.reduceAdd, Int.reduceMul, Int.reduceSub, Int.reduceNeg, ↓reduceIte, ite_true, ite_false, if_true, if_false, decide_true, decide_false, Bool.and_true, Bool.true_and, Bool.false_and, Bool.and_false, Bool.not_true, Bool.not_false, Bool.or_true, Bool.true_or, Bool.false_or, Bool.or_false, Bool.and_self, Bool.or_self, Bool.false_eq_true, reduceCtorEq, List.cons_append, List.nil_append, List.append_nil, List.map_cons, List.map_nil, not_true_eq_false, not_false_eq_true, List.nodup_nil, List.nodup_cons, List.not_mem_nil, and_self, and_true, true_and, beq_self_eq_true, bne_self_eq_false, wipeE, *])
local macro_rules | `(tactic| walk_at "evs") => `(tactic| simp [ev_rdE, ev_xRd, ev_M_bind, ev_M_pure, ev_xC, ev_xVar, ev_x1, ev_x2, ev_x3, ev_xN, ev_aNil, ev_aCons, ev_sSeq, ev_sIf, ev_sSet, ev_sRet, ev_sDrop, ev_sNext, ev_sBr, ev_sCt, ev_sRetN, ev_sAug, ev_sPut, ev_sUnp, ev_sPar, ev_sPar3, ev_xLst, ev_xTup, ev_tB1, ev_tV1, ev_mAnd, ev_mOr, ev_mNot, ev_xAnd, ev_xOr, ev_xNot, ev_xIf, ev_xMut, ev_mutE, ev_gNm, ev_gTp, ev_gNl, ev_gCs, ev_iSeq, ev_iRange, ev_iFrz, ev_xCall, ev_callE, ev_sRaise, ev_xSl, ev_pNone, ev_pSome, ev_oAddI, ev_oSub, ev_oLt, ev_oLe, ev_oGt, ev_oGe, ev_oMulI, ev_oMod, ev_oDiv, ev_oPow, isT, rCount, peek, peeks, slotD, Sl.get, parE, par3E, isSlot, isIo_no, isIo_fz, isIo_ow, ev_sto, stoV, frz, frzs, truth, oAdd, oMul, oNeg, oLen, oMax, oMin, oAbs, oInt, iAdd, oIx, ownL, putL, finO, finF, outs, env0, fzs, argsD, ioR, putO, mAppend, mExtend, mPop, oList, oIsN, oNotN, oEq, oNe, sclD, ixN, PySem.sizeLine_eq, *])

def opts (b : Bool) (st : Nat) (row : List Int) : List Int := if b = true then [(st : Int)] else able st row
abbrev bIn : MS := (sSeq (sSet 6 (xLst (aCons (xVar 2) (aNil))))
    (sSeq (sIf (tB1 (x2 oEq (xVar 3) (xC (.str "-"))))
    (sSet 6 (xComp (iRange rangeD3 (aCons (xVar 2) (aCons (xC (.int 0)) (aCons (x1 oNeg (xC (.int 1))) (aNil))))) (gNm 7) (tB1 (x2 oNotIn (x2 oSub (xC (.int 0)) (xVar 7)) (xVar 5))) (x2 oSub (xC (.int 0)) (xVar 7)) [7]))
    (sNext))
    (sDrop (xMut 4 mExtend (aCons (xComp (iSeq (xVar 6)) (gNm 7) (M.pure true) (x2 oAdd (xVar 5) (xLst (aCons (xVar 7) (aNil)))) [7]) (aNil))))))
theorem opts_len (b : Bool) (st : Nat) (row : List Int) : (opts b st row).length ≤ st + 1 := by
  unfold opts
  cases b with
  | true => show 1 ≤ st + 1; omega
  | false =>
    show (able st row).length ≤ st + 1
    unfold able
    rw [List.length_map]
    have := List.length_filter_le (free row) (down st)
    rw [down_len] at this
    omega
def grow (b : Bool) (st : Nat) (row : List Int) : List (List Int) := (opts b st row).map fun x => row ++ [x]
theorem in_step (b : Bool) (st : Nat) (hst : st ≤ 300) (row : List Int) (hr : row.length ≤ 400) (acc : List (List Int)) (hz : acc.length + (opts b st row).length ≤ 16777216) (a0 a1 s6 : Sl) (h6 : isIo s6 = false) :
    bIn [a0, a1, .fz (.int st), .fz (dS b), .ow (.lst (acc.map rowD)), .fz (rowD row), s6, .no] = .nx [a0, a1, .fz (.int st), .fz (dS b), .ow (.lst ((acc ++ grow b st row).map rowD)), .fz (rowD row), .fz (.lst ((opts b st row).map D.int)), .no] := by
  have he := eq_minus b
  have eo : (grow b st row).map rowD = (opts b st row).map fun x => rowD (row ++ [x]) := by unfold grow; rw [List.map_map]; rfl
  rw [List.map_append, eo]
  have ol := opts_len b st row
  cases b with
  | true =>
    have lk := long_ok [(st : Int)] row hr (by simp) a0 a1 (.fz (.int st)) (.fz (dS true)) (.ow (.lst (acc.map rowD))) (.ow (.lst [.int st])) (.inl rfl)
    have hz' : acc.length + (0 + 1) ≤ 16777216 := hz
    show _ = F.nx [a0, a1, .fz (.int st), .fz (dS true), .ow (.lst (acc.map rowD ++ [rowD (row ++ [(st : Int)])])), .fz (rowD row), .fz (.lst [.int st]), .no]
    have lk' : xComp (iSeq (xVar 6)) (gNm 7) (M.pure true) (x2 oAdd (xVar 5) (xLst (aCons (xVar 7) (aNil)))) [7] [a0, a1, .fz (.int st), .fz (dS true), .ow (.lst (acc.map rowD)), .fz (rowD row), .ow (.lst [.int st]), .no] = .ok (.tmp (.lst [rowD (row ++ [(st : Int)])])) [a0, a1, .fz (.int st), .fz (dS true), .ow (.lst (acc.map rowD)), .fz (rowD row), .fz (.lst [.int st]), .no] := lk
    clear lk hz eo ol
    walk_at "ev"
  | false =>
    have ak := able_ok st (by omega) row a0 a1 (.fz (dS false)) (.ow (.lst (acc.map rowD))) (.ow (.lst [.int st]))
    have lk := long_ok (able st row) row hr (by have e : opts false st row = able st row := rfl; rw [e] at ol; omega) a0 a1 (.fz (.int st)) (.fz (dS false)) (.ow (.lst (acc.map rowD))) (.ow (.lst ((able st row).map D.int))) (.inl rfl)
    have hz' : acc.length + (able st row).length ≤ 16777216 := hz
    show _ = F.nx [a0, a1, .fz (.int st), .fz (dS false), .ow (.lst (acc.map rowD ++ (able st row).map fun x => rowD (row ++ [x]))), .fz (rowD row), .fz (.lst ((able st row).map D.int)), .no]
    clear hz eo ol hst hr
    walk_at "ev"
/-- what a row holds behind st starts, r of them running -/
structure Rw (st r : Nat) (row : List Int) : Prop where
  lo : ∀ x ∈ row, -(st : Int) ≤ x
  ct : ((down st).filter (free row)).length = r
theorem Rw.up {st r : Nat} {row : List Int} (h : Rw st r row) : Rw (st + 1) (r + 1) (row ++ [((st + 1 : Nat) : Int)]) := by
  refine ⟨fun x m => ?_, ?_⟩
  · rcases List.mem_append.mp m with m | m
    · have := h.lo x m; omega
    · obtain rfl := List.mem_singleton.mp m; omega
  · rw [down_succ, List.filter_cons_of_pos]
    · rw [List.length_cons, ← h.ct]
      congr 2
      refine List.filter_congr fun x m => ?_
      have := down_mem m
      unfold free
      congr 1
      rw [decide_eq_decide, List.mem_append, List.mem_singleton]
      constructor
      · rintro (z | z)
        · exact z
        · omega
      · exact .inl
    · unfold free
      rw [Bool.not_eq_true', decide_eq_false_iff_not, List.mem_append, List.mem_singleton]
      rintro (z | z)
      · have := h.lo _ z; omega
      · omega
theorem Rw.dn {st r : Nat} {row : List Int} (h : Rw st r row) {y : Int} (hy : y ∈ able st row) : Rw st (r - 1) (row ++ [y]) := by
  unfold able at hy
  obtain ⟨x, mx, rfl⟩ := List.mem_map.mp hy
  have dx := down_mem (List.mem_filter.mp mx).1
  refine ⟨fun z m => ?_, ?_⟩
  · rcases List.mem_append.mp m with m | m
    · exact h.lo z m
    · obtain rfl := List.mem_singleton.mp m; omega
  · have e : (down st).filter (free (row ++ [0 - x])) = ((down st).filter (free row)).erase x := by
      rw [List.Nodup.erase_eq_filter ((down_nodup st).filter _), List.filter_filter]
      refine List.filter_congr fun z m => ?_
      unfold free
      rw [Bool.eq_iff_iff]
      simp only [Bool.not_eq_true', decide_eq_false_iff_not, List.mem_append, List.mem_singleton, not_or, Bool.and_eq_true, bne_iff_ne, ne_eq]
      constructor
      · rintro ⟨z1, z2⟩; exact ⟨fun q => z2 (by rw [q]), z1⟩
      · rintro ⟨z1, z2⟩; exact ⟨z2, fun q => z1 (by omega)⟩
    rw [e, List.length_erase_of_mem mx, h.ct]
theorem Rw.opts {b : Bool} {st r : Nat} {row : List Int} (h : Rw st r row) : (able st row).length = r := by
  unfold able
  rw [List.length_map]
  exact h.ct
end Law

namespace Law
open PySem L2 DL
local macro_rules | `(tactic| walk_at "ev") => `(tactic| simp (decide := true) only [ev_rdE, ev_xRd, ev_M_bind, ev_M_pure, ev_xC, ev_xVar, ev_x1, ev_x2, ev_x3, ev_xN, ev_aNil, ev_aCons, ev_sSeq, ev_sIf, ev_sSet, ev_sRet, ev_sDrop, ev_sNext, ev_sBr, ev_sCt, ev_sRetN, ev_sAug, ev_sPut, ev_sUnp, ev_sPar, ev_sPar3, ev_xLst, ev_xTup, ev_tB1, ev_tV1, ev_mAnd, ev_mOr, ev_mNot, ev_xAnd, ev_xOr, ev_xNot, ev_xIf, ev_xMut, ev_mutE, ev_gNm, ev_gTp, ev_gNl, ev_gCs, ev_iSeq, ev_iRange, ev_iFrz, ev_xCall, ev_callE, ev_sRaise, ev_xSl, ev_pNone, ev_pSome, ev_oAddI, ev_oSub, ev_oLt, ev_oLe, ev_oGt, ev_oGe, ev_oMulI, ev_oMod, ev_oDiv, ev_oPow, isT, rCount, peek, peeks, slotD, Sl.get, parE, par3E, isSlot, isIo_no, isIo_fz, isIo_ow, ev_sto, stoV, frz, frzs, truth, oAdd, oMul, oNeg, oLen, oMax, oMin, oAbs, oInt, iAdd, oIx, ownL, putL, finO, finF, outs, env0, fzs, argsD, ioR, putO, mAppend, mExtend, mPop, oList, oIsN, oNotN, oEq, oNe, sclD, ixN, PySem.sizeLine_eq, List.replicate_succ, List.replicate_zero, List.getElem?_cons_zero, List.getElem?_cons_succ, List.getElem?_nil, List.set_cons_zero, List.set_cons_succ, List.length_cons, List.length_nil, List.length_map, List.length_replicate, List.length_range, Option.map_some, Option.map_none, Nat.reduceAdd, Nat.reduceSub, Nat.reduceLT, Nat.reduceLeDiff, Nat.zero_add, Nat.add_zero, Int.reduceToNat, Int.reducePow, Int.reduceAdd, Int.reduceMul, Int.reduceSub, Int.reduceNeg, ↓reduceIte, ite_true, ite_false, if_true, if_false, decide_true, decide_false, Bool.and_true, Bool.true_and, Bool.false_and, Bool.and_false, Bool.not_true, Bool.not_false, Bool.or_true, Bool.true_or, Bool.false_or, Bool.or_false, Bool.and_self, Bool.or_self, Bool.false_eq_true, reduceCtorEq, List.cons_append, List.nil_append, List.append_nil, List.map_cons, List.map_nil, not_true_eq_false, not_false_eq_true, List.nodup_nil, List.nodup_cons, List.not_mem_nil, and_self, and_true, true_and, beq_self_eq_true, bne_self_eq_false, wipeE, *])
local macro_rules | `(tactic| walk_at "evs") => `(tactic| simp [ev_rdE, ev_xRd, ev_M_bind, ev_M_pure, ev_xC, ev_xVar, ev_x1, ev_x2, ev_x3, ev_xN, ev_aNil, ev_aCons, ev_sSeq, ev_sIf, ev_sSet, ev_sRet, ev_sDrop, ev_sNext, ev_sBr, ev_sCt, ev_sRetN, ev_sAug, ev_sPut, ev_sUnp, ev_sPar, ev_sPar3, ev_xLst, ev_xTup, ev_tB1, ev_tV1, ev_mAnd, ev_mOr, ev_mNot, ev_xAnd, ev_xOr, ev_xNot, ev_xIf, ev_xMut, ev_mutE, ev_gNm, ev_gTp, ev_gNl, ev_gCs, ev_iSeq, ev_iRange, ev_iFrz, ev_xCall, ev_callE, ev_sRaise, ev_xSl, ev_pNone, ev_pSome, ev_oAddI, ev_oSub, ev_oLt, ev_oLe, ev_oGt, ev_oGe, ev_oMulI, ev_oMod, ev_oDiv, ev_oPow, isT, rCount, peek, peeks, slotD, Sl.get, parE, par3E, isSlot, isIo_no, isIo_fz, isIo_ow, ev_sto, stoV, frz, frzs, truth, oAdd, oMul, oNeg, oLen, oMax, oMin, oAbs, oInt, iAdd, oIx, ownL, putL, finO, finF, outs, env0, fzs, argsD, ioR, putO, mAppend, mExtend, mPop, oList, oIsN, oNotN, oEq, oNe, sclD, ixN, PySem.sizeLine_eq, *])

abbrev bOut : MS := (sSeq (sSet 2 (x2 oAdd (xVar 2) (xN oInt (aCons (x2 oEq (xVar 3) (xC (.str "+"))) (aNil)))))
    (sSeq (sSet 4 (xLst (aNil)))
    (sSeq (sFor (iSeq (xVar 1)) (gNm 5)
    bIn)
    (sSet 1 (xVar 4)))))
def ups (b : Bool) (st : Nat) : Nat := if b = true then st + 1 else st
theorem foldl_grow (b : Bool) (st : Nat) : ∀ (rows acc : List (List Int)) (s6 : Sl), (rows.foldl (fun (p : List (List Int) × Sl) row => (p.1 ++ grow b st row, Sl.fz (.lst ((opts b st row).map D.int)))) (acc, s6)).1 = acc ++ rows.flatMap (grow b st)
  | [], acc, s6 => by simp
  | row :: rows, acc, s6 => by
    rw [List.foldl_cons, foldl_grow b st rows, List.flatMap_cons, List.append_assoc]
theorem inner_ok (b : Bool) (st : Nat) (hst : st ≤ 300) (rows : List (List Int)) (hn : rows.length ≤ 1000) (hr : ∀ row ∈ rows, row.length ≤ 400) (a0 s5 s6 : Sl) (h5 : Lz s5) (h6 : isIo s6 = false) :
    ∃ t5 t6, Lz t5 ∧ isIo t6 = false ∧ loopF (gNm 5) bIn (rows.map rowD) [a0, .fz (.lst (rows.map rowD)), .fz (.int st), .fz (dS b), .ow (.lst []), s5, s6, .no] = .nx [a0, .fz (.lst (rows.map rowD)), .fz (.int st), .fz (dS b), .ow (.lst ((rows.flatMap (grow b st)).map rowD)), t5, t6, .no] := by
  obtain ⟨t5, l5, k1, k2⟩ := loop_fold (gt := gNm 5) (body := bIn) rowD (fun (p : List (List Int) × Sl) s => [a0, .fz (.lst (rows.map rowD)), .fz (.int st), .fz (dS b), .ow (.lst (p.1.map rowD)), s, p.2, .no]) (fun p row => (p.1 ++ grow b st row, .fz (.lst ((opts b st row).map D.int))))
    (fun p q => isIo p.2 = false ∧ p.1.length + q.length * 301 ≤ 1000000 ∧ ∀ row ∈ q, row.length ≤ 400)
    (fun p s x lz => by rcases lz with rfl | ⟨d, rfl⟩ <;> rfl)
    (fun p row q ⟨i1, i2, i3⟩ => by
      have ol := opts_len b st row
      simp only [List.length_cons] at i2
      refine ⟨in_step b st hst row (i3 row List.mem_cons_self) p.1 (by omega) a0 _ p.2 i1, rfl, ?_, fun r m => i3 r (List.mem_cons_of_mem _ m)⟩
      show (p.1 ++ grow b st row).length + q.length * 301 ≤ 1000000
      rw [List.length_append]
      unfold grow
      rw [List.length_map]
      omega) rows ([], s6) s5 ⟨h6, by show 0 + rows.length * 301 ≤ 1000000; omega, hr⟩ h5
  refine ⟨t5, _, l5, k2.1, ?_⟩
  have e := foldl_grow b st rows [] s6
  rw [List.nil_append] at e
  rw [← e]
  exact k1
theorem turn_ok (b : Bool) (st : Nat) (hst : st ≤ 200) (rows : List (List Int)) (hn : rows.length ≤ 1000) (hr : ∀ row ∈ rows, row.length ≤ 400) (a0 s1 s4 s5 s6 : Sl) (h1 : s1 = .ow (.lst (rows.map rowD)) ∨ s1 = .fz (.lst (rows.map rowD))) (h4 : isIo s4 = false) (h5 : Lz s5) (h6 : isIo s6 = false) :
    ∃ t4 t5 t6, isIo t4 = false ∧ Lz t5 ∧ isIo t6 = false ∧ bOut [a0, s1, .fz (.int st), .fz (dS b), s4, s5, s6, .no] = .nx [a0, .fz (.lst ((rows.flatMap (grow b (ups b st))).map rowD)), .fz (.int (ups b st)), .fz (dS b), t4, t5, t6, .no] := by
  obtain ⟨t5, t6, l5, l6, k⟩ := inner_ok b (ups b st) (by unfold ups; split <;> omega) rows hn hr a0 s5 s6 h5 h6
  refine ⟨.fz (.lst ((rows.flatMap (grow b (ups b st))).map rowD)), t5, t6, rfl, l5, l6, ?_⟩
  have hi : sFor (iSeq (xVar 1)) (gNm 5) bIn [a0, s1, .fz (.int (ups b st)), .fz (dS b), .ow (.lst []), s5, s6, .no] = .nx [a0, .fz (.lst (rows.map rowD)), .fz (.int (ups b st)), .fz (dS b), .ow (.lst ((rows.flatMap (grow b (ups b st))).map rowD)), t5, t6, .no] := by
    have h : iSeq (xVar 1) [a0, s1, .fz (.int (ups b st)), .fz (dS b), .ow (.lst []), s5, s6, .no] = .ok (rows.map rowD) [a0, .fz (.lst (rows.map rowD)), .fz (.int (ups b st)), .fz (dS b), .ow (.lst []), s5, s6, .no] := by
      rcases h1 with rfl | rfl <;> rfl
    unfold sFor
    rw [h]
    exact k
  have he := eq_plus b
  have hs1 : isIo s1 = false := by rcases h1 with rfl | rfl <;> rfl
  have e1 : (st : Int) + (if b = true then 1 else 0) = ((ups b st : Nat) : Int) := by cases b <;> simp [ups]
  clear h1 k hr hn hst h5 l5
  generalize (rows.flatMap (grow b (ups b st))).map rowD = R at *
  generalize ups b st = u at *
  walk_at "ev"
def prodN : Nat → List Bool → Nat
  | _, [] => 1
  | r, true :: l => prodN (r + 1) l
  | r, false :: l => r * prodN (r - 1) l
theorem prodN_pos : ∀ (l : List Bool) (r : Nat), good r l = true → 0 < prodN r l
  | [], _, _ => Nat.one_pos
  | true :: l, r, h => prodN_pos l (r + 1) h
  | false :: l, 0, h => nomatch h
  | false :: l, r + 1, h => Nat.mul_pos (Nat.succ_pos r) (prodN_pos l r h)
theorem prodN_I : ∀ (l : List Bool) (r : Nat), prodI (chs r l) = (prodN r l : Int)
  | [], _ => rfl
  | true :: l, r => prodN_I l (r + 1)
  | false :: l, r => by
    show prodI ((r : Int) :: chs (r - 1) l) = ((r * prodN (r - 1) l : Nat) : Int)
    rw [prodI_cons, prodN_I l (r - 1), Int.natCast_mul]
theorem every_loop (a0 : Sl) : ∀ (l : List Bool) (r st : Nat) (rows : List (List Int)) (s1 s3 s4 s5 s6 : Sl), good r l = true → (s1 = .ow (.lst (rows.map rowD)) ∨ s1 = .fz (.lst (rows.map rowD))) → isIo s3 = false → isIo s4 = false → Lz s5 → isIo s6 = false →
    (∀ row ∈ rows, Rw st r row ∧ row.length + l.length ≤ 400) → rows.length * prodN r l ≤ 1000 → st + l.length ≤ 200 →
    ∃ (rows' : List (List Int)) (t1 t2 t3 t4 t5 t6 : Sl), (t1 = .ow (.lst (rows'.map rowD)) ∨ t1 = .fz (.lst (rows'.map rowD))) ∧ rows'.length = rows.length * prodN r l ∧
      loopF (gNm 3) bOut (l.map dS) [a0, s1, .fz (.int st), s3, s4, s5, s6, .no] = .nx [a0, t1, t2, t3, t4, t5, t6, .no]
  | [], r, st, rows, s1, s3, s4, s5, s6, _, h1, _, _, _, _, _, _, _ => ⟨rows, s1, _, s3, s4, s5, s6, h1, (Nat.mul_one _).symm, rfl⟩
  | b :: l, r, st, rows, s1, s3, s4, s5, s6, hg, h1, h3, h4, h5, h6, hrw, hp, hst => by
    have pos := prodN_pos (b :: l) r hg
    have hn : rows.length ≤ 1000 := Nat.le_trans (Nat.le_mul_of_pos_right _ pos) hp
    simp only [List.length_cons] at hst hrw
    obtain ⟨t4, t5, t6, i4, i5, i6, k⟩ := turn_ok b st (by omega) rows hn (fun row m => by have := (hrw row m).2; omega) a0 s1 s4 s5 s6 h1 h4 h5 h6
    have g3 : gNm 3 (dS b) [a0, s1, .fz (.int st), s3, s4, s5, s6, .no] = some [a0, s1, .fz (.int st), .fz (dS b), s4, s5, s6, .no] := by
      rw [ev_gNm]
      show (if isIo s3 = true then none else some _) = _
      rw [h3]
      rfl
    have key : ∃ r', good r' l = true ∧ prodN r (b :: l) = (if b = true then 1 else r) * prodN r' l ∧ (∀ row ∈ rows.flatMap (grow b (ups b st)), Rw (ups b st) r' row ∧ row.length + l.length ≤ 400) ∧ (rows.flatMap (grow b (ups b st))).length = rows.length * (if b = true then 1 else r) := by
      cases b with
      | true =>
        refine ⟨r + 1, hg, (Nat.one_mul _).symm, fun row m => ?_, ?_⟩
        · obtain ⟨row0, m0, m1⟩ := List.mem_flatMap.mp m
          obtain ⟨x, mx, rfl⟩ := List.mem_map.mp m1
          obtain rfl := List.mem_singleton.mp (show x ∈ [((ups true st : Nat) : Int)] from mx)
          have := hrw row0 m0
          exact ⟨this.1.up, by rw [List.length_append, List.length_singleton]; omega⟩
        · rw [List.length_flatMap]
          have : rows.map (fun a => (grow true (ups true st) a).length) = rows.map fun _ => 1 := List.map_congr_left fun _ _ => rfl
          rw [this, List.map_const', List.sum_replicate_nat]; rfl
      | false =>
        cases r with
        | zero => cases hg
        | succ r =>
          refine ⟨r, hg, rfl, fun row m => ?_, ?_⟩
          · obtain ⟨row0, m0, m1⟩ := List.mem_flatMap.mp m
            obtain ⟨x, mx, rfl⟩ := List.mem_map.mp m1
            have := hrw row0 m0
            exact ⟨this.1.dn mx, by rw [List.length_append, List.length_singleton]; omega⟩
          · rw [List.length_flatMap]
            have : rows.map (fun a => (grow false (ups false st) a).length) = rows.map fun _ => r + 1 := List.map_congr_left fun a m => by
              unfold grow
              rw [List.length_map]
              exact (hrw a m).1.opts (b := false)
            rw [this, List.map_const', List.sum_replicate_nat]; rfl
    obtain ⟨r', g', p', w', c'⟩ := key
    obtain ⟨rows', u1, u2, u3, u4, u5, u6, q1, q2, q3⟩ := every_loop a0 l r' (ups b st) (rows.flatMap (grow b (ups b st))) _ (.fz (dS b)) t4 t5 t6 g' (.inr rfl) rfl i4 i5 i6 w' (by rw [c', Nat.mul_assoc, ← p']; exact hp) (by unfold ups; split <;> omega)
    refine ⟨rows', u1, u2, u3, u4, u5, u6, q1, by rw [q2, c', Nat.mul_assoc, ← p'], ?_⟩
    show loopF (gNm 3) bOut (dS b :: l.map dS) _ = _
    unfold loopF
    simp only [g3]
    rw [show bOut _ = _ from k]
    exact q3
theorem every_ok {l : List Bool} (hl : l.length ≤ 20) (hg : good 0 l = true) (hw : waysI l < 201) : ∃ (fr : Bool) (rows : List D), f_law_every [.str (sg l)] = .ok fr (.lst rows) [] ∧ (rows.length : Int) = waysI l := by
  have hp := prodN_I l 0
  have hw' : (prodN 0 l : Int) < 201 := by rw [← hp]; exact hw
  obtain ⟨rows', t1, t2, t3, t4, t5, t6, q1, q2, q3⟩ := every_loop (.fz (.str (sg l))) l 0 0 [[]] (.ow (.lst [.lst []])) .no .no .no .no hg (.inl rfl) rfl rfl Lz.no rfl (fun row m => by
    obtain rfl := List.mem_singleton.mp m
    exact ⟨⟨fun x m => (by cases m), rfl⟩, by show 0 + l.length ≤ 400; omega⟩) (by show 1 * prodN 0 l ≤ 1000; omega) (by omega)
  have hf : sFor (iSeq (xVar 0)) (gNm 3) bOut [.fz (.str (sg l)), .ow (.lst [.lst []]), .fz (.int 0), .no, .no, .no, .no, .no] = .nx [.fz (.str (sg l)), t1, t2, t3, t4, t5, t6, .no] := by
    unfold sFor
    rw [iter_ok l (by omega) _ rfl]
    exact q3
  have e : (rows'.map rowD).length = rows'.length := List.length_map _
  unfold f_law_every
  rw [mkF_app _ _ _ _ rfl]
  unfold m_law_every
  have fin : (rows'.length : Int) = waysI l := by
    rw [q2]
    show ((1 * prodN 0 l : Nat) : Int) = prodI (chs 0 l)
    rw [hp, Nat.one_mul]
  clear q3 hp hw hw' hl hg q2
  rcases q1 with rfl | rfl
  · refine ⟨true, rows'.map rowD, ?_, by rw [e]; exact fin⟩
    clear fin e
    walk_at "ev"
  · refine ⟨false, rows'.map rowD, ?_, by rw [e]; exact fin⟩
    clear fin e
    walk_at "ev"
end Law

namespace Law
open PySem L2 DL
local macro_rules | `(tactic| walk_at "ev") => `(tactic| simp (decide := true) only [ev_rdE, ev_xRd, ev_M_bind, ev_M_pure, ev_xC, ev_xVar, ev_x1, ev_x2, ev_x3, ev_xN, ev_aNil, ev_aCons, ev_sSeq, ev_sIf, ev_sSet, ev_sRet, ev_sDrop, ev_sNext, ev_sBr, ev_sCt, ev_sRetN, ev_sAug, ev_sPut, ev_sUnp, ev_sPar, ev_sPar3, ev_xLst, ev_xTup, ev_tB1, ev_tV1, ev_mAnd, ev_mOr, ev_mNot, ev_xAnd, ev_xOr, ev_xNot, ev_xIf, ev_xMut, ev_mutE, ev_gNm, ev_gTp, ev_gNl, ev_gCs, ev_iSeq, ev_iRange, ev_iFrz, ev_xCall, ev_callE, ev_sRaise, ev_xSl, ev_pNone, ev_pSome, ev_oAddI, ev_oSub, ev_oLt, ev_oLe, ev_oGt, ev_oGe, ev_oMulI, ev_oMod, ev_oDiv, ev_oPow, isT, rCount, peek, peeks, slotD, Sl.get, parE, par3E, isSlot, isIo_no, isIo_fz, isIo_ow, ev_sto, stoV, frz, frzs, truth, oAdd, oMul, oNeg, oLen, oMax, oMin, oAbs, oInt, iAdd, oIx, ownL, putL, finO, finF, outs, env0, fzs, argsD, ioR, putO, mAppend, mExtend, mPop, oList, oIsN, oNotN, oEq, oNe, sclD, ixN, PySem.sizeLine_eq, List.replicate_succ, List.replicate_zero, List.getElem?_cons_zero, List.getElem?_cons_succ, List.getElem?_nil, List.set_cons_zero, List.set_cons_succ, List.length_cons, List.length_nil, List.length_map, List.length_replicate, List.length_range, Option.map_some, Option.map_none, Nat.reduceAdd, Nat.reduceSub, Nat.reduceLT, Nat.reduceLeDiff, Nat.zero_add, Nat.add_zero, Int.reduceToNat, Int.reducePow, Int.reduceAdd, Int.reduceMul, Int.reduceSub, Int.reduceNeg, ↓reduceIte, ite_true, ite_false, if_true, if_false, decide_true, decide_false, Bool.and_true, Bool.true_and, Bool.false_and, Bool.and_false, Bool.not_true, Bool.not_false, Bool.or_true, Bool.true_or, Bool.false_or, Bool.or_false, Bool.and_self, Bool.or_self, Bool.false_eq_true, reduceCtorEq, List.cons_append, List.nil_append, List.append_nil, List.map_cons, List.map_nil, not_true_eq_false, not_false_eq_true, List.nodup_nil, List.nodup_cons, List.not_mem_nil, and_self, and_true, true_and, beq_self_eq_true, bne_self_eq_false, wipeE, *])
local macro_rules | `(tactic| walk_at "evs") => `(tactic| simp [ev_rdE, ev_xRd, ev_M_bind, ev_M_pure, ev_xC, ev_xVar, ev_x1, ev_x2, ev_x3, ev_xN, ev_aNil, ev_aCons, ev_sSeq, ev_sIf, ev_sSet, ev_sRet, ev_sDrop, ev_sNext, ev_sBr, ev_sCt, ev_sRetN, ev_sAug, ev_sPut, ev_sUnp, ev_sPar, ev_sPar3, ev_xLst, ev_xTup, ev_tB1, ev_tV1, ev_mAnd, ev_mOr, ev_mNot, ev_xAnd, ev_xOr, ev_xNot, ev_xIf, ev_xMut, ev_mutE, ev_gNm, ev_gTp, ev_gNl, ev_gCs, ev_iSeq, ev_iRange, ev_iFrz, ev_xCall, ev_callE, ev_sRaise, ev_xSl, ev_pNone, ev_pSome, ev_oAddI, ev_oSub, ev_oLt, ev_oLe, ev_oGt, ev_oGe, ev_oMulI, ev_oMod, ev_oDiv, ev_oPow, isT, rCount, peek, peeks, slotD, Sl.get, parE, par3E, isSlot, isIo_no, isIo_fz, isIo_ow, ev_sto, stoV, frz, frzs, truth, oAdd, oMul, oNeg, oLen, oMax, oMin, oAbs, oInt, iAdd, oIx, ownL, putL, finO, finF, outs, env0, fzs, argsD, ioR, putO, mAppend, mExtend, mPop, oList, oIsN, oNotN, oEq, oNe, sclD, ixN, PySem.sizeLine_eq, *])

def run (r : Nat) (l : List Bool) : Nat := l.foldl nxt r
theorem good_up : ∀ (l : List Bool) (r : Nat), good r (l ++ [true]) = good r l
  | [], _ => rfl
  | true :: l, r => good_up l (r + 1)
  | false :: _, 0 => rfl
  | false :: l, r + 1 => good_up l r
theorem good_dn : ∀ (l : List Bool) (r : Nat), good r l = true → 0 < run r l → good r (l ++ [false]) = true
  | [], 0, _, h => absurd h (Nat.lt_irrefl 0)
  | [], r + 1, _, _ => rfl
  | true :: l, r, g, h => good_dn l (r + 1) g h
  | false :: _, 0, g, _ => nomatch g
  | false :: l, r + 1, g, h => good_dn l r g h
theorem chs_up : ∀ (l : List Bool) (r : Nat), chs r (l ++ [true]) = chs r l
  | [], _ => rfl
  | true :: l, r => chs_up l (r + 1)
  | false :: l, r => congrArg ((r : Int) :: ·) (chs_up l (r - 1))
theorem chs_dn : ∀ (l : List Bool) (r : Nat), chs r (l ++ [false]) = chs r l ++ [(run r l : Int)]
  | [], _ => rfl
  | true :: l, r => chs_dn l (r + 1)
  | false :: l, r => congrArg ((r : Int) :: ·) (chs_dn l (r - 1))
theorem run_eq : ∀ (l : List Bool) (r : Nat), good r l = true → (run r l : Int) = r + (l.count true : Nat) - (l.count false : Nat)
  | [], r, _ => by show (r : Int) = r + 0 - 0; omega
  | true :: l, r, g => by
    have := run_eq l (r + 1) g
    show (run (r + 1) l : Int) = _
    rw [this, List.count_cons, List.count_cons]
    simp
    omega
  | false :: l, 0, g => nomatch g
  | false :: l, r + 1, g => by
    have := run_eq l r g
    show (run r l : Int) = _
    rw [this, List.count_cons, List.count_cons]
    simp
    omega
theorem prodI_snoc (l : List Int) (x : Int) : prodI (l ++ [x]) = prodI l * x := by
  unfold prodI
  rw [List.foldl_append]
  rfl
theorem prodI_small : ∀ l : List Int, (∀ x ∈ l, x.natAbs < 2 ^ 8) → (prodI l).natAbs < 2 ^ (8 * l.length + 1)
  | [], _ => by decide
  | x :: r, h => by
    have h1 := prodI_small r fun y m => h y (List.mem_cons_of_mem _ m)
    rw [prodI_cons, Int.natAbs_mul]
    have e : 8 * (x :: r).length + 1 = 8 + (8 * r.length + 1) := by rw [List.length_cons]; omega
    rw [e, Nat.pow_add]
    exact Nat.mul_lt_mul'' (h x List.mem_cons_self) h1
theorem ways_small {l : List Bool} (h : Shp l) : (waysI l).natAbs < 2 ^ 1700 := by
  have hb : ∀ x ∈ chs 0 l, x.natAbs < 2 ^ 8 := fun x m => by
    have := chs_mem l 0 x m
    have := h.len
    omega
  have h2 := chs_len l 0
  have h3 := h.len
  exact Nat.lt_of_lt_of_le (prodI_small _ hb) (Nat.pow_le_pow_right (by decide) (by omega))
theorem Shp.up {l : List Bool} (h : Shp l) (h1 : l.length < 200) (h2 : l.count true < 100) : Shp (l ++ [true]) ∧ waysI (l ++ [true]) = waysI l :=
  ⟨⟨by rw [List.length_append, List.length_singleton]; omega, by rw [List.count_append]; simp; omega, by rw [good_up]; exact h.gd⟩, by unfold waysI; rw [chs_up]⟩
theorem Shp.dn {l : List Bool} (h : Shp l) (h1 : l.length < 200) (h2 : 0 < run 0 l) : Shp (l ++ [false]) ∧ waysI (l ++ [false]) = waysI l * (run 0 l : Int) :=
  ⟨⟨by rw [List.length_append, List.length_singleton]; omega, by rw [List.count_append]; have := h.st; simp; omega, good_dn l 0 h.gd h2⟩, by unfold waysI; rw [chs_dn, prodI_snoc]⟩
theorem app_p (l : List Bool) : sg l ++ ("+" : Str) = sg (l ++ [true]) := by rw [plus_eq, sg_app]
theorem app_m (l : List Bool) : sg l ++ ("-" : Str) = sg (l ++ [false]) := by rw [minus_eq, sg_app]
abbrev rT1 : M Opd := (x2 oNe (xN oRepr (aCons (xLst (aCons (xCall k_count_in_shape f_count_in_shape (aCons (xVar 0) (aNil))) (aCons (xCall k_count_in_shape f_count_in_shape (aCons (xVar 0) (aNil))) (aNil)))) (aNil))) (xN oRepr (aCons (xLst (aCons (xVar 1) (aCons (xVar 1) (aNil)))) (aNil))))
theorem rT1_ok {l : List Bool} (h : Shp l) (s : Sl) : rT1 [.fz (.str (sg l)), .fz (.int (waysI l)), s] = .ok (.val (.bl false)) [.fz (.str (sg l)), .fz (.int (waysI l)), s] := by
  have c := count_ok h
  have e2 := ways_small h
  generalize waysI l = p at *
  have sp : okRepr (.lst [.int p, .int p]) = true := Sh.repr (B := 1701) (Sh.lst (w := 1700) (n := 0) (fun d m => by
    simp only [List.mem_cons, List.not_mem_nil, or_false, or_self] at m
    subst m
    exact Sh.int e2 (by decide) (by decide) (by decide))) (by decide) (by decide) (by show (1701 + 2) * (2 * (1700 + 1)) + 1701 ≤ 16777216; decide)
  have sr := oRepr_ok sp
  clear e2 sp h
  walk_at "ev"
abbrev rT2 : M Bool := (mAnd (tB1 (x2 oLt (xVar 1) (xC (.int 201)))) (mAnd (tB1 (x2 oLt (xN oLen (aCons (xVar 0) (aNil))) (xC (.int 21)))) (tB1 (x2 oNe (xN oLen (aCons (xCall k_law_every f_law_every (aCons (xVar 0) (aNil))) (aNil))) (xVar 1)))))
theorem rT2_ok {l : List Bool} (h : Shp l) (s : Sl) : rT2 [.fz (.str (sg l)), .fz (.int (waysI l)), s] = .ok false [.fz (.str (sg l)), .fz (.int (waysI l)), s] := by
  have hz : (sg l).length ≤ 16777216 := by rw [sg_len]; have := h.len; omega
  by_cases h1 : waysI l < 201
  · by_cases h2 : ((sg l).length : Int) < 21
    · obtain ⟨fr, rows, k1, k2⟩ := every_ok (by rw [sg_len] at h2; omega) h.gd h1
      generalize waysI l = p at *
      subst k2
      clear h
      cases fr <;> walk_at "ev"
    · generalize waysI l = p at *
      clear h
      walk_at "ev"
  · generalize waysI l = p at *
    clear h
    walk_at "ev"
abbrev rT3 : M Bool := (mAnd (tB1 (x2 oLt (xN oLen (aCons (xVar 0) (aNil))) (xC (.int 200)))) (mAnd (tB1 (x2 oLt (xRd "str" rCount (xVar 0) (aCons (xC (.str "+")) (aNil))) (xC (.int 100)))) (tB1 (x2 oNe (xCall k_count_in_shape f_count_in_shape (aCons (x2 oAdd (xVar 0) (xC (.str "+"))) (aNil))) (xVar 1)))))
theorem rT3_ok {l : List Bool} (h : Shp l) (s : Sl) : rT3 [.fz (.str (sg l)), .fz (.int (waysI l)), s] = .ok false [.fz (.str (sg l)), .fz (.int (waysI l)), s] := by
  have hz : (sg l).length ≤ 16777216 := by rw [sg_len]; have := h.len; omega
  by_cases h1 : ((sg l).length : Int) < 200
  · by_cases h2 : Txt.count (sg l) "+" < 100
    · have hu := h.up (by rw [sg_len] at h1; omega) (by rw [count_p] at h2; omega)
      have c := count_ok hu.1
      rw [hu.2] at c
      have ea := app_p l
      have hz2 : (sg l).length + ("+" : Str).length ≤ 16777216 := by rw [show ("+" : Str).length = 1 from rfl]; omega
      generalize waysI l = p at *
      clear h hu
      walk_at "ev"
    · generalize waysI l = p at *
      clear h
      walk_at "ev"
  · generalize waysI l = p at *
    clear h
    walk_at "ev"
abbrev rT4 : M Opd := (xOr (x2 oGt (xN oLen (aCons (xVar 0) (aNil))) (xC (.int 199))) (xOr (x2 oEq (xVar 2) (xC (.int 0))) (x2 oEq (xCall k_count_in_shape f_count_in_shape (aCons (x2 oAdd (xVar 0) (xC (.str "-"))) (aNil))) (x2 oMul (xVar 1) (xVar 2)))))
theorem rT4_ok {l : List Bool} (h : Shp l) : rT4 [.fz (.str (sg l)), .fz (.int (waysI l)), .fz (.int (run 0 l))] = .ok (.val (.bl true)) [.fz (.str (sg l)), .fz (.int (waysI l)), .fz (.int (run 0 l))] := by
  have hz : (sg l).length ≤ 16777216 := by rw [sg_len]; have := h.len; omega
  by_cases h1 : 199 < ((sg l).length : Int)
  · generalize waysI l = p at *
    clear h
    walk_at "ev"
  · by_cases h2 : run 0 l = 0
    · generalize waysI l = p at *
      clear h
      have h3 : ((run 0 l : Int) == 0) = true := by rw [h2]; rfl
      clear h2
      walk_at "ev"
    · have hd := h.dn (by rw [sg_len] at h1; omega) (by omega)
      have c := count_ok hd.1
      rw [hd.2] at c
      have ea := app_m l
      have h3 : ((run 0 l : Int) == 0) = false := by
        rw [beq_eq_false_iff_ne]; omega
      have hz2 : (sg l).length + ("-" : Str).length ≤ 16777216 := by rw [show ("-" : Str).length = 1 from rfl]; omega
      have rl : (run 0 l : Int) ≤ 200 := by
        have := run_eq l 0 h.gd
        have := List.count_le_length (a := true) (l := l)
        have := h.len
        omega
      have cm : cMul (waysI l) (run 0 l : Int) = true := cMul_w (ways_small h) (show ((run 0 l : Nat) : Int).natAbs < 2 ^ 9 by omega) (by decide) (by decide) (by decide)
      generalize waysI l = p at *
      generalize run 0 l = q at *
      clear h hd rl h2
      walk_at "ev"
theorem right_ok {l : List Bool} (h : Shp l) : f_law_right [.str (sg l)] = .ok false (.bl true) [] := by
  have w := ways_ok h.len h.gd
  have t1 := rT1_ok h .no
  have t2 := rT2_ok h .no
  have t3 := rT3_ok h (.fz (.int (run 0 l)))
  have t4 := rT4_ok h
  have ru : Txt.count (sg l) "+" - Txt.count (sg l) "-" = (run 0 l : Int) := by
    rw [count_p, count_m, run_eq l 0 h.gd]
    omega
  unfold f_law_right
  rw [mkF_app _ _ _ _ rfl]
  unfold m_law_right
  have g1 : sSet 1 (xCall k_law_ways f_law_ways (aCons (xVar 0) (aNil))) [.fz (.str (sg l)), .no, .no] = .nx [.fz (.str (sg l)), .fz (.int (waysI l)), .no] := by
    clear t1 t2 t3 t4 ru h
    walk_at "ev"
  have g2 : sSet 2 (x2 oSub (xRd "str" rCount (xVar 0) (aCons (xC (.str "+")) (aNil))) (xRd "str" rCount (xVar 0) (aCons (xC (.str "-")) (aNil)))) [.fz (.str (sg l)), .fz (.int (waysI l)), .no] = .nx [.fz (.str (sg l)), .fz (.int (waysI l)), .fz (.int (run 0 l))] := by
    clear t1 t2 t3 t4 w h g1
    walk_at "ev"
  rw [show (env0 k_law_right [.str (sg l)] ++ List.replicate (3 - k_law_right.length) .no) = [.fz (.str (sg l)), .no, .no] from rfl]
  rw [seq_nx g1, seq_nx (if_skip (tB1_of t1)), seq_nx (if_skip t2), seq_nx g2, seq_nx (if_skip t3), ret_of t4]
  rfl
end Law

namespace Law
open PySem L2 DL
local macro_rules | `(tactic| walk_at "ev") => `(tactic| simp (decide := true) only [ev_rdE, ev_xRd, ev_M_bind, ev_M_pure, ev_xC, ev_xVar, ev_x1, ev_x2, ev_x3, ev_xN, ev_aNil, ev_aCons, ev_sSeq, ev_sIf, ev_sSet, ev_sRet, ev_sDrop, ev_sNext, ev_sBr, ev_sCt, ev_sRetN, ev_sAug, ev_sPut, ev_sUnp, ev_sPar, ev_sPar3, ev_xLst, ev_xTup, ev_tB1, ev_tV1, ev_mAnd, ev_mOr, ev_mNot, ev_xAnd, ev_xOr, ev_xNot, ev_xIf, ev_xMut, ev_mutE, ev_gNm, ev_gTp, ev_gNl, ev_gCs, ev_iSeq, ev_iRange, ev_iFrz, ev_xCall, ev_callE, ev_sRaise, ev_xSl, ev_pNone, ev_pSome, ev_oAddI, ev_oSub, ev_oLt, ev_oLe, ev_oGt, ev_oGe, ev_oMulI, ev_oMod, ev_oDiv, ev_oPow, isT, rCount, peek, peeks, slotD, Sl.get, parE, par3E, isSlot, isIo_no, isIo_fz, isIo_ow, ev_sto, stoV, frz, frzs, truth, oAdd, oMul, oNeg, oLen, oMax, oMin, oAbs, oInt, iAdd, oIx, ownL, putL, finO, finF, outs, env0, fzs, argsD, ioR, putO, mAppend, mExtend, mPop, oList, oIsN, oNotN, oEq, oNe, sclD, ixN, PySem.sizeLine_eq, List.replicate_succ, List.replicate_zero, List.getElem?_cons_zero, List.getElem?_cons_succ, List.getElem?_nil, List.set_cons_zero, List.set_cons_succ, List.length_cons, List.length_nil, List.length_map, List.length_replicate, List.length_range, Option.map_some, Option.map_none, Nat.reduceAdd, Nat.reduceSub, Nat.reduceLT, Nat.reduceLeDiff, Nat.zero_add, Nat.add_zero, Int.reduceToNat, Int.reducePow, Int.reduceAdd, Int.reduceMul, Int.reduceSub, Int.reduceNeg, ↓reduceIte, ite_true, ite_false, if_true, if_false, decide_true, decide_false, Bool.and_true, Bool.true_and, Bool.false_and, Bool.and_false, Bool.not_true, Bool.not_false, Bool.or_true, Bool.true_or, Bool.false_or, Bool.or_false, Bool.and_self, Bool.or_self, Bool.false_eq_true, reduceCtorEq, List.cons_append, List.nil_append, List.append_nil, List.map_cons, List.map_nil, not_true_eq_false, not_false_eq_true, List.nodup_nil, List.nodup_cons, List.not_mem_nil, and_self, and_true, true_and, beq_self_eq_true, bne_self_eq_false, wipeE, *])
local macro_rules | `(tactic| walk_at "evs") => `(tactic| simp [ev_rdE, ev_xRd, ev_M_bind, ev_M_pure, ev_xC, ev_xVar, ev_x1, ev_x2, ev_x3, ev_xN, ev_aNil, ev_aCons, ev_sSeq, ev_sIf, ev_sSet, ev_sRet, ev_sDrop, ev_sNext, ev_sBr, ev_sCt, ev_sRetN, ev_sAug, ev_sPut, ev_sUnp, ev_sPar, ev_sPar3, ev_xLst, ev_xTup, ev_tB1, ev_tV1, ev_mAnd, ev_mOr, ev_mNot, ev_xAnd, ev_xOr, ev_xNot, ev_xIf, ev_xMut, ev_mutE, ev_gNm, ev_gTp, ev_gNl, ev_gCs, ev_iSeq, ev_iRange, ev_iFrz, ev_xCall, ev_callE, ev_sRaise, ev_xSl, ev_pNone, ev_pSome, ev_oAddI, ev_oSub, ev_oLt, ev_oLe, ev_oGt, ev_oGe, ev_oMulI, ev_oMod, ev_oDiv, ev_oPow, isT, rCount, peek, peeks, slotD, Sl.get, parE, par3E, isSlot, isIo_no, isIo_fz, isIo_ow, ev_sto, stoV, frz, frzs, truth, oAdd, oMul, oNeg, oLen, oMax, oMin, oAbs, oInt, iAdd, oIx, ownL, putL, finO, finF, outs, env0, fzs, argsD, ioR, putO, mAppend, mExtend, mPop, oList, oIsN, oNotN, oEq, oNe, sclD, ixN, PySem.sizeLine_eq, *])

theorem law_pool_eq : f_law_pool = fPool := rfl
theorem law_draw_eq : f_law_draw = fDraw := rfl
theorem drw {p : D} {n : Nat} {m : Int} (hp : PoolOk p n) (hn : n < 2 ^ 64) (h0 : 0 < m) (h1 : m < 2 ^ 64) : ∃ (d : Nat) (q : D), f_law_draw [p, .int m] = .ok false (.int d) [q] ∧ (d : Int) < m ∧ PoolOk q (n + 1) := by
  obtain ⟨d, q, h1, h2, h3, h4⟩ := draw_ok hp hn h0 h1
  obtain ⟨k, rfl⟩ := Int.eq_ofNat_of_zero_le h2
  exact ⟨k, q, h1, h3, h4⟩
abbrev bTurn : MS := (sSeq (sSet 9 (xCall k_law_draw f_law_draw (aCons (xVar 0) (aCons (xC (.int 4)) (aNil)))))
    (sSeq (sSet 10 (x2 oIx (xLst (aCons (x2 oGt (xVar 9) (xC (.int 1))) (aCons (x2 oEq (xVar 6) (xC (.int 0))) (aCons (x2 oLt (xVar 7) (xVar 4)) (aCons (x2 oLt (xVar 6) (x2 oAdd (x2 oMod (xVar 4) (xC (.int 5))) (xVar 9))) (aNil)))))) (xVar 3)))
    (sIf (mOr (tB1 (x2 oEq (xVar 6) (xC (.int 0)))) (mAnd (tB1 (x2 oLt (xVar 7) (xC (.int 100)))) (tV1 (xVar 10))))
    (sSeq (sIf (tB1 (x2 oEq (xVar 7) (xC (.int 100))))
    (sRet (xVar 5))
    (sNext))
    (sPar3 5 6 7 (aCons (x2 oAdd (xVar 5) (xC (.str "+"))) (aCons (x2 oAdd (xVar 6) (xC (.int 1))) (aCons (x2 oAdd (xVar 7) (xC (.int 1))) (aNil))))))
    (sPar 5 6 (aCons (x2 oAdd (xVar 5) (xC (.str "-"))) (aCons (x2 oSub (xVar 6) (xC (.int 1))) (aNil)))))))
abbrev eS (q : D) (ns : List Int) (m s w : Int) (l : List Bool) (s8 s9 s10 : Sl) : Ev := [.io q, .fz (.scr (ns.map D.int)), .fz (.int m), .fz (.int s), .fz (.int w), .fz (.str (sg l)), .fz (.int (run 0 l)), .fz (.int ((l.count true : Nat) : Int)), s8, s9, s10]
theorem run_snoc (l : List Bool) (b : Bool) : run 0 (l ++ [b]) = nxt (run 0 l) b := by
  unfold run
  rw [List.foldl_append]
  rfl
theorem turn_s {p : D} {n : Nat} (hp : PoolOk p n) (hn : n < 2 ^ 60) (ns : List Int) (m w : Int) (s : Nat) (hs : s < 4) (l : List Bool) (hg : good 0 l = true) (hc : l.count true ≤ 100) (hl : l.length < 1000) (s8 s9 s10 : Sl) (h9 : isIo s9 = false) (h10 : isIo s10 = false) :
    ∃ (q : D) (t9 t10 : Sl), PoolOk q (n + 1) ∧ isIo t9 = false ∧ isIo t10 = false ∧ (bTurn (eS p ns m s w l s8 s9 s10) = .rt (.val (.str (sg l))) (eS q ns m s w l s8 t9 t10) ∨
      ∃ b, good 0 (l ++ [b]) = true ∧ (l ++ [b]).count true ≤ 100 ∧ bTurn (eS p ns m s w l s8 s9 s10) = .nx (eS q ns m s w (l ++ [b]) s8 t9 t10)) := by
  obtain ⟨h, q, d1, d2, d3⟩ := drw (m := 4) hp (by omega) (by decide) (by decide)
  have at4 : ∃ u : Bool, atD [.bl (decide ((1 : Int) < h)), .bl ((run 0 l : Int) == 0), .bl (decide (((l.count true : Nat) : Int) < w)), .bl (decide ((run 0 l : Int) < w % 5 + h))] (s : Int) = some (.bl u) := by
    match s, hs with
    | 0, _ => exact ⟨_, rfl⟩
    | 1, _ => exact ⟨_, rfl⟩
    | 2, _ => exact ⟨_, rfl⟩
    | 3, _ => exact ⟨_, rfl⟩
  obtain ⟨u, at4⟩ := at4
  have cm := cMod_b (i := w) (j := 5) (by decide)
  refine ⟨q, .fz (.int h), .fz (.bl u), d3, rfl, rfl, ?_⟩
  have hz : (sg l).length + 1 ≤ 16777216 := by rw [sg_len]; omega
  have hzp : (sg l).length + ("+" : Str).length ≤ 16777216 := hz
  have hzm : (sg l).length + ("-" : Str).length ≤ 16777216 := hz
  have ap := app_p l
  have am := app_m l
  have cu : (((l ++ [true]).count true : Nat) : Int) = ((l.count true : Nat) : Int) + 1 := by rw [List.count_append]; simp
  have cd : (((l ++ [false]).count true : Nat) : Int) = ((l.count true : Nat) : Int) := by rw [List.count_append]; simp
  have ru : ((run 0 (l ++ [true]) : Nat) : Int) = (run 0 l : Int) + 1 := by rw [run_snoc]; rfl
  have upw : ∀ (hlt : l.count true < 100), good 0 (l ++ [true]) = true ∧ (l ++ [true]).count true ≤ 100 := fun hlt => ⟨by rw [good_up]; exact hg, by omega⟩
  have g1 : (sSet 9 (xCall k_law_draw f_law_draw (aCons (xVar 0) (aCons (xC (.int 4)) (aNil))))) (eS p ns m s w l s8 s9 s10) = .nx (eS q ns m s w l s8 (.fz (.int h)) s10) := by
    clear at4 cm hz hzp hzm ap am cu cd ru upw hg hc hl d2 d3 hp hn hs
    walk_at "ev"
  have g2 : (sSet 10 (x2 oIx (xLst (aCons (x2 oGt (xVar 9) (xC (.int 1))) (aCons (x2 oEq (xVar 6) (xC (.int 0))) (aCons (x2 oLt (xVar 7) (xVar 4)) (aCons (x2 oLt (xVar 6) (x2 oAdd (x2 oMod (xVar 4) (xC (.int 5))) (xVar 9))) (aNil)))))) (xVar 3))) (eS q ns m s w l s8 (.fz (.int h)) s10) = .nx (eS q ns m s w l s8 (.fz (.int h)) (.fz (.bl u))) := by
    clear hz hzp hzm ap am cu cd ru upw hg hc hl d1 d2 d3 hp hn hs g1
    walk_at "ev"
  show bTurn _ = _ ∨ ∃ b, _ ∧ _ ∧ bTurn _ = _
  unfold bTurn
  rw [seq_nx g1, seq_nx g2]
  clear g1 g2 at4 d1 d2 d3 cm hp
  by_cases r0 : run 0 l = 0
  · have e0 : ((run 0 l : Int) == 0) = true := by rw [r0]; rfl
    by_cases c1 : l.count true = 100
    · left
      have e1 : (((l.count true : Nat) : Int) == 100) = true := by rw [c1]; rfl
      clear hg hc hl hn cu cd ru upw r0 c1 hs ap am
      walk_at "ev"
    · right
      obtain ⟨u1, u2⟩ := upw (by omega)
      refine ⟨true, u1, u2, ?_⟩
      have e1 : (((l.count true : Nat) : Int) == 100) = false := by rw [beq_eq_false_iff_ne]; omega
      show _ = F.nx [_, _, _, _, _, _, .fz (.int ((run 0 (l ++ [true]) : Nat) : Int)), .fz (.int (((l ++ [true]).count true : Nat) : Int)), _, _, _]
      rw [ru, cu]
      clear hg hc hl hn cu cd ru upw r0 c1 hs am u1 u2
      walk_at "ev"
  · have e0 : ((run 0 l : Int) == 0) = false := by rw [beq_eq_false_iff_ne]; omega
    have down : good 0 (l ++ [false]) = true := good_dn l 0 hg (by omega)
    have rd : ((run 0 (l ++ [false]) : Nat) : Int) = (run 0 l : Int) - 1 := by rw [run_snoc]; show ((run 0 l - 1 : Nat) : Int) = _; omega
    by_cases c1 : ((l.count true : Nat) : Int) < 100
    · have e1 : (((l.count true : Nat) : Int) == 100) = false := by rw [beq_eq_false_iff_ne]; omega
      obtain ⟨u1, u2⟩ := upw (by omega)
      right
      cases u with
      | true =>
        refine ⟨true, u1, u2, ?_⟩
        show _ = F.nx [_, _, _, _, _, _, .fz (.int ((run 0 (l ++ [true]) : Nat) : Int)), .fz (.int (((l ++ [true]).count true : Nat) : Int)), _, _, _]
        rw [ru, cu]
        clear hg hc hl hn cu cd ru upw r0 hs am u1 u2 down rd
        walk_at "ev"
      | false =>
        refine ⟨false, down, by omega, ?_⟩
        show _ = F.nx [_, _, _, _, _, _, .fz (.int ((run 0 (l ++ [false]) : Nat) : Int)), .fz (.int (((l ++ [false]).count true : Nat) : Int)), _, _, _]
        rw [rd, cd]
        clear hg hc hl hn cu cd ru upw r0 hs ap u1 u2 down rd
        walk_at "ev"
    · right
      refine ⟨false, down, by omega, ?_⟩
      show _ = F.nx [_, _, _, _, _, _, .fz (.int ((run 0 (l ++ [false]) : Nat) : Int)), .fz (.int (((l ++ [false]).count true : Nat) : Int)), _, _, _]
      rw [rd, cd]
      clear hg hc hl hn cu cd ru upw r0 hs ap down rd
      walk_at "ev"
end Law

namespace Law
open PySem L2 DL
local macro_rules | `(tactic| walk_at "ev") => `(tactic| simp (decide := true) only [ev_rdE, ev_xRd, ev_M_bind, ev_M_pure, ev_xC, ev_xVar, ev_x1, ev_x2, ev_x3, ev_xN, ev_aNil, ev_aCons, ev_sSeq, ev_sIf, ev_sSet, ev_sRet, ev_sDrop, ev_sNext, ev_sBr, ev_sCt, ev_sRetN, ev_sAug, ev_sPut, ev_sUnp, ev_sPar, ev_sPar3, ev_xLst, ev_xTup, ev_tB1, ev_tV1, ev_mAnd, ev_mOr, ev_mNot, ev_xAnd, ev_xOr, ev_xNot, ev_xIf, ev_xMut, ev_mutE, ev_gNm, ev_gTp, ev_gNl, ev_gCs, ev_iSeq, ev_iRange, ev_iFrz, ev_xCall, ev_callE, ev_sRaise, ev_xSl, ev_pNone, ev_pSome, ev_oAddI, ev_oSub, ev_oLt, ev_oLe, ev_oGt, ev_oGe, ev_oMulI, ev_oMod, ev_oDiv, ev_oPow, isT, rCount, peek, peeks, slotD, Sl.get, parE, par3E, isSlot, isIo_no, isIo_fz, isIo_ow, ev_sto, stoV, frz, frzs, truth, oAdd, oMul, oNeg, oLen, oMax, oMin, oAbs, oInt, iAdd, oIx, ownL, putL, finO, finF, outs, env0, fzs, argsD, ioR, putO, mAppend, mExtend, mPop, oList, oIsN, oNotN, oEq, oNe, sclD, ixN, PySem.sizeLine_eq, List.replicate_succ, List.replicate_zero, List.getElem?_cons_zero, List.getElem?_cons_succ, List.getElem?_nil, List.set_cons_zero, List.set_cons_succ, List.length_cons, List.length_nil, List.length_map, List.length_replicate, List.length_range, Option.map_some, Option.map_none, Nat.reduceAdd, Nat.reduceSub, Nat.reduceLT, Nat.reduceLeDiff, Nat.zero_add, Nat.add_zero, Int.reduceToNat, Int.reducePow, Int.reduceAdd, Int.reduceMul, Int.reduceSub, Int.reduceNeg, ↓reduceIte, ite_true, ite_false, if_true, if_false, decide_true, decide_false, Bool.and_true, Bool.true_and, Bool.false_and, Bool.and_false, Bool.not_true, Bool.not_false, Bool.or_true, Bool.true_or, Bool.false_or, Bool.or_false, Bool.and_self, Bool.or_self, Bool.false_eq_true, reduceCtorEq, List.cons_append, List.nil_append, List.append_nil, List.map_cons, List.map_nil, not_true_eq_false, not_false_eq_true, List.nodup_nil, List.nodup_cons, List.not_mem_nil, and_self, and_true, true_and, beq_self_eq_true, bne_self_eq_false, wipeE, *])
local macro_rules | `(tactic| walk_at "evs") => `(tactic| simp [ev_rdE, ev_xRd, ev_M_bind, ev_M_pure, ev_xC, ev_xVar, ev_x1, ev_x2, ev_x3, ev_xN, ev_aNil, ev_aCons, ev_sSeq, ev_sIf, ev_sSet, ev_sRet, ev_sDrop, ev_sNext, ev_sBr, ev_sCt, ev_sRetN, ev_sAug, ev_sPut, ev_sUnp, ev_sPar, ev_sPar3, ev_xLst, ev_xTup, ev_tB1, ev_tV1, ev_mAnd, ev_mOr, ev_mNot, ev_xAnd, ev_xOr, ev_xNot, ev_xIf, ev_xMut, ev_mutE, ev_gNm, ev_gTp, ev_gNl, ev_gCs, ev_iSeq, ev_iRange, ev_iFrz, ev_xCall, ev_callE, ev_sRaise, ev_xSl, ev_pNone, ev_pSome, ev_oAddI, ev_oSub, ev_oLt, ev_oLe, ev_oGt, ev_oGe, ev_oMulI, ev_oMod, ev_oDiv, ev_oPow, isT, rCount, peek, peeks, slotD, Sl.get, parE, par3E, isSlot, isIo_no, isIo_fz, isIo_ow, ev_sto, stoV, frz, frzs, truth, oAdd, oMul, oNeg, oLen, oMax, oMin, oAbs, oInt, iAdd, oIx, ownL, putL, finO, finF, outs, env0, fzs, argsD, ioR, putO, mAppend, mExtend, mPop, oList, oIsN, oNotN, oEq, oNe, sclD, ixN, PySem.sizeLine_eq, *])

theorem pool_mono {p : D} {n k : Nat} (h : PoolOk p n) (hk : n ≤ k) : PoolOk p k := by
  obtain ⟨a, b, c, rfl, h1, h2, h3, h4, h5⟩ := h
  exact ⟨a, b, c, rfl, h1, h2, h3, h4, by omega⟩
theorem signs_loop (ns : List Int) (m w : Int) (s : Nat) (hs : s < 4) : ∀ (ts : List Int) (p : D) (n : Nat) (l : List Bool) (s8 s9 s10 : Sl), PoolOk p n → n + ts.length < 2 ^ 60 → good 0 l = true → l.count true ≤ 100 → l.length + ts.length ≤ 200 → isIo s8 = false → isIo s9 = false → isIo s10 = false →
    ∃ (q : D) (l' : List Bool) (t8 t9 t10 : Sl), PoolOk q (n + ts.length) ∧ Shp l' ∧ (loopF (gNm 8) bTurn (ts.map D.int) (eS p ns m s w l s8 s9 s10) = .nx (eS q ns m s w l' t8 t9 t10) ∨ loopF (gNm 8) bTurn (ts.map D.int) (eS p ns m s w l s8 s9 s10) = .rt (.val (.str (sg l'))) (eS q ns m s w l' t8 t9 t10))
  | [], p, n, l, s8, s9, s10, hp, hn, hg, hc, hl, h8, h9, h10 => ⟨p, l, s8, s9, s10, hp, ⟨hl, hc, hg⟩, .inl rfl⟩
  | t :: ts, p, n, l, s8, s9, s10, hp, hn, hg, hc, hl, h8, h9, h10 => by
    simp only [List.length_cons] at hn hl
    obtain ⟨q, t9, t10, q1, q2, q3, q4⟩ := turn_s hp (by omega) ns m w s hs l hg hc (by omega) (.fz (.int t)) s9 s10 h9 h10
    have g : gNm 8 (.int t) (eS p ns m s w l s8 s9 s10) = some (eS p ns m s w l (.fz (.int t)) s9 s10) := by
      rw [ev_gNm]
      show (if isIo s8 = true then none else some _) = _
      rw [h8]
      rfl
    rcases q4 with q4 | ⟨b, b1, b2, b3⟩
    · refine ⟨q, l, .fz (.int t), t9, t10, pool_mono q1 (by simp only [List.length_cons]; omega), ⟨by omega, hc, hg⟩, .inr ?_⟩
      show loopF (gNm 8) bTurn (.int t :: ts.map D.int) _ = _
      unfold loopF
      simp only [g]
      rw [show bTurn (eS p ns m s w l (.fz (.int t)) s9 s10) = _ from q4]
    · obtain ⟨q', l', u8, u9, u10, r1, r2, r3⟩ := signs_loop ns m w s hs ts q (n + 1) (l ++ [b]) (.fz (.int t)) t9 t10 q1 (by omega) b1 b2 (by rw [List.length_append, List.length_singleton]; omega) rfl q2 q3
      refine ⟨q', l', u8, u9, u10, pool_mono r1 (by simp only [List.length_cons]; omega), r2, ?_⟩
      have e : loopF (gNm 8) bTurn ((t :: ts).map D.int) (eS p ns m s w l s8 s9 s10) = loopF (gNm 8) bTurn (ts.map D.int) (eS q ns m s w (l ++ [b]) (.fz (.int t)) t9 t10) := by
        show loopF (gNm 8) bTurn (.int t :: ts.map D.int) _ = _
        conv => lhs; unfold loopF
        simp only [g]
        rw [show bTurn (eS p ns m s w l (.fz (.int t)) s9 s10) = _ from b3]
      rw [e]
      exact r3
theorem lay_ints : ∀ ns : List Int, PyData.canLayAll0 (ns.map PyData.int) = true
  | [] => rfl
  | _ :: r => lay_ints r
theorem dep_ints : ∀ ns : List Int, PyData.depthAll (ns.map PyData.int) = 0
  | [] => rfl
  | _ :: r => by
    show max 0 (PyData.depthAll (r.map PyData.int)) = 0
    rw [dep_ints r]; rfl
theorem shp_ints (ns : List Int) : shp (.scr (ns.map D.int)) = true := by
  have e : toPyL (ns.map D.int) = ns.map PyData.int := by rw [toPyL_map, List.map_map]; rfl
  have h1 := lay_ints ns
  have h2 := dep_ints ns
  show ((PyData.canLayAll0 (toPyL (ns.map D.int))) && decide (PyData.depthAll (toPyL (ns.map D.int)) + 1 ≤ 64)) = true
  rw [e, h1, h2]
  rfl
theorem rg1n {j : Int} (h0 : 0 ≤ j) (h : j ≤ 200) : ∃ l : List Int, rangeD1 [.int j] = some (l.map D.int) ∧ (l.length : Int) = j := by
  refine ⟨(List.range j.toNat).map fun (i : Nat) => 0 + (i : Int) * 1, ?_, by rw [List.length_map, List.length_range]; omega⟩
  show (if fit62 j = true then some (rngD 0 1 j.toNat) else none) = _
  rw [if_pos (fit62_mk (by omega)), rngD_map]
theorem signs_ok {p : D} {n : Nat} (hp : PoolOk p n) (hn : n < 2 ^ 50) (ns : List Int) : ∃ (q : D) (l : List Bool), PoolOk q (n + 300) ∧ Shp l ∧ f_law_signs [p, .scr (ns.map D.int)] = .ok false (.str (sg l)) [q] := by
  obtain ⟨d1, p1, a1, b1, c1⟩ := drw (m := 8) hp (by omega) (by decide) (by decide)
  obtain ⟨d2, p2, a2, b2, c2⟩ := drw (m := 60) c1 (by omega) (by decide) (by decide)
  obtain ⟨d3, p3, a3, b3, c3⟩ := drw (m := 3) c2 (by omega) (by decide) (by decide)
  obtain ⟨d4, p4, a4, b4, c4⟩ := drw (m := 4) c3 (by omega) (by decide) (by decide)
  obtain ⟨d5, p5, a5, b5, c5⟩ := drw (m := 100) c4 (by omega) (by decide) (by decide)
  have at3 : ∃ m : Int, (0 ≤ m ∧ m ≤ 200) ∧ atD [.int (1 + (d1 : Int)), .int (1 + (d2 : Int)), .int 200] (d3 : Int) = some (.int m) := by
    have hd3 : d3 < 3 := by omega
    match d3, hd3 with
    | 0, _ => exact ⟨_, by omega, rfl⟩
    | 1, _ => exact ⟨_, by omega, rfl⟩
    | 2, _ => exact ⟨_, by omega, rfl⟩
  obtain ⟨m0, m1, at3⟩ := at3
  have g1 : (sPar 2 3 (aCons (x2 oIx (xLst (aCons (x2 oAdd (xC (.int 1)) (xCall k_law_draw f_law_draw (aCons (xVar 0) (aCons (xC (.int 8)) (aNil))))) (aCons (x2 oAdd (xC (.int 1)) (xCall k_law_draw f_law_draw (aCons (xVar 0) (aCons (xC (.int 60)) (aNil))))) (aCons (xC (.int 200)) (aNil))))) (xCall k_law_draw f_law_draw (aCons (xVar 0) (aCons (xC (.int 3)) (aNil))))) (aCons (xCall k_law_draw f_law_draw (aCons (xVar 0) (aCons (xC (.int 4)) (aNil)))) (aNil)))) [.io p, .fz (.scr (ns.map D.int)), .no, .no, .no, .no, .no, .no, .no, .no, .no] = .nx [.io p4, .fz (.scr (ns.map D.int)), .fz (.int m0), .fz (.int d4), .no, .no, .no, .no, .no, .no, .no] := by
    clear a5 b1 b2 b3 b4 b5 c1 c2 c3 c4 c5 m1 hp hn
    walk_at "ev"
  have g2 : (sSet 4 (x2 oAdd (xC (.int 1)) (xCall k_law_draw f_law_draw (aCons (xVar 0) (aCons (xC (.int 100)) (aNil)))))) [.io p4, .fz (.scr (ns.map D.int)), .fz (.int m0), .fz (.int d4), .no, .no, .no, .no, .no, .no, .no] = .nx [.io p5, .fz (.scr (ns.map D.int)), .fz (.int m0), .fz (.int d4), .fz (.int (1 + (d5 : Int))), .no, .no, .no, .no, .no, .no] := by
    clear g1 a1 a2 a3 a4 b1 b2 b3 b4 b5 c1 c2 c3 c4 c5 m1 hp hn at3
    walk_at "ev"
  have g3 : ∃ (m w : Int) (s : Nat), (0 ≤ m ∧ m ≤ 200) ∧ s < 4 ∧ (sUnp (gTp 3 (gCs (gNm 2) (gCs (gNm 3) (gCs (gNm 4) (gNl))))) (xIf (tB1 (x2 oEq (xVar 1) (xLst (aNil)))) (xTup (aCons (xC (.int 6)) (aCons (xC (.int 0)) (aCons (xC (.int 3)) (aNil))))) (xTup (aCons (xVar 2) (aCons (xVar 3) (aCons (xVar 4) (aNil))))))) [.io p5, .fz (.scr (ns.map D.int)), .fz (.int m0), .fz (.int d4), .fz (.int (1 + (d5 : Int))), .no, .no, .no, .no, .no, .no] = .nx [.io p5, .fz (.scr (ns.map D.int)), .fz (.int m), .fz (.int s), .fz (.int w), .no, .no, .no, .no, .no, .no] := by
    have hd4 : d4 < 4 := by omega
    have sh := shp_ints ns
    have sh2 : shp (.lst []) = true := by decide
    cases hb : deq (.scr (ns.map D.int)) (.lst []) with
    | true =>
      have eqv : oEqT (.scr (ns.map D.int)) (.lst []) = some (.val (.bl true)) := by unfold oEqT; rw [sh, sh2, hb]; rfl
      refine ⟨6, 3, 0, by decide, by decide, ?_⟩
      clear g1 g2 a1 a2 a3 a4 a5 b1 b2 b3 b4 b5 c1 c2 c3 c4 c5 m1 hp hn at3 sh sh2 hb hd4
      show _ = F.nx [.io p5, .fz (.scr (ns.map D.int)), .fz (.int 6), .fz (.int 0), .fz (.int 3), .no, .no, .no, .no, .no, .no]
      walk_at "ev"
    | false =>
      have eqv : oEqT (.scr (ns.map D.int)) (.lst []) = some (.val (.bl false)) := by unfold oEqT; rw [sh, sh2, hb]; rfl
      refine ⟨m0, 1 + (d5 : Int), d4, m1, hd4, ?_⟩
      clear g1 g2 a1 a2 a3 a4 a5 b1 b2 b3 b4 b5 c1 c2 c3 c4 c5 m1 hp hn at3 sh sh2 hb hd4
      walk_at "ev"
  obtain ⟨m, w, s, hm, hs, g3⟩ := g3
  have g4 : (sUnp (gTp 3 (gCs (gNm 5) (gCs (gNm 6) (gCs (gNm 7) (gNl))))) (xTup (aCons (xC (.str "")) (aCons (xC (.int 0)) (aCons (xC (.int 0)) (aNil)))))) [.io p5, .fz (.scr (ns.map D.int)), .fz (.int m), .fz (.int s), .fz (.int w), .no, .no, .no, .no, .no, .no] = .nx (eS p5 ns m s w [] .no .no .no) := by
    clear g1 g2 g3 a1 a2 a3 a4 a5 b1 b2 b3 b4 b5 c1 c2 c3 c4 c5 m1 hp hn at3 hm hs
    show _ = F.nx [.io p5, .fz (.scr (ns.map D.int)), .fz (.int m), .fz (.int s), .fz (.int w), .fz (.str ""), .fz (.int 0), .fz (.int 0), .no, .no, .no]
    walk_at "ev"
  obtain ⟨ts, t1, t2⟩ := rg1n hm.1 hm.2
  obtain ⟨q, l, t8, t9, t10, r1, r2, r3⟩ := signs_loop ns m w s hs ts p5 (n + 1 + 1 + 1 + 1 + 1) [] .no .no .no c5 (by omega) rfl (by decide) (by show 0 + ts.length ≤ 200; omega) rfl rfl rfl
  refine ⟨q, l, pool_mono r1 (by omega), r2, ?_⟩
  have hi : iRange rangeD1 (aCons (xVar 2) (aNil)) (eS p5 ns m s w [] .no .no .no) = .ok (ts.map D.int) (eS p5 ns m s w [] .no .no .no) := by
    clear g1 g2 g3 g4 a1 a2 a3 a4 a5 b1 b2 b3 b4 b5 c1 c2 c3 c4 c5 m1 hp hn at3 hm hs r1 r2 r3 t2
    walk_at "ev"
  unfold f_law_signs
  rw [mkF_app _ _ _ _ rfl]
  unfold m_law_signs
  rw [show (env0 k_law_signs [p, .scr (ns.map D.int)] ++ List.replicate (11 - k_law_signs.length) .no) = [.io p, .fz (.scr (ns.map D.int)), .no, .no, .no, .no, .no, .no, .no, .no, .no] from rfl]
  rw [seq_nx g1, seq_nx g2, seq_nx g3, seq_nx g4]
  have hf : ∀ x, loopF (gNm 8) bTurn (ts.map D.int) (eS p5 ns m s w [] .no .no .no) = x → sFor (iRange rangeD1 (aCons (xVar 2) (aNil))) (gNm 8) bTurn (eS p5 ns m s w [] .no .no .no) = x := fun x hx => by
    unfold sFor
    rw [hi]
    exact hx
  rcases r3 with r3 | r3
  · rw [seq_nx (hf _ r3)]
    rfl
  · rw [seq_rt (hf _ r3)]
    rfl
end Law

namespace Law
open PySem L2 DL
local macro_rules | `(tactic| walk_at "ev") => `(tactic| simp (decide := true) only [ev_rdE, ev_xRd, ev_M_bind, ev_M_pure, ev_xC, ev_xVar, ev_x1, ev_x2, ev_x3, ev_xN, ev_aNil, ev_aCons, ev_sSeq, ev_sIf, ev_sSet, ev_sRet, ev_sDrop, ev_sNext, ev_sBr, ev_sCt, ev_sRetN, ev_sAug, ev_sPut, ev_sUnp, ev_sPar, ev_sPar3, ev_xLst, ev_xTup, ev_tB1, ev_tV1, ev_mAnd, ev_mOr, ev_mNot, ev_xAnd, ev_xOr, ev_xNot, ev_xIf, ev_xMut, ev_mutE, ev_gNm, ev_gTp, ev_gNl, ev_gCs, ev_iSeq, ev_iRange, ev_iFrz, ev_xCall, ev_callE, ev_sRaise, ev_xSl, ev_pNone, ev_pSome, ev_oAddI, ev_oSub, ev_oLt, ev_oLe, ev_oGt, ev_oGe, ev_oMulI, ev_oMod, ev_oDiv, ev_oPow, isT, rCount, peek, peeks, slotD, Sl.get, parE, par3E, isSlot, isIo_no, isIo_fz, isIo_ow, ev_sto, stoV, frz, frzs, truth, oAdd, oMul, oNeg, oLen, oMax, oMin, oAbs, oInt, iAdd, oIx, ownL, putL, finO, finF, outs, env0, fzs, argsD, ioR, putO, mAppend, mExtend, mPop, oList, oIsN, oNotN, oEq, oNe, sclD, ixN, PySem.sizeLine_eq, List.replicate_succ, List.replicate_zero, List.getElem?_cons_zero, List.getElem?_cons_succ, List.getElem?_nil, List.set_cons_zero, List.set_cons_succ, List.length_cons, List.length_nil, List.length_map, List.length_replicate, List.length_range, Option.map_some, Option.map_none, Nat.reduceAdd, Nat.reduceSub, Nat.reduceLT, Nat.reduceLeDiff, Nat.zero_add, Nat.add_zero, Int.reduceToNat, Int.reducePow, Int.reduceAdd, Int.reduceMul, Int.reduceSub, Int.reduceNeg, ↓reduceIte, ite_true, ite_false, if_true, if_false, decide_true, decide_false, Bool.and_true, Bool.true_and, Bool.false_and, Bool.and_false, Bool.not_true, Bool.not_false, Bool.or_true, Bool.true_or, Bool.false_or, Bool.or_false, Bool.and_self, Bool.or_self, Bool.false_eq_true, reduceCtorEq, List.cons_append, List.nil_append, List.append_nil, List.map_cons, List.map_nil, not_true_eq_false, not_false_eq_true, List.nodup_nil, List.nodup_cons, List.not_mem_nil, and_self, and_true, true_and, beq_self_eq_true, bne_self_eq_false, wipeE, *])
local macro_rules | `(tactic| walk_at "evs") => `(tactic| simp [ev_rdE, ev_xRd, ev_M_bind, ev_M_pure, ev_xC, ev_xVar, ev_x1, ev_x2, ev_x3, ev_xN, ev_aNil, ev_aCons, ev_sSeq, ev_sIf, ev_sSet, ev_sRet, ev_sDrop, ev_sNext, ev_sBr, ev_sCt, ev_sRetN, ev_sAug, ev_sPut, ev_sUnp, ev_sPar, ev_sPar3, ev_xLst, ev_xTup, ev_tB1, ev_tV1, ev_mAnd, ev_mOr, ev_mNot, ev_xAnd, ev_xOr, ev_xNot, ev_xIf, ev_xMut, ev_mutE, ev_gNm, ev_gTp, ev_gNl, ev_gCs, ev_iSeq, ev_iRange, ev_iFrz, ev_xCall, ev_callE, ev_sRaise, ev_xSl, ev_pNone, ev_pSome, ev_oAddI, ev_oSub, ev_oLt, ev_oLe, ev_oGt, ev_oGe, ev_oMulI, ev_oMod, ev_oDiv, ev_oPow, isT, rCount, peek, peeks, slotD, Sl.get, parE, par3E, isSlot, isIo_no, isIo_fz, isIo_ow, ev_sto, stoV, frz, frzs, truth, oAdd, oMul, oNeg, oLen, oMax, oMin, oAbs, oInt, iAdd, oIx, ownL, putL, finO, finF, outs, env0, fzs, argsD, ioR, putO, mAppend, mExtend, mPop, oList, oIsN, oNotN, oEq, oNe, sclD, ixN, PySem.sizeLine_eq, *])

theorem good_take : ∀ (l : List Bool) (r k : Nat), good r l = true → good r (l.take k) = true
  | _, _, 0, _ => by rw [List.take_zero]; rfl
  | [], _, _ + 1, _ => rfl
  | true :: l, r, k + 1, h => good_take l (r + 1) k h
  | false :: _, 0, _ + 1, h => nomatch h
  | false :: l, r + 1, k + 1, h => good_take l r k h
theorem Shp.take {l : List Bool} (h : Shp l) (k : Nat) : Shp (l.take k) :=
  ⟨by rw [List.length_take]; have := h.len; omega, Nat.le_trans (List.Sublist.count_le _ (List.take_sublist k l)) h.st, good_take l 0 k h.gd⟩
abbrev full : List Bool := List.replicate 100 true ++ List.replicate 100 false
theorem full_shp : Shp full := ⟨by decide, by decide, by decide⟩
theorem mul_p : Txt.mul "+" 100 = sg (List.replicate 100 true) := by rfl
theorem mul_m : Txt.mul "-" 100 = sg (List.replicate 100 false) := by rfl
theorem full_ok : f_law_right [.str (sg (List.replicate 100 true) ++ sg (List.replicate 100 false))] = .ok false (.bl true) [] := by
  rw [sg_app]
  exact right_ok full_shp
abbrev cCuts : M Opd := xComp (iSeq (xVar 4)) (gNm 5) (mNot (tV1 (xCall k_law_right f_law_right (aCons (xSl (xVar 3) pNone (pSome (xVar 5))) (aNil))))) (xC (.int 1)) [5]
theorem cuts_ok {l : List Bool} (h : Shp l) (a b c : Sl) (q : List Nat) (hq : q.length ≤ 1000) : cCuts [a, b, c, .fz (.str (sg l)), .ow (.lst (q.map fun (n : Nat) => D.int (n : Int))), .no] = .ok (.tmp (.lst [])) [a, b, c, .fz (.str (sg l)), .fz (.lst (q.map fun (n : Nat) => D.int (n : Int))), .no] := by
  have hi : iSeq (xVar 4) [a, b, c, .fz (.str (sg l)), .ow (.lst (q.map fun (n : Nat) => D.int (n : Int))), .no] = .ok (q.map fun (n : Nat) => D.int (n : Int)) [a, b, c, .fz (.str (sg l)), .fz (.lst (q.map fun (n : Nat) => D.int (n : Int))), .no] := rfl
  obtain ⟨e', k1, k2⟩ := xComp_filter (gt := gNm 5) (cond := mNot (tV1 (xCall k_law_right f_law_right (aCons (xSl (xVar 3) pNone (pSome (xVar 5))) (aNil))))) (elt := xC (.int 1)) (own := [5]) hi (by rw [List.length_map, sizeLine_eq]; omega)
    (fun e => e = [a, b, c, .fz (.str (sg l)), .fz (.lst (q.map fun (n : Nat) => D.int (n : Int))), .no]) (fun _ => false) (fun d => d) rfl (fun x m e he => by
      subst he
      obtain ⟨n, mn, rfl⟩ := List.mem_map.mp m
      refine ⟨[a, b, c, .fz (.str (sg l)), .fz (.lst (q.map fun (n : Nat) => D.int (n : Int))), .fz (.int (n : Int))], rfl, [a, b, c, .fz (.str (sg l)), .fz (.lst (q.map fun (n : Nat) => D.int (n : Int))), .fz (.int (n : Int))], ?_, fun _ => rfl, fun z => nomatch z⟩
      have r := right_ok (h.take n)
      have hz : (sg l).length ≤ 16777216 := by rw [sg_len]; have := h.len; omega
      have os : oSl (.str (sg l)) none (some (n : Int)) = some (.val (.str (sg (l.take n)))) := by
        show (if (sg l).length ≤ sizeLine then some (Opd.val (.str (cutS (sg l) none (some (n : Int))))) else none) = _
        rw [if_pos (by rw [sizeLine_eq]; exact hz), sg_cut]
      generalize (q.map fun (n : Nat) => D.int (n : Int)) = Q at *
      clear hi m mn hq hz h
      walk_at "ev")
  subst k2
  rw [show (List.filter (fun _ => false) (q.map fun (n : Nat) => D.int (n : Int))) = [] from List.filter_eq_nil_iff.mpr fun _ _ z => nomatch z] at k1
  exact k1
abbrev bLaw : MS := (sSeq (sSet 2 (xCall k_law_pool f_law_pool (aCons (xVar 0) (aCons (xVar 1) (aNil)))))
    (sSeq (sSet 3 (xCall k_law_signs f_law_signs (aCons (xVar 2) (aCons (xVar 0) (aNil)))))
    (sSeq (sSet 4 (xLst (aCons (xN oLen (aCons (xVar 3) (aNil))) (aCons (xC (.int 0)) (aCons (xCall k_law_draw f_law_draw (aCons (xVar 2) (aCons (x2 oAdd (xN oLen (aCons (xVar 3) (aNil))) (xC (.int 1))) (aNil)))) (aCons (xCall k_law_draw f_law_draw (aCons (xVar 2) (aCons (x2 oAdd (xN oLen (aCons (xVar 3) (aNil))) (xC (.int 1))) (aNil)))) (aNil)))))))
    (sIf (mOr (tB1 (x2 oNe (xComp (iSeq (xVar 4)) (gNm 5) (mNot (tV1 (xCall k_law_right f_law_right (aCons (xSl (xVar 3) pNone (pSome (xVar 5))) (aNil))))) (xC (.int 1)) [5]) (xLst (aNil)))) (mNot (tV1 (xCall k_law_right f_law_right (aCons (x2 oAdd (x2 oMul (xC (.str "+")) (xC (.int 100))) (x2 oMul (xC (.str "-")) (xC (.int 100)))) (aNil))))))
    (sRet (xC (.bl false)))
    (sNext)))))
theorem body_ok (ns : List Int) (k : Nat) (hk : k < 64) (y2 y3 y4 : Sl) (h2 : isIo y2 = false) (h3 : isIo y3 = false) (h4 : isIo y4 = false) :
    ∃ t2 t3 t4, isIo t2 = false ∧ isIo t3 = false ∧ isIo t4 = false ∧ bLaw [.fz (.scr (ns.map D.int)), .fz (.int k), y2, y3, y4, .no] = .nx [.fz (.scr (ns.map D.int)), .fz (.int k), t2, t3, t4, .no] := by
  obtain ⟨p, p1, p2⟩ := pool_ok ns k hk
  rw [← law_pool_eq] at p1
  obtain ⟨q, l, q1, q2, q3⟩ := signs_ok p2 (by decide) ns
  have len := q2.len
  have hlen : ((sg l).length : Int) = (l.length : Int) := by rw [sg_len]
  obtain ⟨c1, u1, a1, b1, e1⟩ := drw (m := (l.length : Int) + 1) q1 (by decide) (by omega) (by omega)
  obtain ⟨c2, u2, a2, b2, e2⟩ := drw (m := (l.length : Int) + 1) e1 (by decide) (by omega) (by omega)
  have hz : (sg l).length ≤ 16777216 := by rw [sg_len]; omega
  have g1 : (sSet 2 (xCall k_law_pool f_law_pool (aCons (xVar 0) (aCons (xVar 1) (aNil))))) [.fz (.scr (ns.map D.int)), .fz (.int k), y2, y3, y4, .no] = .nx [.fz (.scr (ns.map D.int)), .fz (.int k), .ow p, y3, y4, .no] := by
    clear q3 a1 a2 b1 b2 e1 e2 hz hlen len q2 q1 p2 hk h3 h4
    walk_at "ev"
  have g2 : (sSet 3 (xCall k_law_signs f_law_signs (aCons (xVar 2) (aCons (xVar 0) (aNil))))) [.fz (.scr (ns.map D.int)), .fz (.int k), .ow p, y3, y4, .no] = .nx [.fz (.scr (ns.map D.int)), .fz (.int k), .ow q, .fz (.str (sg l)), y4, .no] := by
    clear g1 p1 a1 a2 b1 b2 e1 e2 hz hlen len q2 q1 p2 hk h2 h4
    walk_at "ev"
  have g3 : (sSet 4 (xLst (aCons (xN oLen (aCons (xVar 3) (aNil))) (aCons (xC (.int 0)) (aCons (xCall k_law_draw f_law_draw (aCons (xVar 2) (aCons (x2 oAdd (xN oLen (aCons (xVar 3) (aNil))) (xC (.int 1))) (aNil)))) (aCons (xCall k_law_draw f_law_draw (aCons (xVar 2) (aCons (x2 oAdd (xN oLen (aCons (xVar 3) (aNil))) (xC (.int 1))) (aNil)))) (aNil))))))) [.fz (.scr (ns.map D.int)), .fz (.int k), .ow q, .fz (.str (sg l)), y4, .no] = .nx [.fz (.scr (ns.map D.int)), .fz (.int k), .ow u2, .fz (.str (sg l)), .ow (.lst ([l.length, 0, c1, c2].map fun (n : Nat) => D.int (n : Int))), .no] := by
    show _ = F.nx [.fz (.scr (ns.map D.int)), .fz (.int k), .ow u2, .fz (.str (sg l)), .ow (.lst [.int (l.length : Int), .int 0, .int c1, .int c2]), .no]
    clear g1 g2 p1 b1 b2 e1 e2 len q2 q1 q3 p2 hk h2 h3
    walk_at "ev"
  have cc := cuts_ok q2 (.fz (.scr (ns.map D.int))) (.fz (.int k)) (.ow u2) [l.length, 0, c1, c2] (by show 4 ≤ 1000; decide)
  have nn : oNeT (.lst []) (.lst []) = some (.val (.bl false)) := by rfl
  have fo := full_ok
  have m1 := mul_p
  have m2 := mul_m
  have f1 : fit62 100 = true := by decide
  have z1 : ("+" : Str).length * 100 ≤ 16777216 := by decide
  have z2 : ("-" : Str).length * 100 ≤ 16777216 := by decide
  have z3 : (sg (List.replicate 100 true)).length + (sg (List.replicate 100 false)).length ≤ 16777216 := by rw [sg_len, sg_len, List.length_replicate, List.length_replicate]; decide
  refine ⟨.ow u2, .fz (.str (sg l)), .fz (.lst ([l.length, 0, c1, c2].map fun (n : Nat) => D.int (n : Int))), rfl, rfl, rfl, ?_⟩
  have g4 : (mOr (tB1 (x2 oNe (xComp (iSeq (xVar 4)) (gNm 5) (mNot (tV1 (xCall k_law_right f_law_right (aCons (xSl (xVar 3) pNone (pSome (xVar 5))) (aNil))))) (xC (.int 1)) [5]) (xLst (aNil)))) (mNot (tV1 (xCall k_law_right f_law_right (aCons (x2 oAdd (x2 oMul (xC (.str "+")) (xC (.int 100))) (x2 oMul (xC (.str "-")) (xC (.int 100)))) (aNil)))))) [.fz (.scr (ns.map D.int)), .fz (.int k), .ow u2, .fz (.str (sg l)), .ow (.lst ([l.length, 0, c1, c2].map fun (n : Nat) => D.int (n : Int))), .no] = .ok false [.fz (.scr (ns.map D.int)), .fz (.int k), .ow u2, .fz (.str (sg l)), .fz (.lst ([l.length, 0, c1, c2].map fun (n : Nat) => D.int (n : Int))), .no] := by
    generalize ([l.length, 0, c1, c2].map fun (n : Nat) => D.int (n : Int)) = Q at *
    generalize sg (List.replicate 100 true) = S1 at *
    generalize sg (List.replicate 100 false) = S2 at *
    clear g1 g2 g3 p1 a1 a2 b1 b2 e1 e2 hz hlen len q2 q1 q3 p2 hk h2 h3 h4
    walk_at "ev"
  show bLaw _ = _
  unfold bLaw
  rw [seq_nx g1, seq_nx g2, seq_nx g3]
  exact if_f g4
theorem outer (ns : List Int) : ∀ (l : List Int), (∀ x ∈ l, 0 ≤ x ∧ x < 64) → ∀ (s1 s2 s3 s4 : Sl), isIo s1 = false → isIo s2 = false → isIo s3 = false → isIo s4 = false →
    ∃ t1 t2 t3 t4, loopF (gNm 1) bLaw (l.map D.int) [.fz (.scr (ns.map D.int)), s1, s2, s3, s4, .no] = .nx [.fz (.scr (ns.map D.int)), t1, t2, t3, t4, .no]
  | [], _, s1, s2, s3, s4, _, _, _, _ => ⟨s1, s2, s3, s4, rfl⟩
  | x :: r, hl, s1, s2, s3, s4, h1, h2, h3, h4 => by
    have hx := hl x List.mem_cons_self
    obtain ⟨k, rfl⟩ := Int.eq_ofNat_of_zero_le hx.1
    obtain ⟨t2, t3, t4, i2, i3, i4, e⟩ := body_ok ns k (by omega) s2 s3 s4 h2 h3 h4
    obtain ⟨u1, u2, u3, u4, e2⟩ := outer ns r (fun y m => hl y (List.mem_cons_of_mem _ m)) (.fz (.int k)) t2 t3 t4 rfl i2 i3 i4
    refine ⟨u1, u2, u3, u4, ?_⟩
    have g : gNm 1 (.int k) [.fz (.scr (ns.map D.int)), s1, s2, s3, s4, .no] = some [.fz (.scr (ns.map D.int)), .fz (.int k), s2, s3, s4, .no] := by
      rw [ev_gNm]
      show (if isIo s1 = true then none else some _) = _
      rw [h1]
      rfl
    show loopF (gNm 1) bLaw (.int k :: r.map D.int) _ = _
    unfold loopF
    simp only [g]
    rw [show bLaw [.fz (.scr (ns.map D.int)), .fz (.int k), s2, s3, s4, .no] = _ from e]
    exact e2
theorem rg1 {j : Int} (h0 : 0 ≤ j) (h : j ≤ 64) : ∃ l : List Int, rangeD1 [.int j] = some (l.map D.int) ∧ ∀ x ∈ l, 0 ≤ x ∧ x < 64 := by
  refine ⟨(List.range j.toNat).map fun (i : Nat) => 0 + (i : Int) * 1, ?_, fun x m => ?_⟩
  · show (if fit62 j = true then some (rngD 0 1 j.toNat) else none) = _
    rw [if_pos (fit62_mk (by omega)), rngD_map]
  · obtain ⟨i, mi, rfl⟩ := List.mem_map.mp m
    have := List.mem_range.mp mi
    omega
theorem law_true (ns : List Int) (h : ns.length ≤ 63) : f_law [.scr (ns.map D.int)] = .ok false (.bl true) [] := by
  unfold f_law
  rw [mkF_app _ _ _ _ rfl]
  obtain ⟨l, l1, l2⟩ := rg1 (j := max 1 (min 8 (ns.length : Int))) (by omega) (by omega)
  obtain ⟨t1, t2, t3, t4, e⟩ := outer ns l l2 .no .no .no .no rfl rfl rfl rfl
  have f : sFor (iRange rangeD1 (aCons (xN oMax (aCons (xC (.int 1)) (aCons (xN oMin (aCons (xC (.int 8)) (aCons (xN oLen (aCons (xVar 0) (aNil))) (aNil)))) (aNil)))) (aNil))) (gNm 1) bLaw [.fz (.scr (ns.map D.int)), .no, .no, .no, .no, .no] = .nx [.fz (.scr (ns.map D.int)), t1, t2, t3, t4, .no] := by
    have g1 : (iRange rangeD1 (aCons (xN oMax (aCons (xC (.int 1)) (aCons (xN oMin (aCons (xC (.int 8)) (aCons (xN oLen (aCons (xVar 0) (aNil))) (aNil)))) (aNil)))) (aNil))) [.fz (.scr (ns.map D.int)), .no, .no, .no, .no, .no] = .ok (l.map D.int) [.fz (.scr (ns.map D.int)), .no, .no, .no, .no, .no] := by
      clear e l2
      walk_at "ev"
    unfold sFor
    rw [g1]
    exact e
  unfold m_law
  rw [show (env0 k_law [.scr (ns.map D.int)] ++ List.replicate (6 - k_law.length) .no) = [.fz (.scr (ns.map D.int)), .no, .no, .no, .no, .no] from rfl]
  rw [seq_nx f]
  rfl
end Law


open PySem PySem.W PyProof.Rows in
set_option maxRecDepth 100000 in
set_option maxHeartbeats 0 in
theorem PySem.Challenge.cw_latepatches_k55_histories_counted_in_sha_holds : PySem.Challenge.rw_latepatches_k55_histories_counted_in_sha.Holds := by
  w_on; o_law; k_head; (case hw => w_witness2)
  k_fill
  refine Law.walk (l := PySem.Challenge.rw_latepatches_k55_histories_counted_in_sha) rfl rfl rfl (fun w h Y => PySem.W.kIn_of Y) ?F Law.law_true
  case F =>
    intro w mg h KX G base
    refine' Law.facts KX G ?a_is_shape ?l_is_shape ?c_is_shape ?kp_is_shape ?a_check_shape ?l_check_shape ?c_check_shape ?kp_check_shape ?a_choices_in ?l_choices_in ?c_choices_in ?kp_choices_in ?a_product_of ?l_product_of ?c_product_of ?kp_product_of ?a_count_in_shape ?l_count_in_shape ?c_count_in_shape ?kp_count_in_shape ?a_law_pool ?l_law_pool ?c_law_pool ?kp_law_pool ?a_law_draw ?l_law_draw ?c_law_draw ?kp_law_draw ?a_law_signs ?l_law_signs ?c_law_signs ?kp_law_signs ?a_law_ways ?l_law_ways ?c_law_ways ?kp_law_ways ?a_law_every ?l_law_every ?c_law_every ?kp_law_every ?a_law_right ?l_law_right ?c_law_right ?kp_law_right ?a_law ?l_law ?c_law ?kp_law ?z_isinstance ?z_str ?z_len ?z_max ?z_range ?z_int ?z_repr ?z_min ?v_MOST_SIGNS ?r_MOST_SIGNS ?v_START ?r_START ?v_MOST_STARTS ?r_MOST_STARTS ?v_STOP ?r_STOP ?ea_InvalidShapeError ?eq_InvalidShapeError ?ek_InvalidShapeError ?es_InvalidShapeError ?et_InvalidShapeError base
    (case a_is_shape => k_is)
    (case l_is_shape => k_is)
    (case c_is_shape => k_is)
    (case kp_is_shape => k_is)
    (case a_check_shape => k_is)
    (case l_check_shape => k_is)
    (case c_check_shape => k_is)
    (case kp_check_shape => k_is)
    (case a_choices_in => k_is)
    (case l_choices_in => k_is)
    (case c_choices_in => k_is)
    (case kp_choices_in => k_is)
    (case a_product_of => k_is)
    (case l_product_of => k_is)
    (case c_product_of => k_is)
    (case kp_product_of => k_is)
    (case a_count_in_shape => k_is)
    (case l_count_in_shape => k_is)
    (case c_count_in_shape => k_is)
    (case kp_count_in_shape => k_is)
    (case a_law_pool => k_is)
    (case l_law_pool => k_is)
    (case c_law_pool => k_is)
    (case kp_law_pool => k_is)
    (case a_law_draw => k_is)
    (case l_law_draw => k_is)
    (case c_law_draw => k_is)
    (case kp_law_draw => k_is)
    (case a_law_signs => k_is)
    (case l_law_signs => k_is)
    (case c_law_signs => k_is)
    (case kp_law_signs => k_is)
    (case a_law_ways => k_is)
    (case l_law_ways => k_is)
    (case c_law_ways => k_is)
    (case kp_law_ways => k_is)
    (case a_law_every => k_is)
    (case l_law_every => k_is)
    (case c_law_every => k_is)
    (case kp_law_every => k_is)
    (case a_law_right => k_is)
    (case l_law_right => k_is)
    (case c_law_right => k_is)
    (case kp_law_right => k_is)
    (case a_law => k_is)
    (case l_law => k_is)
    (case c_law => k_is)
    (case kp_law => k_is)
    (case z_isinstance => k_is)
    (case z_str => k_is)
    (case z_len => k_is)
    (case z_max => k_is)
    (case z_range => k_is)
    (case z_int => k_is)
    (case z_repr => k_is)
    (case z_min => k_is)
    (case v_MOST_SIGNS => k_is)
    (case r_MOST_SIGNS => exact ⟨_, rfl⟩)
    (case v_START => k_is)
    (case r_START => exact ⟨_, rfl⟩)
    (case v_MOST_STARTS => k_is)
    (case r_MOST_STARTS => exact ⟨_, rfl⟩)
    (case v_STOP => k_is)
    (case r_STOP => exact ⟨_, rfl⟩)
    (case ea_InvalidShapeError => k_is)
    (case eq_InvalidShapeError => k_exc)
    (case ek_InvalidShapeError => k_is)
    (case es_InvalidShapeError => k_is)
    (case et_InvalidShapeError => k_is)
