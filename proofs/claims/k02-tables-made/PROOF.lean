import PyProof.Rows.All
import Wide.All
import OpenK.AllK
import Wide.FinOn
import HandS.ForMost
import HandS.ForExc
import HandS.Deep
import HandS.TupAny
import HandS.SetFor
import KE.DataFind
import HandS.Flow
import HandS.Exc
import HandS.Star
import HandS.NoneIn
import HandS.ExcField
import HandS.ExcIs
import HandS.IsInst
import HandS.List
import KE.KExcIs
import KE.KExcSuper
import KE.KExcInit
import HandS.ExcInit
import PyProof.ExcBaseAll.LookupError
import PyProof.Rows.FactsExc_KeyError
import HandS.ExcValue
import HandS.OwnEq
import HandS.Strs
import PyProof.NeKinds
import HandS.Style
import HandS.EndBits
import HandS.Words
import HandS.HeadHook4
import HandS.HeadHook1
import HandS.Defaults
import HandS.Head0
import HandS.Head1
import HandS.Head2
import KE.KStateDown
import PyProof.ExcBaseAll.ValueError
import PySem.Challenge.RW_keyactions_k02_tables_made
set_option Elab.async false
set_option linter.all false
set_option maxRecDepth 100000
set_option maxHeartbeats 0
/-! Mini: plain data, a small store, results; how they stand in the layer's heap. -/
namespace Mi
open PySem L2

inductive D where
  | non | bl (b : Bool) | int (i : Int) | str (x : Str) | tup (xs : List D) | lst (xs : List D) | scr (ns : List Int) | ins (c : Str) (fs : List (Str × D))

/-- x: the exception that a suite holds -/
inductive W where
  | d (x : D) | o (n : Nat) | x (c : Str) (fs : List (Str × D))

inductive Cell where
  | lst (xs : List W) | ins (c : Str) (fs : List (Str × W)) | dead

def Cell.live : Cell → Bool
  | .dead => false
  | _ => true
abbrev Store := List Cell
abbrev EnvM := List (Option W)

inductive R (α : Type) where
  | ok (a : α) (S : Store) | exc (c : Str) (fs : List (Str × D)) (S : Store) | bad

def R.bind {α β : Type} (r : R α) (f : α → Store → R β) : R β := match r with
  | .ok a S => f a S
  | .exc c fs S => .exc c fs S
  | .bad => .bad

inductive RS where
  | next (e : EnvM) (S : Store) | ret (w : W) (S : Store) | brk (e : EnvM) (S : Store) | cont (e : EnvM) (S : Store)
  | exc (c : Str) (fs : List (Str × D)) (e : EnvM) (S : Store) | bad

/-- a held exception: where it stands, its dict, its fields -/
structure Xa where
  a : Addr
  c : Str
  d : Option Addr
  fs : List (Str × D)
/-- what is fixed: the written part, where each class stands, the exception that is held -/
structure Gx where
  K : PySem.W.Frag
  ca : Str → Addr
  xa : Option Xa

mutual
inductive Rep (g : Gx) (F : Addr → Prop) (H : Hp) : V → D → Prop
  | non : Rep g F H .non .non
  | bl (b : Bool) : Rep g F H (.bl b) (.bl b)
  | int (i : Int) : Rep g F H (.int i) (.int i)
  | str (x : Str) : Rep g F H (.str x) (.str x)
  | tup {a : Addr} {vs : List V} {ds : List D} : F a → H a = some (.tup vs) → Reps g F H vs ds → Rep g F H (.ref a) (.tup ds)
  | tupK {a : Addr} {vs : List V} {ds : List D} : (∀ H' : Hp, SqT g.K H' a vs) → Reps g F H vs ds → Rep g F H (.ref a) (.tup ds)
  | lst {a : Addr} {vs : List V} {ds : List D} : F a → H a = some (.lst vs) → Reps g F H vs ds → Rep g F H (.ref a) (.lst ds)
  | scr {a : Addr} {ns : List Int} : (F a ∨ ∀ H' : Hp, SqL g.K H' a (ns.map V.int)) → SqL g.K H a (ns.map V.int) → Rep g F H (.ref a) (.scr ns)
  | ins {a dx : Addr} {c : Str} {fs : List (Str × V)} {gs : List (Str × D)} : F a → H a = some (.ins (g.ca c) dx fs) → RepF g F H fs gs → Rep g F H (.ref a) (.ins c gs)
inductive Reps (g : Gx) (F : Addr → Prop) (H : Hp) : List V → List D → Prop
  | nil : Reps g F H [] []
  | cons {v : V} {x : D} {vs : List V} {xs : List D} : Rep g F H v x → Reps g F H vs xs → Reps g F H (v :: vs) (x :: xs)
inductive RepF (g : Gx) (F : Addr → Prop) (H : Hp) : List (Str × V) → List (Str × D) → Prop
  | nil : RepF g F H [] []
  | cons {k : Str} {v : V} {x : D} {vs : List (Str × V)} {xs : List (Str × D)} : Rep g F H v x → RepF g F H vs xs → RepF g F H ((k, v) :: vs) ((k, x) :: xs)
end

/-- what is frozen stays -/
def Fz (F : Addr → Prop) (H : Hp) (F' : Addr → Prop) (H' : Hp) : Prop := ∀ a, F a → F' a ∧ H' a = H a
theorem Fz.refl (F : Addr → Prop) (H : Hp) : Fz F H F H := fun _ h => ⟨h, rfl⟩
theorem Fz.trans {F F1 F2 : Addr → Prop} {H H1 H2 : Hp} (a : Fz F H F1 H1) (b : Fz F1 H1 F2 H2) : Fz F H F2 H2 := fun x h =>
  ⟨(b x (a x h).1).1, ((b x (a x h).1).2).trans (a x h).2⟩

mutual
theorem Rep.mono {g : Gx} {F F' : Addr → Prop} {H H' : Hp} (z : Fz F H F' H') : ∀ {v : V} {x : D}, Rep g F H v x → Rep g F' H' v x
  | _, _, .non => .non
  | _, _, .bl b => .bl b
  | _, _, .int i => .int i
  | _, _, .str x => .str x
  | _, _, .tup f h r => .tup (z _ f).1 ((z _ f).2.trans h) (Reps.mono z r)
  | _, _, .tupK h r => .tupK h (Reps.mono z r)
  | _, _, .lst f h r => .lst (z _ f).1 ((z _ f).2.trans h) (Reps.mono z r)
  | _, _, .scr f h => by
    rcases f with f | f
    · refine .scr (.inl (z _ f).1) ?_
      rcases h with h | h
      · rcases h with h | ⟨o, h⟩
        · exact .inl (.inl ((z _ f).2.trans h))
        · exact .inl (.inr ⟨o, (z _ f).2.trans h⟩)
      · exact .inr h
    · exact .scr (.inr f) (f _)
  | _, _, .ins f h r => .ins (z _ f).1 ((z _ f).2.trans h) (RepF.mono z r)
theorem Reps.mono {g : Gx} {F F' : Addr → Prop} {H H' : Hp} (z : Fz F H F' H') : ∀ {vs : List V} {xs : List D}, Reps g F H vs xs → Reps g F' H' vs xs
  | _, _, .nil => .nil
  | _, _, .cons a r => .cons (Rep.mono z a) (Reps.mono z r)
theorem RepF.mono {g : Gx} {F F' : Addr → Prop} {H H' : Hp} (z : Fz F H F' H') : ∀ {vs : List (Str × V)} {xs : List (Str × D)}, RepF g F H vs xs → RepF g F' H' vs xs
  | _, _, .nil => .nil
  | _, _, .cons a r => .cons (Rep.mono z a) (RepF.mono z r)
end

/-- an exception's own dict, as it flies -/
def ExcR (g : Gx) (F : Addr → Prop) (H : Hp) (fs : List (Str × D)) : Option Addr → Prop
  | none => fs = []
  | some a => ∃ vs, F a ∧ H a = some (.xd vs) ∧ RepF g F H vs fs
theorem ExcR.mono {g : Gx} {F F' : Addr → Prop} {H H' : Hp} (z : Fz F H F' H') {fs : List (Str × D)} : ∀ {d : Option Addr}, ExcR g F H fs d → ExcR g F' H' fs d
  | none, h => h
  | some a, ⟨vs, h1, h2, h3⟩ => ⟨vs, (z a h1).1, ((z a h1).2).trans h2, RepF.mono z h3⟩
/-- a value in the store's words; n: how many cells stand -/
def RepW (g : Gx) (ρ : Nat → Addr) (n : Nat) (F : Addr → Prop) (H : Hp) (v : V) : W → Prop
  | .d x => Rep g F H v x
  | .o i => i < n ∧ v = .ref (ρ i)
  | .x cn fs => ∃ y, g.xa = some y ∧ v = .ref y.a ∧ ExcR g F H y.fs y.d ∧ y.c = cn ∧ y.fs = fs

/-- a step of the whole: what is frozen stays, the cells keep their places -/
structure Gr (ρ : Nat → Addr) (n : Nat) (F : Addr → Prop) (H : Hp) (ρ' : Nat → Addr) (n' : Nat) (F' : Addr → Prop) (H' : Hp) : Prop where
  fz : Fz F H F' H'
  pl : ∀ i, i < n → ρ' i = ρ i
  le : n ≤ n'
theorem Gr.refl {ρ : Nat → Addr} {n : Nat} {F : Addr → Prop} {H : Hp} : Gr ρ n F H ρ n F H := ⟨Fz.refl F H, fun _ _ => rfl, Nat.le_refl _⟩
theorem Gr.trans {ρ ρ1 ρ2 : Nat → Addr} {n n1 n2 : Nat} {F F1 F2 : Addr → Prop} {H H1 H2 : Hp} (a : Gr ρ n F H ρ1 n1 F1 H1) (b : Gr ρ1 n1 F1 H1 ρ2 n2 F2 H2) : Gr ρ n F H ρ2 n2 F2 H2 :=
  ⟨a.fz.trans b.fz, fun i h => (b.pl i (Nat.lt_of_lt_of_le h a.le)).trans (a.pl i h), Nat.le_trans a.le b.le⟩
theorem RepW.mono {g : Gx} {ρ ρ' : Nat → Addr} {n n' : Nat} {F F' : Addr → Prop} {H H' : Hp} {v : V} (z : Gr ρ n F H ρ' n' F' H') : ∀ {w : W}, RepW g ρ n F H v w → RepW g ρ' n' F' H' v w
  | .d _, h => Rep.mono z.fz h
  | .o i, h => ⟨Nat.lt_of_lt_of_le h.1 z.le, by rw [z.pl i h.1]; exact h.2⟩
  | .x _ _, ⟨y, h1, h2, h3, h4⟩ => ⟨y, h1, h2, ExcR.mono z.fz h3, h4⟩
theorem pw_mono {α β : Type} {A B : α → β → Prop} (h : ∀ a b, A a b → B a b) : ∀ {l : List α} {m : List β}, Paired A l m → Paired B l m
  | _, _, .nil => .nil
  | _, _, .cons a r => .cons (h _ _ a) (pw_mono h r)
abbrev RepWs (g : Gx) (ρ : Nat → Addr) (n : Nat) (F : Addr → Prop) (H : Hp) : List V → List W → Prop := Paired (RepW g ρ n F H)
theorem RepWs.mono {g : Gx} {ρ ρ' : Nat → Addr} {n n' : Nat} {F F' : Addr → Prop} {H H' : Hp} (z : Gr ρ n F H ρ' n' F' H') {vs : List V} {ws : List W} (h : RepWs g ρ n F H vs ws) : RepWs g ρ' n' F' H' vs ws := pw_mono (fun _ _ q => q.mono z) h
/-- fields -/
abbrev RepWF (g : Gx) (ρ : Nat → Addr) (n : Nat) (F : Addr → Prop) (H : Hp) : List (Str × V) → List (Str × W) → Prop := Paired fun p q => p.1 = q.1 ∧ RepW g ρ n F H p.2 q.2
theorem RepWF.mono {g : Gx} {ρ ρ' : Nat → Addr} {n n' : Nat} {F F' : Addr → Prop} {H H' : Hp} (z : Gr ρ n F H ρ' n' F' H') {vs : List (Str × V)} {ws : List (Str × W)} (h : RepWF g ρ n F H vs ws) : RepWF g ρ' n' F' H' vs ws := pw_mono (fun _ _ q => ⟨q.1, q.2.mono z⟩) h

def CellR (g : Gx) (ρ : Nat → Addr) (n : Nat) (F : Addr → Prop) (H : Hp) (a : Addr) : Cell → Prop
  | .lst ws => ∃ vs, H a = some (.lst vs) ∧ RepWs g ρ n F H vs ws
  | .ins c fs => ∃ dx vs, H a = some (.ins (g.ca c) dx vs) ∧ RepWF g ρ n F H vs fs
  | .dead => True

/-- the store stands in the heap -/
structure Rl (g : Gx) (ρ : Nat → Addr) (F : Addr → Prop) (H : Hp) (S : Store) : Prop where
  at_ : ∀ i c, S[i]? = some c → CellR g ρ S.length F H (ρ i) c
  inj : ∀ i j, i < S.length → j < S.length → ρ i = ρ j → i = j
  nf : ∀ i c, S[i]? = some c → c.live = true → ¬ F (ρ i)
  there : ∀ i, i < S.length → ∃ o, H (ρ i) = some o
  fth : ∀ a, F a → ∃ o, H a = some o

def RepEnv (g : Gx) (ρ : Nat → Addr) (n : Nat) (F : Addr → Prop) (H : Hp) (σ : St) (e : EnvM) : Prop :=
  σ.length = e.length ∧ ∀ (i : Nat) (w : W), e[i]? = some (some w) → ∃ v, σ[i]? = some (some v) ∧ RepW g ρ n F H v w
theorem RepEnv.mono {g : Gx} {ρ ρ' : Nat → Addr} {n n' : Nat} {F F' : Addr → Prop} {H H' : Hp} (z : Gr ρ n F H ρ' n' F' H') {σ : St} {e : EnvM} (h : RepEnv g ρ n F H σ e) : RepEnv g ρ' n' F' H' σ e :=
  ⟨h.1, fun i w q => let ⟨v, a, b⟩ := h.2 i w q; ⟨v, a, b.mono z⟩⟩

section
variable (g : Gx) (wx : WX) (σ : L2.St)
/-- what is wanted behind a piece: of a value, of an error -/
def Post {α β : Type} (rp : (Nat → Addr) → Nat → (Addr → Prop) → Hp → β → α → Prop) (ρ : Nat → Addr) (n : Nat) (F : Addr → Prop) (H : Hp) (Q : β → Hp → Prop) : R α → Prop
  | .ok a S' => ∀ b ρ' F' H', Gr ρ n F H ρ' S'.length F' H' → Rl g ρ' F' H' S' → rp ρ' S'.length F' H' b a → Q b H'
  | .exc c fs S' => ∀ d ρ' F' H', Gr ρ n F H ρ' S'.length F' H' → Rl g ρ' F' H' S' → ExcR g F' H' fs d → wx (.ref (g.ca c)) d σ H'
  | .bad => False
def rpW : (Nat → Addr) → Nat → (Addr → Prop) → Hp → V → W → Prop := fun ρ n F H v w => RepW g ρ n F H v w
def rpB : (Nat → Addr) → Nat → (Addr → Prop) → Hp → Bool → Bool → Prop := fun _ _ _ _ a b => a = b
def rpA : (Nat → Addr) → Nat → (Addr → Prop) → Hp → List V → List W → Prop := fun ρ n F H v w => RepWs g ρ n F H v w
end
section
variable {g : Gx} {wx : WX} {σ : L2.St}
/-- the wish from a later point -/
theorem Post.step {α β : Type} {rp : (Nat → Addr) → Nat → (Addr → Prop) → Hp → β → α → Prop} {ρ ρ1 : Nat → Addr} {n n1 : Nat} {F F1 : Addr → Prop} {H H1 : Hp} {Q : β → Hp → Prop} {r : R α} (z : Gr ρ n F H ρ1 n1 F1 H1)
    (h : Post g wx σ rp ρ n F H Q r) : Post g wx σ rp ρ1 n1 F1 H1 Q r := by
  cases r with
  | ok a S => exact fun b ρ' F' H' k => h b ρ' F' H' (z.trans k)
  | exc c fs S => exact fun d ρ' F' H' k => h d ρ' F' H' (z.trans k)
  | bad => exact h
/-- two pieces in a row -/
theorem Post.seq {α β α' β' : Type} {rp : (Nat → Addr) → Nat → (Addr → Prop) → Hp → β → α → Prop} {rq : (Nat → Addr) → Nat → (Addr → Prop) → Hp → β' → α' → Prop} {ρ : Nat → Addr} {n : Nat} {F : Addr → Prop} {H : Hp} {Q : β' → Hp → Prop} {Q1 : β → Hp → Prop} {r : R α} {f : α → Store → R α'}
    (h : Post g wx σ rq ρ n F H Q (r.bind f))
    (k : ∀ a S1 b ρ1 F1 H1, r = .ok a S1 → Gr ρ n F H ρ1 S1.length F1 H1 → Rl g ρ1 F1 H1 S1 → rp ρ1 S1.length F1 H1 b a → Post g wx σ rq ρ1 S1.length F1 H1 Q (f a S1) → Q1 b H1) : Post g wx σ rp ρ n F H Q1 r := by
  cases r with
  | ok a S => exact fun b ρ' F' H' z l p => k a S b ρ' F' H' rfl z l p (Post.step z h)
  | exc c fs S => exact h
  | bad => exact h
end
/-! the readings -/
section
variable (g : Gx) (wx : WX)
def tE (m : EnvM → Store → R W) : TE := fun σ H Q => ∃ ρ F S env, Rl g ρ F H S ∧ RepEnv g ρ S.length F H σ env ∧ Post g wx σ (rpW g) ρ S.length F H Q (m env S)
def tT (m : EnvM → Store → R Bool) : TT := fun σ H Q => ∃ ρ F S env, Rl g ρ F H S ∧ RepEnv g ρ S.length F H σ env ∧ Post g wx σ rpB ρ S.length F H Q (m env S)
def tA (m : EnvM → Store → R (List W)) : TA := fun σ H Q => ∃ ρ F S env, Rl g ρ F H S ∧ RepEnv g ρ S.length F H σ env ∧ Post g wx σ (rpA g) ρ S.length F H Q (m env S)
def PostS (ρ : Nat → Addr) (n : Nat) (F : Addr → Prop) (H : Hp) (E : Ends) : RS → Prop
  | .next e S' => ∀ σ' ρ' F' H', Gr ρ n F H ρ' S'.length F' H' → Rl g ρ' F' H' S' → RepEnv g ρ' S'.length F' H' σ' e → E.nx σ' H'
  | .ret w S' => ∀ v ρ' F' H', Gr ρ n F H ρ' S'.length F' H' → Rl g ρ' F' H' S' → RepW g ρ' S'.length F' H' v w → E.rt v H'
  | .brk e S' => ∀ σ' ρ' F' H', Gr ρ n F H ρ' S'.length F' H' → Rl g ρ' F' H' S' → RepEnv g ρ' S'.length F' H' σ' e → E.bk σ' H'
  | .cont e S' => ∀ σ' ρ' F' H', Gr ρ n F H ρ' S'.length F' H' → Rl g ρ' F' H' S' → RepEnv g ρ' S'.length F' H' σ' e → E.ct σ' H'
  | .exc c fs e S' => ∀ d σ' ρ' F' H', Gr ρ n F H ρ' S'.length F' H' → Rl g ρ' F' H' S' → RepEnv g ρ' S'.length F' H' σ' e → ExcR g F' H' fs d → wx (.ref (g.ca c)) d σ' H'
  | .bad => False
def tS (m : EnvM → Store → RS) : TS := fun E σ H => ∃ ρ F S env, Rl g ρ F H S ∧ RepEnv g ρ S.length F H σ env ∧ PostS g wx ρ S.length F H E (m env S)
end
theorem pe_mono {X : Cx} {e : Expr} {t t' : TE} (h : PE X e t) (i : ∀ σ H Q, t' σ H Q → t σ H Q) : PE X e t' := ⟨fun pins s σ H Q I q => h.run pins s σ H Q I (i σ H Q q)⟩
theorem pt_mono {X : Cx} {e : Expr} {t t' : TT} (h : PT X e t) (i : ∀ σ H Q, t' σ H Q → t σ H Q) : PT X e t' := ⟨fun pins s σ H Q I q => h.run pins s σ H Q I (i σ H Q q)⟩
theorem pa_mono {X : Cx} {es : List Expr} {t t' : TA} (h : PA X es t) (i : ∀ σ H Q, t' σ H Q → t σ H Q) : PA X es t' := ⟨fun pos pins s σ H Q I q => h.run pos pins s σ H Q I (i σ H Q q)⟩
theorem ps_mono {X : Cx} {e : Stmt} {t t' : TS} (h : PS X e t) (i : ∀ E σ H, t' E σ H → t E σ H) : PS X e t' := ⟨fun pins s σ H E I q => h.run pins s σ H E I (i E σ H q)⟩
theorem pss_mono {X : Cx} {e : List Stmt} {t t' : TS} (h : PSs X e t) (i : ∀ E σ H, t' E σ H → t E σ H) : PSs X e t' := ⟨fun pins s σ H E I q => h.run pins s σ H E I (i E σ H q)⟩

/-- two values made one behind the other, then an operation by values -/
theorem two {g : Gx} {wx : WX} {m1 m2 : EnvM → Store → R W} {f : W → W → Store → R W} {r : R2}
    (hop : ∀ x y ρ S F H σ Q wa wb, Rl g ρ F H S → RepW g ρ S.length F H x wa → RepW g ρ S.length F H y wb → Post g wx σ (rpW g) ρ S.length F H Q (f wa wb S) → r x y H Q) :
    ∀ σ H Q, tE g wx (fun env S => (m1 env S).bind fun a S1 => (m2 env S1).bind fun b S2 => f a b S2) σ H Q → tOp r (tE g wx m1) (tE g wx m2) σ H Q := by
  rintro σ H Q ⟨ρ, F, S, env, L, E, P⟩
  refine ⟨ρ, F, S, env, L, E, Post.seq P fun wa S1 x ρ1 F1 H1 _ z1 L1 r1 P1 => ?_⟩
  refine ⟨ρ1, F1, S1, env, L1, E.mono z1, Post.seq P1 fun wb S2 y ρ2 F2 H2 _ z2 L2 r2 P2 => ?_⟩
  exact hop x y ρ2 S2 F2 H2 σ Q wa wb L2 (r1.mono z2) r2 P2

/-! ### ints -/
def iOp (c : Int → Int → Bool) (f : Int → Int → D) (a b : W) (S : Store) : R W := match a, b with
  | .d (.int i), .d (.int j) => if c i j then .ok (.d (f i j)) S else .bad
  | _, _ => .bad
theorem Post.val {g : Gx} {wx : WX} {σ : L2.St} {ρ : Nat → Addr} {F : Addr → Prop} {H : Hp} {S : Store} {Q : VK} {w : W} {v : V} (L : Rl g ρ F H S) (h : Post g wx σ (rpW g) ρ S.length F H Q (.ok w S)) (r : RepW g ρ S.length F H v w) : Q v H := h v ρ F H Gr.refl L r
theorem iOp_ok {g : Gx} {wx : WX} {c : Int → Int → Bool} {C : Int → Int → Prop} {f : Int → Int → D} {gV : Int → Int → V} (hc : ∀ i j, c i j = true → C i j) (hr : ∀ i j F H, Rep g F H (gV i j) (f i j)) :
    ∀ x y ρ S F H σ Q wa wb, Rl g ρ F H S → RepW g ρ S.length F H x wa → RepW g ρ S.length F H y wb → Post g wx σ (rpW g) ρ S.length F H Q (iOp c f wa wb S) → rI C gV x y H Q := by
  intro x y ρ S F H σ Q wa wb L r1 r2 P
  unfold iOp at P
  split at P
  · cases r1; cases r2
    split at P
    · exact ⟨_, _, rfl, rfl, hc _ _ ‹_›, P.val L (hr _ _ _ _)⟩
    · exact P.elim
  · exact P.elim
end Mi

namespace Mi
open PySem L2

/-! ### new objects, changed cells -/
section
variable {g : Gx} {ρ : Nat → Addr} {F : Addr → Prop} {H : Hp} {S : Store}
theorem Rl.ne_new {p : Addr} (L : Rl g ρ F H S) (hp : H p = none) {i : Nat} (hi : i < S.length) : ρ i ≠ p := fun e => by
  obtain ⟨o, q⟩ := L.there i hi
  rw [e, hp] at q
  cases q
theorem Rl.nf_new {p : Addr} (L : Rl g ρ F H S) (hp : H p = none) : ¬ F p := fun f => by
  obtain ⟨o, q⟩ := L.fth p f
  rw [hp] at q
  cases q
/-- F and one more -/
def addF (F : Addr → Prop) (p : Addr) : Addr → Prop := fun a => F a ∨ a = p
theorem fz_new {p : Addr} {o : HO} (L : Rl g ρ F H S) (hp : H p = none) : Fz F H (addF F p) (upd H p o) := fun a f => ⟨.inl f, by
  rw [upd_ne]
  rintro rfl
  exact L.nf_new hp f⟩
theorem fz_upd {p : Addr} {o : HO} (hp : ¬ F p) : Fz F H F (upd H p o) := fun a f => ⟨f, by
  rw [upd_ne]
  rintro rfl
  exact hp f⟩
theorem gr_frz {p : Addr} {o : HO} (L : Rl g ρ F H S) (hp : H p = none) : Gr ρ S.length F H ρ S.length (addF F p) (upd H p o) := ⟨fz_new L hp, fun _ _ => rfl, Nat.le_refl _⟩
theorem CellR.mono {n n' : Nat} {ρ' : Nat → Addr} {F' : Addr → Prop} {H' : Hp} {a : Addr} {c : Cell} (z : Gr ρ n F H ρ' n' F' H') (e : H' a = H a) (h : CellR g ρ n F H a c) : CellR g ρ' n' F' H' a c := by
  cases c with
  | lst ws =>
    obtain ⟨vs, h1, h2⟩ := h
    exact ⟨vs, e.trans h1, h2.mono z⟩
  | ins c fs =>
    obtain ⟨dx, vs, h1, h2⟩ := h
    exact ⟨dx, vs, e.trans h1, h2.mono z⟩
  | dead => trivial
/-- a new frozen object -/
theorem rl_frz {p : Addr} {o : HO} (L : Rl g ρ F H S) (hp : H p = none) : Rl g ρ (addF F p) (upd H p o) S := by
  refine ⟨fun i c e => ?_, L.inj, fun i c e lv f => ?_, fun i hi => ?_, fun a f => ?_⟩
  · have hi : i < S.length := (List.getElem?_eq_some_iff.mp e).1
    exact (L.at_ i c e).mono (gr_frz L hp) (upd_ne (L.ne_new hp hi))
  · rcases f with f | f
    · exact L.nf i c e lv f
    · exact L.ne_new hp (List.getElem?_eq_some_iff.mp e).1 f
  · obtain ⟨o', q⟩ := L.there i hi
    exact ⟨o', by rw [upd_ne (L.ne_new hp hi)]; exact q⟩
  · rcases f with f | rfl
    · obtain ⟨o', q⟩ := L.fth a f
      refine ⟨o', ?_⟩
      rw [upd_ne]
      · exact q
      · rintro rfl
        exact L.nf_new hp f
    · exact ⟨o, upd_same⟩
/-- the places with one more -/
def addR (ρ : Nat → Addr) (n : Nat) (p : Addr) : Nat → Addr := fun i => if i = n then p else ρ i
theorem addR_lt {n i : Nat} {p : Addr} (h : i < n) : addR ρ n p i = ρ i := if_neg (Nat.ne_of_lt h)
theorem addR_eq {n : Nat} {p : Addr} : addR ρ n p n = p := if_pos rfl
theorem gr_cell {p : Addr} {o : HO} {c : Cell} (L : Rl g ρ F H S) (hp : H p = none) : Gr ρ S.length F H (addR ρ S.length p) (S ++ [c]).length F (upd H p o) :=
  ⟨fz_upd (L.nf_new hp), fun i h => addR_lt h, by simp⟩
/-- a new cell -/
theorem rl_cell {p : Addr} {o : HO} {c : Cell} (L : Rl g ρ F H S) (hp : H p = none) (hc : CellR g (addR ρ S.length p) (S ++ [c]).length F (upd H p o) p c) : Rl g (addR ρ S.length p) F (upd H p o) (S ++ [c]) := by
  have hlen : (S ++ [c]).length = S.length + 1 := by simp
  refine ⟨fun i c' e => ?_, fun i j hi hj e => ?_, fun i c' e lv f => ?_, fun i hi => ?_, fun a f => ?_⟩
  · by_cases hi : i < S.length
    · rw [List.getElem?_append_left hi] at e
      rw [addR_lt hi]
      exact (L.at_ i c' e).mono (gr_cell L hp) (upd_ne (L.ne_new hp hi))
    · have hi2 : i = S.length := by
        have := (List.getElem?_eq_some_iff.mp e).1
        omega
      subst hi2
      rw [List.getElem?_append_right (Nat.le_refl _)] at e
      simp at e
      subst e
      rw [addR_eq]
      exact hc
  · rw [hlen] at hi hj
    by_cases h1 : i < S.length <;> by_cases h2 : j < S.length
    · rw [addR_lt h1, addR_lt h2] at e
      exact L.inj i j h1 h2 e
    · have : j = S.length := by omega
      subst this
      rw [addR_lt h1, addR_eq] at e
      exact absurd e (L.ne_new hp h1)
    · have : i = S.length := by omega
      subst this
      rw [addR_lt h2, addR_eq] at e
      exact absurd e.symm (L.ne_new hp h2)
    · omega
  · have hi : i < (S ++ [c]).length := (List.getElem?_eq_some_iff.mp e).1
    rw [hlen] at hi
    by_cases h1 : i < S.length
    · rw [addR_lt h1] at f
      rw [List.getElem?_append_left h1] at e
      exact L.nf i c' e lv f
    · have : i = S.length := by omega
      subst this
      rw [addR_eq] at f
      exact L.nf_new hp f
  · rw [hlen] at hi
    by_cases h1 : i < S.length
    · obtain ⟨o', q⟩ := L.there i h1
      exact ⟨o', by rw [addR_lt h1, upd_ne (L.ne_new hp h1)]; exact q⟩
    · have : i = S.length := by omega
      subst this
      exact ⟨o, by rw [addR_eq]; exact upd_same⟩
  · obtain ⟨o', q⟩ := L.fth a f
    refine ⟨o', ?_⟩
    rw [upd_ne]
    · exact q
    · rintro rfl
      exact L.nf_new hp f
theorem gr_set {n : Nat} {o : HO} {c c0 : Cell} (L : Rl g ρ F H S) (e0 : S[n]? = some c0) (lv : c0.live = true) : Gr ρ S.length F H ρ (S.set n c).length F (upd H (ρ n) o) :=
  ⟨fz_upd (L.nf n c0 e0 lv), fun _ _ => rfl, by simp⟩
/-- a changed cell -/
theorem rl_set {n : Nat} {o : HO} {c c0 : Cell} (L : Rl g ρ F H S) (e0 : S[n]? = some c0) (lv0 : c0.live = true) (hc : CellR g ρ (S.set n c).length F (upd H (ρ n) o) (ρ n) c) : Rl g ρ F (upd H (ρ n) o) (S.set n c) := by
  have hn : n < S.length := (List.getElem?_eq_some_iff.mp e0).1
  have hlen : (S.set n c).length = S.length := by simp
  refine ⟨fun i c' e => ?_, fun i j hi hj e => L.inj i j (hlen ▸ hi) (hlen ▸ hj) e, fun i c' e lv => ?_, fun i hi => ?_, fun a f => ?_⟩
  · by_cases h : i = n
    · subst h
      rw [List.getElem?_set_self hn] at e
      cases e
      exact hc
    · rw [List.getElem?_set_ne (Ne.symm h)] at e
      have hi : i < S.length := (List.getElem?_eq_some_iff.mp e).1
      exact (L.at_ i c' e).mono (gr_set L e0 lv0) (upd_ne fun q => h (L.inj i n hi hn q))
  · by_cases h : i = n
    · subst h
      exact L.nf i c0 e0 lv0
    · rw [List.getElem?_set_ne (Ne.symm h)] at e
      exact L.nf i c' e lv
  · by_cases h : i = n
    · subst h
      exact ⟨o, upd_same⟩
    · obtain ⟨o', q⟩ := L.there i (hlen ▸ hi)
      exact ⟨o', by rw [upd_ne fun q => h (L.inj i n (hlen ▸ hi) hn q)]; exact q⟩
  · obtain ⟨o', q⟩ := L.fth a f
    refine ⟨o', ?_⟩
    rw [upd_ne]
    · exact q
    · rintro rfl
      exact L.nf n c0 e0 lv0 f
end

/-! ### lists and tuples read -/
def pureL : List W → Option (List D)
  | [] => some []
  | .d x :: r => (pureL r).map (x :: ·)
  | .o _ :: _ => none
  | .x _ _ :: _ => none
theorem pureL_eq : ∀ {ws : List W} {ds : List D}, pureL ws = some ds → ws = ds.map W.d
  | [], _, h => by cases h; rfl
  | .d x :: r, ds, h => by
    unfold pureL at h
    cases e : pureL r with
    | none => rw [e] at h; cases h
    | some es =>
      rw [e] at h
      cases h
      rw [pureL_eq e]
      rfl
  | .o _ :: _, _, h => by cases h
  | .x _ _ :: _, _, h => by cases h
/-- the items of a list -/
def lookL (S : Store) : W → Option (List W)
  | .d (.lst ds) => some (ds.map W.d)
  | .o n => match S[n]? with
    | some (.lst ws) => some ws
    | _ => none
  | _ => none
/-- the items of a tuple -/
def lookT : W → Option (List W)
  | .d (.tup ds) => some (ds.map W.d)
  | _ => none
section
variable {g : Gx} {ρ : Nat → Addr} {F : Addr → Prop} {H : Hp} {S : Store}
theorem reps_ws {n : Nat} : ∀ {vs : List V} {ds : List D}, Reps g F H vs ds → RepWs g ρ n F H vs (ds.map W.d)
  | _, _, .nil => .nil
  | _, _, .cons a r => .cons a (reps_ws r)
theorem ws_reps {n : Nat} : ∀ {vs : List V} {ds : List D}, RepWs g ρ n F H vs (ds.map W.d) → Reps g F H vs ds
  | _, [], h => by cases h; exact .nil
  | _, x :: r, h => by
    cases h with
    | cons a b => exact .cons a (ws_reps b)
theorem repL {w : W} {ws : List W} {v : V} (h : lookL S w = some ws) (L : Rl g ρ F H S) (r : RepW g ρ S.length F H v w) : ∃ a vs, v = .ref a ∧ H a = some (.lst vs) ∧ RepWs g ρ S.length F H vs ws := by
  unfold lookL at h
  split at h
  · cases h
    cases r with
    | lst f e q => exact ⟨_, _, rfl, e, reps_ws q⟩
  · rename_i n
    split at h
    · rename_i ws' e
      cases h
      obtain ⟨vs, h1, h2⟩ := L.at_ n _ e
      exact ⟨ρ n, vs, r.2, h1, h2⟩
    · cases h
  · cases h
theorem repT {w : W} {ws : List W} {v : V} (h : lookT w = some ws) (r : RepW g ρ S.length F H v w) : ∃ a vs, v = .ref a ∧ SqT g.K H a vs ∧ RepWs g ρ S.length F H vs ws := by
  unfold lookT at h
  split at h
  · cases h
    cases r with
    | tup f e q => exact ⟨_, _, rfl, SqT.of e, reps_ws q⟩
    | tupK e q => exact ⟨_, _, rfl, e _, reps_ws q⟩
  · cases h
theorem paired_len {α β : Type} {A : α → β → Prop} : ∀ {l : List α} {m : List β}, Paired A l m → l.length = m.length
  | _, _, .nil => rfl
  | _, _, .cons _ t => congrArg Nat.succ (paired_len t)
theorem paired_get {α β : Type} {A : α → β → Prop} : ∀ {l : List α} {m : List β} {i : Nat} {b : β}, Paired A l m → m[i]? = some b → ∃ a, l[i]? = some a ∧ A a b
  | _, _, _, _, .nil, e => by simp at e
  | _, _, 0, _, .cons r _, e => by simp at e; subst e; exact ⟨_, rfl, r⟩
  | _, _, i + 1, _, .cons _ t, e => by
    obtain ⟨u, h1, h2⟩ := paired_get (i := i) t (by simpa using e)
    exact ⟨u, by simpa using h1, h2⟩
theorem fz_addF {p : Addr} : Fz F H (addF F p) H := fun a f => ⟨.inl f, rfl⟩
/-- a cell is frozen where it stands; it is no cell any more -/
theorem rl_dead {n : Nat} {c0 : Cell} (L : Rl g ρ F H S) (e0 : S[n]? = some c0) : Rl g ρ (addF F (ρ n)) H (S.set n .dead) := by
  have hn : n < S.length := (List.getElem?_eq_some_iff.mp e0).1
  have z : Gr ρ S.length F H ρ (S.set n .dead).length (addF F (ρ n)) H := ⟨fz_addF, fun _ _ => rfl, by simp⟩
  refine ⟨fun i c e => ?_, fun i j hi hj e => L.inj i j (by simpa using hi) (by simpa using hj) e, fun i c e lv f => ?_, fun i hi => L.there i (by simpa using hi), fun a f => ?_⟩
  · by_cases h : i = n
    · subst h
      rw [List.getElem?_set_self hn] at e
      cases e
      exact True.intro
    · rw [List.getElem?_set_ne (Ne.symm h)] at e
      exact (L.at_ i c e).mono z rfl
  · by_cases h : i = n
    · subst h
      rw [List.getElem?_set_self hn] at e
      cases e
      cases lv
    · rw [List.getElem?_set_ne (Ne.symm h)] at e
      rcases f with f | f
      · exact L.nf i c e lv f
      · exact h (L.inj i n (List.getElem?_eq_some_iff.mp e).1 hn f)
  · rcases f with f | rfl
    · exact L.fth a f
    · exact L.there n hn
end
/-! ### words made data: cells are frozen, those within them too -/
def frzL (f : W → Store → Option (D × Store)) : List W → Store → Option (List D × Store)
  | [], S => some ([], S)
  | w :: r, S => match f w S with
    | some (x, S1) => match frzL f r S1 with
      | some (xs, S2) => some (x :: xs, S2)
      | none => none
    | none => none
def frzF (f : W → Store → Option (D × Store)) : List (Str × W) → Store → Option (List (Str × D) × Store)
  | [], S => some ([], S)
  | (k, w) :: r, S => match f w S with
    | some (x, S1) => match frzF f r S1 with
      | some (xs, S2) => some ((k, x) :: xs, S2)
      | none => none
    | none => none
def frzW : Nat → W → Store → Option (D × Store)
  | 0, w, S => match w with
    | .d x => some (x, S)
    | _ => none
  | k + 1, w, S => match w with
    | .d x => some (x, S)
    | .x _ _ => none
    | .o n => match S[n]? with
      | some (.lst ws) => match frzL (frzW k) ws S with
        | some (ds, S1) => some (.lst ds, S1.set n .dead)
        | none => none
      | some (.ins c fs) => match frzF (frzW k) fs S with
        | some (gs, S1) => some (.ins c gs, S1.set n .dead)
        | none => none
      | _ => none
section
variable {g : Gx} {ρ : Nat → Addr} {H : Hp}
/-- what freezing does -/
def FrzOk (g : Gx) (ρ : Nat → Addr) (H : Hp) (f : W → Store → Option (D × Store)) : Prop := ∀ (w : W) (S : Store) (x : D) (S1 : Store) (F : Addr → Prop) (v : V), f w S = some (x, S1) → Rl g ρ F H S → RepW g ρ S.length F H v w →
  ∃ F1, Fz F H F1 H ∧ Rl g ρ F1 H S1 ∧ S1.length = S.length ∧ Rep g F1 H v x
theorem frzL_ok {f : W → Store → Option (D × Store)} (hf : FrzOk g ρ H f) : ∀ (ws : List W) (S : Store) (xs : List D) (S1 : Store) (F : Addr → Prop) (vs : List V), frzL f ws S = some (xs, S1) → Rl g ρ F H S → RepWs g ρ S.length F H vs ws →
    ∃ F1, Fz F H F1 H ∧ Rl g ρ F1 H S1 ∧ S1.length = S.length ∧ Reps g F1 H vs xs
  | [], S, xs, S1, F, vs, h, L, r => by
    cases h
    cases r
    exact ⟨F, Fz.refl F H, L, rfl, .nil⟩
  | w :: ws, S, xs, S1, F, vs, h, L, r => by
    unfold frzL at h
    split at h
    · rename_i x S2 e1
      split at h
      · rename_i xs2 S3 e2
        cases h
        cases r with
        | cons a t =>
          obtain ⟨F1, z1, L1, l1, q1⟩ := hf w S x S2 F _ e1 L a
          have g1 : Gr ρ S.length F H ρ S2.length F1 H := ⟨z1, fun _ _ => rfl, by omega⟩
          obtain ⟨F2, z2, L2, l2, q2⟩ := frzL_ok hf ws S2 xs2 S1 F1 _ e2 L1 (RepWs.mono g1 t)
          exact ⟨F2, z1.trans z2, L2, l2.trans l1, .cons (q1.mono z2) q2⟩
      · cases h
    · cases h
theorem frzF_ok {f : W → Store → Option (D × Store)} (hf : FrzOk g ρ H f) : ∀ (ws : List (Str × W)) (S : Store) (xs : List (Str × D)) (S1 : Store) (F : Addr → Prop) (vs : List (Str × V)), frzF f ws S = some (xs, S1) → Rl g ρ F H S → RepWF g ρ S.length F H vs ws →
    ∃ F1, Fz F H F1 H ∧ Rl g ρ F1 H S1 ∧ S1.length = S.length ∧ RepF g F1 H vs xs
  | [], S, xs, S1, F, vs, h, L, r => by
    cases h
    cases r
    exact ⟨F, Fz.refl F H, L, rfl, .nil⟩
  | (k, w) :: ws, S, xs, S1, F, vs, h, L, r => by
    unfold frzF at h
    split at h
    · rename_i x S2 e1
      split at h
      · rename_i xs2 S3 e2
        cases h
        cases r with
        | cons a t =>
          rename_i p vs'
          obtain ⟨F1, z1, L1, l1, q1⟩ := hf w S x S2 F _ e1 L a.2
          have g1 : Gr ρ S.length F H ρ S2.length F1 H := ⟨z1, fun _ _ => rfl, by omega⟩
          obtain ⟨F2, z2, L2, l2, q2⟩ := frzF_ok hf ws S2 xs2 S1 F1 _ e2 L1 (RepWF.mono g1 t)
          obtain ⟨k', v'⟩ := p
          obtain rfl : k' = k := a.1
          exact ⟨F2, z1.trans z2, L2, l2.trans l1, .cons (q1.mono z2) q2⟩
      · cases h
    · cases h
theorem frzW_ok : ∀ k, FrzOk g ρ H (frzW k)
  | 0 => by
    intro w S x S1 F v h L r
    unfold frzW at h
    split at h
    · cases h
      exact ⟨F, Fz.refl F H, L, rfl, r⟩
    · cases h
  | k + 1 => by
    intro w S x S1 F v h L r
    unfold frzW at h
    split at h
    · cases h
      exact ⟨F, Fz.refl F H, L, rfl, r⟩
    · cases h
    · rename_i n
      split at h
      · rename_i ws e
        split at h
        · rename_i ds S2 e2
          cases h
          obtain ⟨vs, h1, h2⟩ := L.at_ n _ e
          obtain ⟨F1, z1, L1, l1, q1⟩ := frzL_ok (frzW_ok k) ws S ds S2 F vs e2 L h2
          have hn : n < S2.length := by rw [l1]; exact r.1
          have ev := r.2
          subst ev
          exact ⟨addF F1 (ρ n), z1.trans fz_addF, rl_dead L1 (List.getElem?_eq_getElem hn), by simp [l1], .lst (.inr rfl) h1 (q1.mono fz_addF)⟩
        · cases h
      · rename_i c fs e
        split at h
        · rename_i gs S2 e2
          cases h
          obtain ⟨dx, vs, h1, h2⟩ := L.at_ n _ e
          obtain ⟨F1, z1, L1, l1, q1⟩ := frzF_ok (frzW_ok k) fs S gs S2 F vs e2 L h2
          have hn : n < S2.length := by rw [l1]; exact r.1
          have ev := r.2
          subst ev
          exact ⟨addF F1 (ρ n), z1.trans fz_addF, rl_dead L1 (List.getElem?_eq_getElem hn), by simp [l1], .ins (.inr rfl) h1 (q1.mono fz_addF)⟩
        · cases h
      · cases h
end
end Mi

namespace Mi
open PySem L2

/-! ### plain data -/
mutual
def D.plain : D → Bool
  | .ins _ _ => false
  | .scr _ => false
  | .tup xs => plainL xs
  | .lst xs => plainL xs
  | .non => true
  | .bl _ => true
  | .int _ => true
  | .str _ => true
def plainL : List D → Bool
  | [] => true
  | x :: r => x.plain && plainL r
end
mutual
def D.py : D → PyData
  | .non => .none
  | .bl b => .bool b
  | .int i => .int i
  | .str x => .str x
  | .tup xs => .tuple (pyL xs)
  | .lst xs => .list (pyL xs)
  | .scr _ => .none
  | .ins _ _ => .none
def pyL : List D → List PyData
  | [] => []
  | x :: r => x.py :: pyL r
end
mutual
theorem Rep.dp {g : Gx} {F : Addr → Prop} {H : Hp} : ∀ {v : V} {x : D}, Rep g F H v x → x.plain = true → Dp g.K H v x.py
  | _, _, .non, _ => .non
  | _, _, .bl b, _ => .bl b
  | _, _, .int i, _ => .int i
  | _, _, .str x, _ => .str x
  | _, _, .tup _ h r, p => .tup (SqT.of h) (Reps.dp r (by simpa [D.plain] using p))
  | _, _, .tupK h r, p => .tup (h _) (Reps.dp r (by simpa [D.plain] using p))
  | _, _, .lst _ h r, p => .lst (SqL.of h) (Reps.dp r (by simpa [D.plain] using p))
  | _, _, .scr _ _, p => by simp [D.plain] at p
  | _, _, .ins _ _ _, p => by simp [D.plain] at p
theorem Reps.dp {g : Gx} {F : Addr → Prop} {H : Hp} : ∀ {vs : List V} {xs : List D}, Reps g F H vs xs → plainL xs = true → DpAll g.K H vs (pyL xs)
  | _, _, .nil, _ => .nil
  | _, _, .cons a r, p => by
    simp only [plainL, Bool.and_eq_true] at p
    exact .cons (Rep.dp a p.1) (Reps.dp r p.2)
end
def D.ok (x : D) : Bool := x.plain && SeqAt.shaped x.py
/-- the data that a value is -/
def asD (S : Store) : W → Option D
  | .d x => some x
  | .o n => match S[n]? with
    | some (.lst ws) => (pureL ws).map D.lst
    | _ => none
  | .x _ _ => none
section
variable {g : Gx} {ρ : Nat → Addr} {F : Addr → Prop} {H : Hp} {S : Store}
theorem asD_dp {w : W} {x : D} {v : V} (L : Rl g ρ F H S) (r : RepW g ρ S.length F H v w) (h : asD S w = some x) (p : x.plain = true) : Dp g.K H v x.py := by
  unfold asD at h
  split at h
  · cases h
    exact Rep.dp r p
  · rename_i n
    split at h
    · rename_i ws e
      cases q : pureL ws with
      | none => rw [q] at h; cases h
      | some ds =>
        rw [q] at h
        cases h
        obtain ⟨vs, h1, h2⟩ := L.at_ n _ e
        rw [pureL_eq q] at h2
        rw [r.2]
        exact .lst (SqL.of h1) (Reps.dp (ws_reps h2) (by simpa [D.plain] using p))
    · cases h
  · cases h
/-- a scalar stands as itself -/
theorem asD_str {w : W} {x : Str} {v : V} (r : RepW g ρ S.length F H v w) (h : asD S w = some (.str x)) : v = .str x := by
  unfold asD at h
  split at h
  · cases h
    cases r
    rfl
  · split at h
    · rename_i ws e
      cases q : pureL ws with
      | none => rw [q] at h; cases h
      | some ds => rw [q] at h; cases h
    · cases h
  · cases h
end
/-- two values, an operation by values, in the layer's words -/
def rW (g : Gx) (m : W → W → Store → R W) : R2 := fun x y H Q => ∃ (wx : WX) (σ : L2.St) (ρ : Nat → Addr) (F : Addr → Prop) (S : Store) (a b : W), Rl g ρ F H S ∧ RepW g ρ S.length F H x a ∧ RepW g ρ S.length F H y b ∧ Post g wx σ (rpW g) ρ S.length F H Q (m a b S)
def rW1 (g : Gx) (m : W → Store → R W) : V → Hp → VK → Prop := fun x H Q => ∃ (wx : WX) (σ : L2.St) (ρ : Nat → Addr) (F : Addr → Prop) (S : Store) (a : W), Rl g ρ F H S ∧ RepW g ρ S.length F H x a ∧ Post g wx σ (rpW g) ρ S.length F H Q (m a S)
def rWs (g : Gx) (m : List W → Store → R W) : List V → Hp → VK → Prop := fun xs H Q => ∃ (wx : WX) (σ : L2.St) (ρ : Nat → Addr) (F : Addr → Prop) (S : Store) (as : List W), Rl g ρ F H S ∧ RepWs g ρ S.length F H xs as ∧ Post g wx σ (rpW g) ρ S.length F H Q (m as S)
section
variable {g : Gx} {wx : WX} {σ : L2.St} {ρ : Nat → Addr} {F : Addr → Prop} {H : Hp} {S : Store} {Q : VK}
/-- a new frozen list, tuple -/
theorem Post.lst {ds : List D} {vs : List V} (L : Rl g ρ F H S) (P : Post g wx σ (rpW g) ρ S.length F H Q (.ok (.d (.lst ds)) S)) (r : Reps g F H vs ds) : ∀ p, H p = none → Q (.ref p) (upd H p (.lst vs)) := fun p hp =>
  P _ ρ (addF F p) _ (gr_frz L hp) (rl_frz L hp) (.lst (.inr rfl) upd_same (r.mono (fz_new L hp)))
theorem Post.tup {ds : List D} {vs : List V} (L : Rl g ρ F H S) (P : Post g wx σ (rpW g) ρ S.length F H Q (.ok (.d (.tup ds)) S)) (r : Reps g F H vs ds) : ∀ p, H p = none → Q (.ref p) (upd H p (.tup vs)) := fun p hp =>
  P _ ρ (addF F p) _ (gr_frz L hp) (rl_frz L hp) (.tup (.inr rfl) upd_same (r.mono (fz_new L hp)))
/-- a new cell with a list -/
theorem Post.cell {ws : List W} {vs : List V} (L : Rl g ρ F H S) (P : Post g wx σ (rpW g) ρ S.length F H Q (.ok (.o S.length) (S ++ [.lst ws]))) (r : RepWs g ρ S.length F H vs ws) : ∀ p, H p = none → Q (.ref p) (upd H p (.lst vs)) := fun p hp => by
  have z := gr_cell (c := .lst ws) (o := .lst vs) L hp
  refine P _ (addR ρ S.length p) F _ z (rl_cell L hp ⟨vs, upd_same, r.mono z⟩) ⟨by simp, ?_⟩
  rw [addR_eq]
theorem lines {n : Nat} (h : decide (n ≤ 100000) = true) : n ≤ sizeLine := Nat.le_trans (of_decide_eq_true h) (by decide)
end

/-! ### arithmetic, lists together -/
def addW (a b : W) (S : Store) : R W := match a, b with
  | .d (.int i), .d (.int j) => .ok (.d (.int (i + j))) S
  | .d (.str i), .d (.str j) => if i.length + j.length ≤ 100000 then .ok (.d (.str (i ++ j))) S else .bad
  | .d (.tup xs), .d (.tup ys) => if xs.length + ys.length ≤ 100000 then .ok (.d (.tup (xs ++ ys))) S else .bad
  | a, b => match lookL S a, lookL S b with
    | some xs, some ys => match pureL (xs ++ ys) with
      | some ds => if ds.length ≤ 100000 then .ok (.d (.lst ds)) S else .bad
      | none => .bad
    | _, _ => .bad
def subW : W → W → Store → R W := iOp (fun _ _ => true) fun i j => .int (i - j)
def smallI (i : Int) : Bool := decide (-(2 ^ 64) < i ∧ i < 2 ^ 64)
def mulW (a b : W) (S : Store) : R W := match a, b with
  | .d (.int i), .d (.int j) => if smallI i || smallI j then .ok (.d (.int (i * j))) S else .bad
  | a, .d (.int k) => match lookL S a with
    | some xs => match pureL xs with
      | some ds => if decide (-(2 ^ 63) ≤ k) && decide (k < 2 ^ 63) && decide (ds.length * k.toNat ≤ 100000) then .ok (.d (.lst (List.replicate k.toNat ds).flatten)) S else .bad
      | none => .bad
    | none => .bad
  | _, _ => .bad
def divW : W → W → Store → R W := iOp (fun _ j => decide (j ≠ 0 ∧ j.natAbs < 1073741824)) fun i j => .int (i.fdiv j)
def modW : W → W → Store → R W := iOp (fun _ j => decide (j ≠ 0)) fun i j => .int (i.fmod j)
def powW : W → W → Store → R W := iOp (fun i j => decide (0 ≤ j ∧ j ≤ 1000000 ∧ i.natAbs < 2 ^ 64)) fun i j => .int (i ^ j.toNat)
def binW : Operator → W → W → Store → R W
  | .Add => addW
  | .Sub => subW
  | .Mult => mulW
  | .FloorDiv => divW
  | .Mod => modW
  | .Pow => powW
  | _ => fun _ _ _ => .bad
section
variable {X : Cx} {g : Gx}
theorem reps_app {F : Addr → Prop} {H : Hp} : ∀ {vs us : List V} {xs ys : List D}, Reps g F H vs xs → Reps g F H us ys → Reps g F H (vs ++ us) (xs ++ ys)
  | _, _, _, _, .nil, s => s
  | _, _, _, _, .cons a r, s => .cons a (reps_app r s)
theorem paired_app {α β : Type} {A : α → β → Prop} : ∀ {l l' : List α} {m m' : List β}, Paired A l m → Paired A l' m' → Paired A (l ++ l') (m ++ m')
  | _, _, _, _, .nil, s => s
  | _, _, _, _, .cons a r, s => .cons a (paired_app r s)
theorem reps_len {F : Addr → Prop} {H : Hp} : ∀ {vs : List V} {xs : List D}, Reps g F H vs xs → vs.length = xs.length
  | _, _, .nil => rfl
  | _, _, .cons _ r => congrArg Nat.succ (reps_len r)
theorem reps_flat {F : Addr → Prop} {H : Hp} {vs : List V} {xs : List D} (h : Reps g F H vs xs) : ∀ n, Reps g F H (List.replicate n vs).flatten (List.replicate n xs).flatten
  | 0 => .nil
  | n + 1 => by
    rw [List.replicate_succ, List.replicate_succ, List.flatten_cons, List.flatten_cons]
    exact reps_app h (reps_flat h n)
theorem opI {f : Value → Value → Sem Value} {C : Int → Int → Prop} {gV : Int → Int → V} (ho : OpR X f (rI C gV)) {c : Int → Int → Bool} {m : Int → Int → D} (hc : ∀ i j, c i j = true → C i j) (hr : ∀ i j F H, Rep g F H (gV i j) (m i j)) : OpR X f (rW g (iOp c m)) :=
  fun pins s σ H x y v u Q I rx ry ⟨wx, σ', ρ, F, S, a, b, L, r1, r2, P⟩ => ho pins s σ H x y v u Q I rx ry (iOp_ok (C := C) hc hr x y ρ S F H σ' Q a b L r1 r2 P)
theorem op_sub_true : OpR X (binaryOp .Sub) (rI (fun _ _ => True) fun i j => .int (i - j)) := fun pins s σ H x y v u Q I rx ry ⟨i, j, e1, e2, _, q⟩ => op_sub pins s σ H x y v u Q I rx ry ⟨i, j, e1, e2, q⟩
theorem add_ok (hK : X.K = g.K) : OpR X (binaryOp .Add) (rW g addW) := by
  rintro pins s σ H x y v u Q I rx ry ⟨wx, σ', ρ, F, S, a, b, L, r1, r2, P⟩
  unfold addW at P
  split at P
  · cases r1; cases r2
    exact op_add pins s σ H _ _ v u Q I rx ry ⟨_, _, rfl, rfl, P.val L (.int _)⟩
  · cases r1; cases r2
    split at P
    · exact op_add_str pins s σ H _ _ v u Q I rx ry ⟨_, _, rfl, rfl, Nat.le_trans (by assumption) (by decide), P.val L (.str _)⟩
    · exact P.elim
  · rename_i xs ys
    split at P
    · rename_i hz
      obtain ⟨p1, vs1, rfl, h1, q1⟩ := repT (S := S) (show lookT (.d (.tup xs)) = some (xs.map W.d) from rfl) r1
      obtain ⟨p2, vs2, rfl, h2, q2⟩ := repT (S := S) (show lookT (.d (.tup ys)) = some (ys.map W.d) from rfl) r2
      have s1 := ws_reps q1
      have s2 := ws_reps q2
      have l1 := reps_len s1
      have l2 := reps_len s2
      have q := reps_app s1 s2
      rw [← hK] at h1 h2
      refine op_catA pins s σ H _ _ v u Q I rx ry ⟨p1, p2, vs1, vs2, rfl, rfl, h1, h2, by rw [l1, l2]; exact Nat.le_trans hz (by decide), fun e => ?_, fun _ e => ?_, fun _ _ => P.tup L q⟩
      · subst e
        cases s1
        exact P.val L r2
      · subst e
        cases s2
        rw [List.append_nil] at P
        exact P.val L r1
    · exact P.elim
  · split at P
    · rename_i xs ys e1 e2
      split at P
      · rename_i ds e
        split at P
        · rename_i hz
          obtain ⟨p1, vs1, rfl, h1, q1⟩ := repL e1 L r1
          obtain ⟨p2, vs2, rfl, h2, q2⟩ := repL e2 L r2
          have q := paired_app q1 q2
          rw [pureL_eq e] at q
          have q' := ws_reps q
          have hl := reps_len q'
          refine op_cat pins s σ H _ _ v u Q I rx ry ⟨_, _, _, _, rfl, rfl, h1, h2, ?_, P.lst L q'⟩
          rw [← List.length_append, hl]
          exact Nat.le_trans hz (by decide)
        · exact P.elim
      · exact P.elim
    · exact P.elim
theorem smallI_ok {i : Int} (h : smallI i = true) : -(2 ^ 64) < i ∧ i < 2 ^ 64 := of_decide_eq_true h
theorem mul_ok : OpR X (binaryOp .Mult) (rW g mulW) := by
  rintro pins s σ H x y v u Q I rx ry ⟨wx, σ', ρ, F, S, a, b, L, r1, r2, P⟩
  unfold mulW at P
  split at P
  · cases r1; cases r2
    split at P
    · rename_i h
      refine op_mul pins s σ H _ _ v u Q I rx ry ⟨_, _, rfl, rfl, ?_, P.val L (.int _)⟩
      rcases Bool.or_eq_true_iff.mp h with h | h
      · exact .inl (smallI_ok h)
      · exact .inr (smallI_ok h)
    · exact P.elim
  · split at P
    · rename_i xs e1
      split at P
      · rename_i ds e
        split at P
        · rename_i h
          simp only [Bool.and_eq_true, decide_eq_true_eq] at h
          obtain ⟨⟨h1, h2⟩, h3⟩ := h
          obtain ⟨p1, vs1, rfl, hp, q1⟩ := repL e1 L r1
          rw [pureL_eq e] at q1
          have q' := ws_reps q1
          cases r2
          refine op_rep pins s σ H _ _ v u Q I rx ry ⟨_, _, _, rfl, rfl, hp, h1, h2, ?_, P.lst L (reps_flat q' _)⟩
          rw [reps_len q']
          exact Nat.le_trans h3 (by decide)
        · exact P.elim
      · exact P.elim
    · exact P.elim
  · exact P.elim
theorem bin_ok (hK : X.K = g.K) (op : Operator) : OpR X (binaryOp op) (rW g (binW op)) := by
  cases op with
  | Add => exact add_ok hK
  | Sub => exact opI op_sub_true (fun _ _ _ => trivial) fun _ _ _ _ => .int _
  | Mult => exact mul_ok
  | FloorDiv => exact opI op_fdivN (fun i j h => show j ≠ 0 ∧ j.natAbs < 1073741824 from of_decide_eq_true h) fun _ _ _ _ => .int _
  | Mod => exact opI op_modN (fun _ _ h => of_decide_eq_true h) fun _ _ _ _ => .int _
  | Pow => exact opI op_pow (fun i j h => show 0 ≤ j ∧ j ≤ 1000000 ∧ i.natAbs < 2 ^ 64 from of_decide_eq_true h) fun _ _ _ _ => .int _
  | _ => exact fun pins s σ H x y v u Q I rx ry ⟨wx, σ', ρ, F, S, a, b, L, r1, r2, P⟩ => P.elim
end
end Mi

namespace Mi
open PySem L2

/-! ### comparisons -/
def eqD (x y : D) : Option Bool := match x, y with
  | .str a, .str b => some (decide (a = b))
  | x, y => if x.ok && y.ok then some (PyData.eqv x.py y.py) else none
def eqW (neg : Bool) (a b : W) (S : Store) : R W := match asD S a, asD S b with
  | some x, some y => match eqD x y with
    | some k => .ok (.d (.bl (if neg then !k else k))) S
    | none => .bad
  | _, _ => .bad
def D.flat : D → Bool
  | .non => true
  | .bl _ => true
  | .int _ => true
  | .str _ => true
  | _ => false
def eqF : D → D → Bool
  | .non, .non => true
  | .bl a, .bl b => a == b
  | .bl a, .int b => (if a then 1 else 0) == b
  | .int a, .bl b => a == (if b then 1 else 0)
  | .int a, .int b => a == b
  | .str a, .str b => a == b
  | _, _ => false
/-- x in ys; deep: a list -/
def inD (deep : Bool) (x : D) (ys : List D) : Option Bool :=
  if x.flat && ys.all D.flat then some (ys.any fun y => eqF y x)
  else if deep && x.ok && (D.lst ys).ok then some ((pyL ys).any fun z => PyData.eqv z x.py) else none
def inStr (i j : Str) : Bool := match i.cps.toList with
  | [c] => decide (c ∈ j.cps.toList)
  | _ => !(Builtin.Str.occurrences j i 0 j.length 1).isEmpty
def inW (neg : Bool) (a b : W) (S : Store) : R W := match asD S a, b with
  | some (.str i), .d (.str j) => .ok (.d (.bl (if neg then !inStr i j else inStr i j))) S
  | some x, b => match asD S b with
    | some (.lst ys) => match inD true x ys with
      | some k => .ok (.d (.bl (if neg then !k else k))) S
      | none => .bad
    | some (.tup ys) => match inD false x ys with
      | some k => .ok (.d (.bl (if neg then !k else k))) S
      | none => .bad
    | _ => .bad
  | none, _ => .bad
def isNonB : W → Bool
  | .d .non => true
  | _ => false
def isNonW (neg : Bool) (a b : W) (S : Store) : R W := match b with
  | .d .non => .ok (.d (.bl (if neg then !isNonB a else isNonB a))) S
  | _ => .bad
def ordI (f : Int → Int → Bool) : W → W → Store → R W := iOp (fun _ _ => true) fun i j => .bl (f i j)
def strLt (a b : W) (S : Store) : R W := match a, b with
  | .d (.str i), .d (.str j) => .ok (.d (.bl (decide (i.cps.toList < j.cps.toList)))) S
  | a, b => ordI (fun i j => decide (i < j)) a b S
def cmpW : CmpOp → W → W → Store → R W
  | .Eq => eqW false
  | .NotEq => eqW true
  | .Lt => strLt
  | .LtE => ordI fun i j => decide (i ≤ j)
  | .Gt => ordI fun i j => decide (j < i)
  | .GtE => ordI fun i j => decide (j ≤ i)
  | .In => inW false
  | .NotIn => inW true
  | .Is => isNonW false
  | .IsNot => isNonW true
theorem inStr_two (i j : Str) : (∃ c, i = ⟨#[c]⟩ ∧ inStr i j = decide (c ∈ j.cps.toList)) ∨ inStr i j = !(Builtin.Str.occurrences j i 0 j.length 1).isEmpty := by
  unfold inStr
  split
  · rename_i c hc
    refine .inl ⟨c, ?_, rfl⟩
    cases i with
    | mk cps =>
      have : cps = #[c] := by simpa using congrArg List.toArray hc
      rw [this]
  · exact .inr rfl
section
variable {X : Cx} {g : Gx}
theorem eq_ok (neg : Bool) {f : Value → Value → Sem Value} (hs : OpR X f (fun x y H Q => scal x y = true ∧ Q (.bl (if neg then !decide (x = y) else decide (x = y))) H))
    (hd : OpR X f (fun x y H Q => ∃ d e, Dp g.K H x d ∧ Dp g.K H y e ∧ SeqAt.shaped d = true ∧ SeqAt.shaped e = true ∧ Q (.bl (if neg then !PyData.eqv d e else PyData.eqv d e)) H)) : OpR X f (rW g (eqW neg)) := by
  rintro pins s σ H x y v u Q I rx ry ⟨wx, σ', ρ, F, S, a, b, L, r1, r2, P⟩
  unfold eqW at P
  split at P
  · rename_i d1 d2 e1 e2
    split at P
    · rename_i k hk
      unfold eqD at hk
      split at hk
      · rename_i s1 s2
        cases hk
        have h1 := asD_str r1 e1
        have h2 := asD_str r2 e2
        subst h1 h2
        refine hs pins s σ H _ _ v u Q I rx ry ⟨rfl, ?_⟩
        have e : decide (V.str s1 = V.str s2) = decide (s1 = s2) := by
          by_cases h : s1 = s2
          · simp [h]
          · simp [h]
        rw [e]
        exact P.val L (.bl _)
      · split at hk
        · rename_i hok
          cases hk
          simp only [D.ok, Bool.and_eq_true] at hok
          obtain ⟨⟨p1, q1⟩, p2, q2⟩ := hok
          exact hd pins s σ H _ _ v u Q I rx ry ⟨_, _, asD_dp L r1 e1 p1, asD_dp L r2 e2 p2, q1, q2, P.val L (.bl _)⟩
        · cases hk
    · exact P.elim
  · exact P.elim
theorem eqF_V {F : Addr → Prop} {H : Hp} {v u : V} {x y : D} (r1 : Rep g F H v x) (r2 : Rep g F H u y) : eqV v u = eqF x y := by
  cases r1 <;> cases r2 <;> rfl
theorem flat_V {F : Addr → Prop} {H : Hp} {v : V} {x : D} (r1 : Rep g F H v x) : flatV v = x.flat := by
  cases r1 <;> rfl
theorem flats_V {F : Addr → Prop} {H : Hp} : ∀ {vs : List V} {xs : List D}, Reps g F H vs xs → vs.all flatV = xs.all D.flat
  | _, _, .nil => rfl
  | _, _, .cons a r => by rw [List.all_cons, List.all_cons, flat_V a, flats_V r]
theorem in_V {F : Addr → Prop} {H : Hp} {v : V} {x : D} (r1 : Rep g F H v x) : ∀ {vs : List V} {xs : List D}, Reps g F H vs xs → inV v vs = xs.any fun y => eqF y x
  | _, _, .nil => rfl
  | _, _, .cons a r => by
    have := in_V r1 r
    unfold inV at this ⊢
    rw [List.any_cons, List.any_cons, eqF_V a r1, this]
theorem asD_flat {ρ : Nat → Addr} {F : Addr → Prop} {H : Hp} {S : Store} {w : W} {x : D} {v : V} (r : RepW g ρ S.length F H v w) (h : asD S w = some x) (f : x.flat = true) : Rep g F H v x := by
  unfold asD at h
  split at h
  · cases h
    exact r
  · split at h
    · rename_i ws e
      cases q : pureL ws with
      | none => rw [q] at h; cases h
      | some ds =>
        rw [q] at h
        cases h
        cases f
    · cases h
  · cases h
/-- a list of data, a tuple of data -/
theorem asD_lst {ρ : Nat → Addr} {F : Addr → Prop} {H : Hp} {S : Store} {w : W} {xs : List D} {v : V} (L : Rl g ρ F H S) (r : RepW g ρ S.length F H v w) (h : asD S w = some (.lst xs)) : ∃ a vs, v = .ref a ∧ H a = some (.lst vs) ∧ Reps g F H vs xs := by
  unfold asD at h
  split at h
  · cases h
    cases r with
    | lst f e q => exact ⟨_, _, rfl, e, q⟩
  · rename_i n
    split at h
    · rename_i ws e
      cases q : pureL ws with
      | none => rw [q] at h; cases h
      | some ds =>
        rw [q] at h
        cases h
        obtain ⟨vs, h1, h2⟩ := L.at_ n _ e
        rw [pureL_eq q] at h2
        exact ⟨_, vs, r.2, h1, ws_reps h2⟩
    · cases h
  · cases h
theorem asD_tup {ρ : Nat → Addr} {F : Addr → Prop} {H : Hp} {S : Store} {w : W} {xs : List D} {v : V} (r : RepW g ρ S.length F H v w) (h : asD S w = some (.tup xs)) : ∃ a vs, v = .ref a ∧ SqT g.K H a vs ∧ Reps g F H vs xs := by
  unfold asD at h
  split at h
  · cases h
    cases r with
    | tup f e q => exact ⟨_, _, rfl, SqT.of e, q⟩
    | tupK e q => exact ⟨_, _, rfl, e _, q⟩
  · split at h
    · rename_i ws e
      cases q : pureL ws with
      | none => rw [q] at h; cases h
      | some ds => rw [q] at h; cases h
    · cases h
  · cases h
theorem in_ok (neg : Bool) {f : Value → Value → Sem Value} (h1 : OpR X f (fun x y H Q => ∃ (c : Nat) (z : Str), x = .str ⟨#[c]⟩ ∧ y = .str z ∧ Q (.bl (if neg then !decide (c ∈ z.cps.toList) else decide (c ∈ z.cps.toList))) H))
    (h2 : OpR X f (fun x y H Q => ∃ i j, x = .str i ∧ y = .str j ∧ Q (.bl (if neg then !!(Builtin.Str.occurrences j i 0 j.length 1).isEmpty else !(Builtin.Str.occurrences j i 0 j.length 1).isEmpty)) H))
    (h3 : OpR X f (rIn g.K neg)) (h4 : OpR X f (fun x y H Q => ∃ d ds, Dp g.K H x d ∧ Dp g.K H y (.list ds) ∧ SeqAt.shaped d = true ∧ SeqAt.shaped (.list ds) = true ∧ Q (.bl (if neg then !(ds.any fun z => PyData.eqv z d) else ds.any fun z => PyData.eqv z d)) H)) : OpR X f (rW g (inW neg)) := by
  rintro pins s σ H x y v u Q I rx ry ⟨wx, σ', ρ, F, S, a, b, L, r1, r2, P⟩
  unfold inW at P
  split at P
  · rename_i i j e1
    have hx := asD_str r1 e1
    subst hx
    cases r2
    rcases inStr_two i j with ⟨c, ei, eb⟩ | eb
    · subst ei
      rw [eb] at P
      exact h1 pins s σ H _ _ v u Q I rx ry ⟨c, j, rfl, rfl, P.val L (.bl _)⟩
    · rw [eb] at P
      exact h2 pins s σ H _ _ v u Q I rx ry ⟨i, j, rfl, rfl, P.val L (.bl _)⟩
  · rename_i d e1 _
    split at P
    · rename_i ys e2
      split at P
      · rename_i k hk
        unfold inD at hk
        split at hk
        · rename_i hf
          simp only [Bool.and_eq_true] at hf
          cases hk
          obtain ⟨p, vs, rfl, hp, q⟩ := asD_lst L r2 e2
          have r1' := asD_flat r1 e1 hf.1
          refine h3 pins s σ H _ _ v u Q I rx ry ⟨p, vs, rfl, .inl (SqL.of hp), (flat_V r1').trans hf.1, (flats_V q).trans hf.2, ?_⟩
          rw [in_V r1' q]
          exact P.val L (.bl _)
        · split at hk
          · rename_i hf
            cases hk
            simp only [D.ok, Bool.and_eq_true] at hf
            obtain ⟨⟨_, p1, q1⟩, p2, q2⟩ := hf
            have d2 := asD_dp L r2 e2 p2
            refine h4 pins s σ H _ _ v u Q I rx ry ⟨_, _, asD_dp L r1 e1 p1, by simpa [D.py] using d2, q1, by simpa [D.py] using q2, P.val L (.bl _)⟩
          · cases hk
      · exact P.elim
    · rename_i ys e2
      split at P
      · rename_i k hk
        unfold inD at hk
        split at hk
        · rename_i hf
          simp only [Bool.and_eq_true] at hf
          cases hk
          obtain ⟨p, vs, rfl, hp, q⟩ := asD_tup r2 e2
          have r1' := asD_flat r1 e1 hf.1
          refine h3 pins s σ H _ _ v u Q I rx ry ⟨p, vs, rfl, .inr hp, (flat_V r1').trans hf.1, (flats_V q).trans hf.2, ?_⟩
          rw [in_V r1' q]
          exact P.val L (.bl _)
        · split at hk
          · rename_i hf
            simp at hf
          · cases hk
      · exact P.elim
    · exact P.elim
  · exact P.elim
theorem isN_V {ρ : Nat → Addr} {n : Nat} {F : Addr → Prop} {H : Hp} {w : W} {v : V} (r : RepW g ρ n F H v w) : decide (v = .non) = isNonB w := by
  cases w with
  | o i =>
    obtain ⟨_, h⟩ := r
    subst h
    rfl
  | x =>
    obtain ⟨_, _, h, _⟩ := r
    subst h
    rfl
  | d x => cases r <;> rfl
theorem is_ok (neg : Bool) {f : Value → Value → Sem Value} (h : OpR X f (fun x y H Q => y = .non ∧ Q (.bl (if neg then !decide (x = .non) else decide (x = .non))) H)) : OpR X f (rW g (isNonW neg)) := by
  rintro pins s σ H x y v u Q I rx ry ⟨wx, σ', ρ, F, S, a, b, L, r1, r2, P⟩
  unfold isNonW at P
  split at P
  · cases r2
    refine h pins s σ H _ _ v u Q I rx ry ⟨rfl, ?_⟩
    rw [isN_V r1]
    exact P.val L (.bl _)
  · exact P.elim
theorem OpR.imp {f : Value → Value → Sem Value} {r r' : R2} (h : OpR X f r) (i : ∀ x y H Q, r' x y H Q → r x y H Q) : OpR X f r' := fun pins s σ H x y v u Q I rx ry q => h pins s σ H x y v u Q I rx ry (i x y H Q q)
theorem rI_of {f : Value → Value → Sem Value} {gV : Int → Int → V} (h : OpR X f (rI0 gV)) : OpR X f (rI (fun _ _ => True) gV) := OpR.imp h fun x y H Q ⟨i, j, e1, e2, _, q⟩ => ⟨i, j, e1, e2, q⟩
theorem lt_ok : OpR X (compareOp .Lt) (rW g strLt) := by
  rintro pins s σ H x y v u Q I rx ry ⟨wx, σ', ρ, F, S, a, b, L, r1, r2, P⟩
  unfold strLt at P
  split at P
  · cases r1; cases r2
    exact op_lt_str pins s σ H _ _ v u Q I rx ry ⟨_, _, rfl, rfl, P.val L (.bl _)⟩
  · exact opI (rI_of op_lt) (fun _ _ _ => trivial) (fun _ _ _ _ => .bl _) pins s σ H x y v u Q I rx ry ⟨wx, σ', ρ, F, S, a, b, L, r1, r2, P⟩
theorem cmp_ok (hu : X.A.units + 65 < cLine) (hK : X.K = g.K) (op : CmpOp) : OpR X (compareOp op) (rW g (cmpW op)) := by
  have hu' : X.A.units + 64 < cLine := Nat.lt_of_succ_lt hu
  cases op with
  | Eq => exact eq_ok false (OpR.imp op_eq fun x y H Q h => h) (hK ▸ OpR.imp (op_eqD hu') fun x y H Q h => h)
  | NotEq => exact eq_ok true (OpR.imp op_ne fun x y H Q h => h) (hK ▸ OpR.imp (op_neD hu') fun x y H Q h => h)
  | Lt => exact lt_ok
  | LtE => exact opI (rI_of op_le) (fun _ _ _ => trivial) fun _ _ _ _ => .bl _
  | Gt => exact opI (rI_of op_gt) (fun _ _ _ => trivial) fun _ _ _ _ => .bl _
  | GtE => exact opI (rI_of op_ge) (fun _ _ _ => trivial) fun _ _ _ _ => .bl _
  | In => exact in_ok false (OpR.imp op_in_sign fun x y H Q h => h) (OpR.imp op_in_str fun x y H Q h => h) (hK ▸ op_in_seq) (hK ▸ OpR.imp (op_inD hu) fun x y H Q h => h)
  | NotIn => exact in_ok true (OpR.imp op_notIn_sign fun x y H Q h => h) (OpR.imp op_notin_str fun x y H Q h => h) (hK ▸ op_notIn_seq) (hK ▸ OpR.imp (op_notInD hu) fun x y H Q h => h)
  | Is => exact is_ok false (OpR.imp op_isN fun x y H Q h => h)
  | IsNot => exact is_ok true (OpR.imp op_notN fun x y H Q h => h)
end
end Mi

namespace Mi
open PySem L2

/-! ### truth, length, items, slices -/
def truW (S : Store) : W → Option Bool
  | .d .non => some false
  | .d (.bl b) => some b
  | .d (.int i) => some (i != 0)
  | .d (.str x) => if x.length ≤ 100000 then some ((x.length : Int) != 0) else none
  | .d (.lst ds) => some !ds.isEmpty
  | .d (.tup ds) => some !ds.isEmpty
  | .o n => match S[n]? with
    | some (.lst ws) => some !ws.isEmpty
    | _ => none
  | _ => none
def lenN (S : Store) : W → Option Nat
  | .d (.str x) => if x.length ≤ 100000 then some x.length else none
  | .d (.lst ds) => some ds.length
  | .d (.tup ds) => some ds.length
  | .d (.scr ns) => some ns.length
  | .o n => match S[n]? with
    | some (.lst ws) => some ws.length
    | _ => none
  | _ => none
def ixW (a b : W) (S : Store) : R W := match b with
  | .d (.int i) => match a with
    | .d (.str z) => if z.length ≤ 100000 then match atI z.cps.toList i with
        | some c => .ok (.d (.str ⟨#[c]⟩)) S
        | none => .bad
      else .bad
    | .d (.scr ns) => match atI ns i with
      | some k => .ok (.d (.int k)) S
      | none => .bad
    | .d (.tup ds) => match atI ds i with
      | some x => .ok (.d x) S
      | none => .bad
    | .d (.lst ds) => match atI ds i with
      | some x => .ok (.d x) S
      | none => .bad
    | .o n => match S[n]? with
      | some (.lst ws) => match atI ws i with
        | some w => .ok w S
        | none => .bad
      | _ => .bad
    | _ => .bad
  | _ => .bad
def cutG {α : Type} (xs : List α) (lo hi : Option Int) : List α := (xs.drop (HT.sIx xs.length 0 lo)).take (HT.sIx xs.length xs.length hi - HT.sIx xs.length 0 lo)
def slW (a : W) (lo hi : Option Int) (S : Store) : R W := match a with
  | .d (.str z) => if z.length ≤ 100000 then .ok (.d (.str (cutS z lo hi))) S else .bad
  | .d (.tup ds) => .ok (.d (.tup (cutG ds lo hi))) S
  | a => match asD S a with
    | some (.lst ds) => .ok (.d (.lst (cutG ds lo hi))) S
    | _ => .bad
section
variable {X : Cx} {g : Gx} {ρ : Nat → Addr} {F : Addr → Prop} {H : Hp} {S : Store}
theorem isEmpty_p {α β : Type} {A : α → β → Prop} {l : List α} {m : List β} (h : Paired A l m) : m.isEmpty = l.isEmpty := by cases h <;> rfl
theorem tru_V {w : W} {v : V} {k : Bool} (L : Rl g ρ F H S) (r : RepW g ρ S.length F H v w) (h : truW S w = some k) : TruV g.K v H k := by
  unfold truW at h
  split at h
  · cases r; cases h; rfl
  · cases r; cases h; rfl
  · cases r; cases h; rfl
  · cases r
    split at h
    · cases h
      exact ⟨Nat.le_trans (by assumption) (by decide), rfl⟩
    · cases h
  · cases h
    cases r with
    | lst f e q => exact .inl ⟨_, SqL.of e, by have := isEmpty_p (reps_ws (ρ := ρ) (n := 0) q); simp at this; simp [this]⟩
  · cases h
    cases r with
    | tup f e q => exact .inr (.inl ⟨_, SqT.of e, by have := isEmpty_p (reps_ws (ρ := ρ) (n := 0) q); simp at this; simp [this]⟩)
    | tupK e q => exact .inr (.inl ⟨_, e _, by have := isEmpty_p (reps_ws (ρ := ρ) (n := 0) q); simp at this; simp [this]⟩)
  · rename_i n
    split at h
    · rename_i ws e
      cases h
      obtain ⟨vs, h1, h2⟩ := L.at_ n _ e
      rw [r.2]
      exact .inl ⟨vs, SqL.of h1, by rw [isEmpty_p h2]⟩
    · cases h
  · cases h
theorem len_V {w : W} {v : V} {k : Nat} (L : Rl g ρ F H S) (r : RepW g ρ S.length F H v w) (h : lenN S w = some k) : LenV g.K v H k := by
  unfold lenN at h
  split at h
  · cases r
    split at h
    · cases h
      exact ⟨Nat.le_trans (by assumption) (by decide), rfl⟩
    · cases h
  · cases h
    cases r with
    | lst f e q => exact .inl ⟨_, SqL.of e, (reps_len q).symm⟩
  · cases h
    cases r with
    | tup f e q => exact .inr ⟨_, SqT.of e, (reps_len q).symm⟩
    | tupK e q => exact .inr ⟨_, e _, (reps_len q).symm⟩
  · cases h
    cases r with
    | scr f e => exact .inl ⟨_, e, by simp⟩
  · rename_i n
    split at h
    · rename_i ws e
      cases h
      obtain ⟨vs, h1, h2⟩ := L.at_ n _ e
      rw [r.2]
      exact .inl ⟨vs, SqL.of h1, (paired_len h2).symm⟩
    · cases h
  · cases h
theorem atI_p {α β : Type} {A : α → β → Prop} {l : List α} {m : List β} {i : Int} {b : β} (h : Paired A l m) (e : atI m i = some b) : ∃ a, atI l i = some a ∧ A a b := by
  unfold atI at e ⊢
  rw [paired_len h]
  cases q : ixN m.length i with
  | none => rw [q] at e; cases e
  | some j =>
    rw [q] at e
    exact paired_get h e
theorem atI_map {α β : Type} (f : α → β) (l : List α) (i : Int) : atI (l.map f) i = (atI l i).map f := by
  unfold atI
  rw [List.length_map]
  cases ixN l.length i with
  | none => rfl
  | some j => simp
theorem atI_reps {vs : List V} {ds : List D} {i : Int} {x : D} (h : Reps g F H vs ds) (e : atI ds i = some x) : ∃ v, atI vs i = some v ∧ Rep g F H v x := by
  obtain ⟨v, h1, h2⟩ := atI_p (i := i) (b := W.d x) (reps_ws (ρ := fun _ => 0) (n := 0) h) (by rw [atI_map, e]; rfl)
  exact ⟨v, h1, h2⟩
theorem ix_ok (hK : X.K = g.K) : IxR X (rW g ixW) := by
  rintro value slice pins s σ H x y v u Q I rx ry ⟨wx, σ', ρ, F, S, a, b, L, r1, r2, P⟩ hs
  unfold ixW at P
  split at P
  · rename_i i
    cases r2
    split at P
    · rename_i z
      cases r1
      split at P
      · rename_i hz
        split at P
        · rename_i c hc
          exact ix_str value slice pins s σ H _ _ v u Q I rx ry ⟨z, i, c, rfl, rfl, Nat.le_trans hz (by decide), hc, P.val L (.str _)⟩ hs
        · exact P.elim
      · exact P.elim
    · rename_i ns
      split at P
      · rename_i k hk
        cases r1 with
        | scr f e => exact ix_list value slice pins s σ H _ _ v u Q I rx ry ⟨_, _, i, .int k, rfl, rfl, hK ▸ e, by rw [atI_map, hk]; rfl, P.val L (.int _)⟩ hs
      · exact P.elim
    · rename_i ds
      split at P
      · rename_i k hk
        cases r1 with
        | tup f e q =>
          obtain ⟨w, h1, h2⟩ := atI_reps q hk
          exact ix_tup value slice pins s σ H _ _ v u Q I rx ry ⟨_, _, i, w, rfl, rfl, SqT.of e, h1, P.val L h2⟩ hs
        | tupK e q =>
          obtain ⟨w, h1, h2⟩ := atI_reps q hk
          exact ix_tup value slice pins s σ H _ _ v u Q I rx ry ⟨_, _, i, w, rfl, rfl, hK ▸ e _, h1, P.val L h2⟩ hs
      · exact P.elim
    · rename_i ds
      split at P
      · rename_i k hk
        cases r1 with
        | lst f e q =>
          obtain ⟨w, h1, h2⟩ := atI_reps q hk
          exact ix_list value slice pins s σ H _ _ v u Q I rx ry ⟨_, _, i, w, rfl, rfl, SqL.of e, h1, P.val L h2⟩ hs
      · exact P.elim
    · rename_i n
      split at P
      · rename_i ws e
        split at P
        · rename_i w hw
          obtain ⟨vs, h1, h2⟩ := L.at_ n _ e
          obtain ⟨z, h3, h4⟩ := atI_p h2 hw
          rw [r1.2] at rx
          exact ix_list value slice pins s σ H _ _ v u Q I rx ry ⟨_, _, i, z, rfl, rfl, SqL.of h1, h3, P.val L h4⟩ hs
        · exact P.elim
      · exact P.elim
    · exact P.elim
  · exact P.elim
theorem paired_drop {α β : Type} {A : α → β → Prop} : ∀ {l : List α} {m : List β} (n : Nat), Paired A l m → Paired A (l.drop n) (m.drop n)
  | _, _, 0, r => r
  | _, _, _ + 1, .nil => .nil
  | _, _, n + 1, .cons _ t => paired_drop n t
theorem paired_take {α β : Type} {A : α → β → Prop} : ∀ {l : List α} {m : List β} (n : Nat), Paired A l m → Paired A (l.take n) (m.take n)
  | _, _, 0, _ => .nil
  | _, _, _ + 1, .nil => .nil
  | _, _, n + 1, .cons r t => .cons r (paired_take n t)
theorem cut_reps {vs : List V} {ds : List D} (lo hi : Option Int) (h : Reps g F H vs ds) : Reps g F H (cutV vs lo hi) (cutG ds lo hi) := by
  have q := paired_take (HT.sIx ds.length ds.length hi - HT.sIx ds.length 0 lo) (paired_drop (HT.sIx ds.length 0 lo) (reps_ws (ρ := fun _ => 0) (n := 0) h))
  unfold cutV cutG
  rw [reps_len h]
  rw [← List.map_drop, ← List.map_take] at q
  exact ws_reps q
theorem cut_all {α : Type} {xs : List α} {lo hi : Option Int} (h : HT.sIx xs.length 0 lo = 0 ∧ HT.sIx xs.length xs.length hi = xs.length) : cutG xs lo hi = xs := by
  unfold cutG
  rw [h.1, h.2]
  simp
theorem sl_ok (hK : X.K = g.K) : SlR X (fun x lo hi H Q => ∃ (wx : WX) (σ : L2.St) (ρ : Nat → Addr) (F : Addr → Prop) (S : Store) (a : W), Rl g ρ F H S ∧ RepW g ρ S.length F H x a ∧ Post g wx σ (rpW g) ρ S.length F H Q (slW a lo hi S)) := by
  rintro pins s σ H x v vl vu lo hi sl Q I rx hs pl pu ⟨wx, σ', ρ, F, S, a, L, r1, P⟩
  unfold slW at P
  split at P
  · rename_i z
    cases r1
    split at P
    · rename_i hz
      exact sl_str pins s σ H _ v vl vu lo hi sl Q I rx hs pl pu ⟨z, rfl, Nat.le_trans hz (by decide), P.val L (.str _)⟩
    · exact P.elim
  · rename_i ds
    have go : ∀ {p : Addr} {vs : List V}, x = .ref p → SqT X.K H p vs → Reps g F H vs ds → RepW g ρ S.length F H x (.d (.tup ds)) → _ := fun {p vs} ex hp q rr => by
      subst ex
      refine sl_tupA pins s σ H _ v vl vu lo hi sl Q I rx hs pl pu ⟨p, vs, rfl, hp, fun h => ?_, fun _ => P.tup L (cut_reps lo hi q)⟩
      rw [reps_len q] at h
      rw [cut_all h] at P
      exact P.val L rr
    cases r1 with
    | tup f e q => exact go rfl (SqT.of e) q (.tup f e q)
    | tupK e q => exact go rfl (hK ▸ e _) q (.tupK e q)
  · split at P
    · rename_i ds e
      obtain ⟨p, vs, rfl, hp, q⟩ := asD_lst L r1 e
      exact sl_list pins s σ H _ v vl vu lo hi sl Q I rx hs pl pu ⟨p, vs, rfl, SqL.of hp, P.lst L (cut_reps lo hi q)⟩
    · exact P.elim
end
end Mi

namespace Mi
open PySem L2

/-! ### built-in functions, classes, methods of lists -/
def boolsOf : List D → Option (List Bool)
  | [] => some []
  | .bl b :: r => (boolsOf r).map (b :: ·)
  | _ :: _ => none
def callB (calm : Bool) (id : String) (as : List W) (S : Store) : R W :=
  if id = "len" then match as with
    | [w] => match lenN S w with
      | some n => .ok (.d (.int n)) S
      | none => .bad
    | _ => .bad
  else if id = "abs" then match as with
    | [.d (.int i)] => .ok (.d (.int (if i < 0 then -i else i))) S
    | _ => .bad
  else if id = "max" then match calm, as with
    | true, [.d (.int i), .d (.int j)] => .ok (.d (.int (if j > i then j else i))) S
    | _, _ => .bad
  else if id = "min" then match calm, as with
    | true, [.d (.int i), .d (.int j)] => .ok (.d (.int (if j < i then j else i))) S
    | _, _ => .bad
  else if id = "all" then match calm, as with
    | true, [w] => match asD S w with
      | some (.lst ds) => match boolsOf ds with
        | some bs => .ok (.d (.bl (bs.all fun b => b))) S
        | none => .bad
      | _ => .bad
    | _, _ => .bad
  else if id = "any" then match calm, as with
    | true, [w] => match asD S w with
      | some (.lst ds) => match boolsOf ds with
        | some bs => .ok (.d (.bl (bs.any fun b => b))) S
        | none => .bad
      | _ => .bad
    | _, _ => .bad
  else .bad
/-- list(x), tuple(x), int(x), str(x) -/
def itemsD (S : Store) : W → Option (List D)
  | .d (.tup ds) => some ds
  | w => match asD S w with
    | some (.lst ds) => some ds
    | _ => none
def callTy (T : String) (as : List W) (S : Store) : R W :=
  if T = "int" then match as with
    | [.d (.int i)] => .ok (.d (.int i)) S
    | [.d (.bl b)] => .ok (.d (.int (if b then 1 else 0))) S
    | _ => .bad
  else if T = "list" then match as with
    | [w] => match itemsD S w with
      | some ds => .ok (.d (.lst ds)) S
      | none => .bad
    | _ => .bad
  else if T = "tuple" then match as with
    | [.d (.tup ds)] => .ok (.d (.tup ds)) S
    | [w] => match asD S w with
      | some (.lst ds) => .ok (.d (.tup ds)) S
      | _ => .bad
    | _ => .bad
  else if T = "str" then match as with
    | [.d (.int i)] => if i.natAbs.log2 < 1920 then .ok (.d (.str (toString i))) S else .bad
    | _ => .bad
  else .bad
/-- x = list(y), to be changed -/
def boxTy (T : String) (as : List W) (S : Store) : R W :=
  if T = "list" then match as with
    | [w] => match itemsD S w with
      | some ds => .ok (.o S.length) (S ++ [.lst (ds.map W.d)])
      | none => .bad
    | _ => .bad
  else .bad
def mtW (id : String) (a : W) (as : List W) (S : Store) : R W := match a with
  | .o n => match S[n]? with
    | some (.lst ws) =>
      if id = "list.append" then match as with
        | [w] => if ws.length < 100000 then .ok (.d .non) (S.set n (.lst (ws ++ [w]))) else .bad
        | _ => .bad
      else if id = "list.extend" then match as with
        | [w] => match asD S w with
          | some (.lst ds) => if ws.length + ds.length ≤ 100000 then .ok (.d .non) (S.set n (.lst (ws ++ ds.map W.d))) else .bad
          | _ => .bad
        | _ => .bad
      else if id = "list.pop" then match as with
        | [] => match ws[ws.length - 1]? with
          | some w => .ok w (S.set n (.lst ws.dropLast))
          | none => .bad
        | [.d (.int i)] => if decide (-(2 ^ 63) ≤ i) && decide (i < 2 ^ 63) then match seqIndex? i ws.length with
            | some k => match ws[k]? with
              | some w => .ok w (S.set n (.lst (ws.eraseIdx k)))
              | none => .bad
            | none => .bad
          else .bad
        | _ => .bad
      else if id = "list.remove" then match as with
        | [.d x] => match pureL ws with
          | some ds => if plainL ds && x.plain && PyData.plainAll (pyL ds) && x.py.plain && decide (x.py.depth ≤ 60) then match SeqAt.dataPlace (pyL ds) x.py with
              | some j => .ok (.d .non) (S.set n (.lst (ws.eraseIdx j)))
              | none => .bad
            else .bad
          | none => .bad
        | _ => .bad
      else .bad
    | _ => .bad
  | _ => .bad
def rWm (g : Gx) (m : W → List W → Store → R W) : V → List V → Hp → VK → Prop := fun x xs H Q => ∃ (wx : WX) (σ : L2.St) (ρ : Nat → Addr) (F : Addr → Prop) (S : Store) (a : W) (as : List W), Rl g ρ F H S ∧ RepW g ρ S.length F H x a ∧ RepWs g ρ S.length F H xs as ∧ Post g wx σ (rpW g) ρ S.length F H Q (m a as S)
section
variable {X : Cx} {g : Gx} {ρ : Nat → Addr} {F : Addr → Prop} {H : Hp} {S : Store}
theorem bools_V : ∀ {vs : List V} {ds : List D} {bs : List Bool}, Reps g F H vs ds → boolsOf ds = some bs → vs = bs.map V.bl
  | _, _, _, .nil, h => by cases h; rfl
  | _, _, _, .cons (x := x) a r, h => by
    cases a with
    | bl b =>
      unfold boolsOf at h
      cases q : boolsOf _ with
      | none => rw [q] at h; cases h
      | some bs =>
        rw [q] at h
        cases h
        rw [bools_V r q]
        rfl
    | _ => cases h
theorem one_ws {xs : List V} {w : W} {n : Nat} (h : RepWs g ρ n F H xs [w]) : ∃ x, xs = [x] ∧ RepW g ρ n F H x w := by
  cases h with
  | cons a b => cases b; exact ⟨_, rfl, a⟩
theorem two_ws {xs : List V} {w u : W} {n : Nat} (h : RepWs g ρ n F H xs [w, u]) : ∃ x y, xs = [x, y] ∧ RepW g ρ n F H x w ∧ RepW g ρ n F H y u := by
  cases h with
  | cons a b =>
    obtain ⟨y, rfl, c⟩ := one_ws b
    exact ⟨_, y, rfl, a, c⟩
theorem callB_ok (hK : X.K = g.K) {calm : Bool} (hc : calm = true → X.calm = true) (id : String) : CallR X (.builtin id) (rWs g (callB calm id)) := by
  rintro pins s σ H xs us Q I r ⟨wx, σ', ρ, F, S, as, L, rs, P⟩
  unfold callB at P
  split at P
  · subst id
    split at P
    · rename_i w
      split at P
      · rename_i n hn
        obtain ⟨x, rfl, rx⟩ := one_ws rs
        exact call_len pins s σ H _ us Q I r ⟨x, n, rfl, hK ▸ len_V L rx hn, P.val L (.int _)⟩
      · exact P.elim
    · exact P.elim
  split at P
  · subst id
    split at P
    · obtain ⟨x, rfl, rx⟩ := one_ws rs
      cases rx
      exact call_abs pins s σ H _ us Q I r ⟨_, rfl, P.val L (.int _)⟩
    · exact P.elim
  split at P
  · subst id
    split at P
    · obtain ⟨x, y, rfl, rx, ry⟩ := two_ws rs
      cases rx; cases ry
      exact call_max2 (hc rfl) pins s σ H _ us Q I r ⟨_, _, rfl, P.val L (.int _)⟩
    · exact P.elim
  split at P
  · subst id
    split at P
    · obtain ⟨x, y, rfl, rx, ry⟩ := two_ws rs
      cases rx; cases ry
      exact call_min2 (hc rfl) pins s σ H _ us Q I r ⟨_, _, rfl, P.val L (.int _)⟩
    · exact P.elim
  split at P
  · subst id
    split at P
    · split at P
      · rename_i ds e
        split at P
        · rename_i bs hb
          obtain ⟨x, rfl, rx⟩ := one_ws rs
          obtain ⟨p, vs, rfl, hp, q⟩ := asD_lst L rx e
          rw [bools_V q hb] at hp
          exact cr_all (hc rfl) pins s σ H _ us Q I r ⟨p, bs, rfl, SqL.of hp, P.val L (.bl _)⟩
        · exact P.elim
      · exact P.elim
    · exact P.elim
  split at P
  · subst id
    split at P
    · split at P
      · rename_i ds e
        split at P
        · rename_i bs hb
          obtain ⟨x, rfl, rx⟩ := one_ws rs
          obtain ⟨p, vs, rfl, hp, q⟩ := asD_lst L rx e
          rw [bools_V q hb] at hp
          exact cr_any (hc rfl) pins s σ H _ us Q I r ⟨p, bs, rfl, SqL.of hp, P.val L (.bl _)⟩
        · exact P.elim
      · exact P.elim
    · exact P.elim
  · exact P.elim
theorem itemsD_ok (hK : X.K = g.K) {w : W} {v : V} {ds : List D} (L : Rl g ρ F H S) (r : RepW g ρ S.length F H v w) (h : itemsD S w = some ds) : ∃ p vs, v = .ref p ∧ (SqL X.K H p vs ∨ SqT X.K H p vs) ∧ Reps g F H vs ds := by
  unfold itemsD at h
  split at h
  · cases h
    cases r with
    | tup f e q => exact ⟨_, _, rfl, .inr (SqT.of e), q⟩
    | tupK e q => exact ⟨_, _, rfl, .inr (hK ▸ e _), q⟩
  · split at h
    · rename_i ds' e
      cases h
      obtain ⟨p, vs, rfl, hp, q⟩ := asD_lst L r e
      exact ⟨p, vs, rfl, .inl (SqL.of hp), q⟩
    · cases h
theorem callTy_ok (hK : X.K = g.K) (T : String) : CallR X (.type T) (rWs g (callTy T)) := by
  rintro pins s σ H xs us Q I r ⟨wx, σ', ρ, F, S, as, L, rs, P⟩
  unfold callTy at P
  split at P
  · subst T
    split at P
    · obtain ⟨x, rfl, rx⟩ := one_ws rs
      cases rx
      exact call_int1 pins s σ H _ us Q I r (.inl ⟨_, rfl, P.val L (.int _)⟩)
    · obtain ⟨x, rfl, rx⟩ := one_ws rs
      cases rx
      exact call_int1 pins s σ H _ us Q I r (.inr ⟨_, rfl, P.val L (.int _)⟩)
    · exact P.elim
  split at P
  · subst T
    split at P
    · split at P
      · rename_i ds e
        obtain ⟨x, rfl, rx⟩ := one_ws rs
        obtain ⟨p, vs, rfl, hp, q⟩ := itemsD_ok hK L rx e
        exact call_list_of pins s σ H _ us Q I r ⟨p, vs, rfl, hp, P.lst L q⟩
      · exact P.elim
    · exact P.elim
  split at P
  · subst T
    split at P
    · obtain ⟨x, rfl, rx⟩ := one_ws rs
      have rx' := rx
      cases rx' with
      | tup f e q => exact call_tuple_of pins s σ H _ us Q I r ⟨_, _, rfl, .inr ⟨SqT.of e, P.val L rx⟩⟩
      | tupK e q => exact call_tuple_of pins s σ H _ us Q I r ⟨_, _, rfl, .inr ⟨hK ▸ e _, P.val L rx⟩⟩
    · split at P
      · rename_i ds e
        obtain ⟨x, rfl, rx⟩ := one_ws rs
        obtain ⟨p, vs, rfl, hp, q⟩ := asD_lst L rx e
        exact call_tuple_of pins s σ H _ us Q I r ⟨p, vs, rfl, .inl ⟨SqL.of hp, P.tup L q⟩⟩
      · exact P.elim
    · exact P.elim
  split at P
  · subst T
    split at P
    · obtain ⟨x, rfl, rx⟩ := one_ws rs
      cases rx
      split at P
      · exact call_str_int pins s σ H _ us Q I r ⟨_, rfl, by assumption, P.val L (.str _)⟩
      · exact P.elim
    · exact P.elim
  · exact P.elim
theorem boxTy_ok (hK : X.K = g.K) (T : String) : CallR X (.type T) (rWs g (boxTy T)) := by
  rintro pins s σ H xs us Q I r ⟨wx, σ', ρ, F, S, as, L, rs, P⟩
  unfold boxTy at P
  split at P
  · subst T
    split at P
    · split at P
      · rename_i ds e
        obtain ⟨x, rfl, rx⟩ := one_ws rs
        obtain ⟨p, vs, rfl, hp, q⟩ := itemsD_ok hK L rx e
        exact call_list_of pins s σ H _ us Q I r ⟨p, vs, rfl, hp, P.cell L (reps_ws q)⟩
      · exact P.elim
    · exact P.elim
  · exact P.elim
/-- a changed list -/
theorem Post.setL {wx : WX} {σ : L2.St} {Q : VK} {n : Nat} {ws ws0 : List W} {vs : List V} {w : W} {v : V} (hn : S[n]? = some (.lst ws0)) (L : Rl g ρ F H S) (P : Post g wx σ (rpW g) ρ S.length F H Q (.ok w (S.set n (.lst ws)))) (r : RepWs g ρ S.length F H vs ws) (rv : RepW g ρ S.length F H v w) : Q v (upd H (ρ n) (.lst vs)) := by
  have z := gr_set (c := .lst ws) (o := .lst vs) L hn rfl
  exact P _ ρ F _ z (rl_set L hn rfl ⟨vs, upd_same, r.mono z⟩) (rv.mono z)
theorem paired_erase {α β : Type} {A : α → β → Prop} : ∀ {l : List α} {m : List β} (n : Nat), Paired A l m → Paired A (l.eraseIdx n) (m.eraseIdx n)
  | _, _, _, .nil => .nil
  | _, _, 0, .cons _ t => t
  | _, _, n + 1, .cons r t => .cons r (paired_erase n t)
theorem paired_dropLast {α β : Type} {A : α → β → Prop} {l : List α} {m : List β} (h : Paired A l m) : Paired A l.dropLast m.dropLast := by
  rw [List.dropLast_eq_take, List.dropLast_eq_take, paired_len h]
  exact paired_take _ h
theorem vals_erase : ∀ {l : List V} {m : List Value} (n : Nat), Vals l m → Vals (l.eraseIdx n) (m.eraseIdx n) := fun n h => paired_erase n h
theorem mt_ok (hu : X.A.units + 200 < cLine) (hK : X.K = g.K) (id : String) : MtR X id (rWm g (mtW id)) := by
  rintro pins s σ H x xs v us Q I rx rxs ⟨wx, σ', ρ, F, S, a, as, L, ra, rs, P⟩
  unfold mtW at P
  split at P
  · rename_i n
    split at P
    · rename_i ws e
      obtain ⟨vs, h1, h2⟩ := L.at_ n _ e
      have hn := ra.1
      have ex := ra.2
      subst ex
      split at P
      · subst id
        split at P
        · rename_i w
          obtain ⟨y, rfl, ry⟩ := one_ws rs
          split at P
          · rename_i hz
            refine mt_append pins s σ H _ _ v us Q I rx rxs ⟨_, _, y, rfl, rfl, h1, ?_, ?_⟩
            · rw [paired_len h2]
              exact Nat.lt_of_lt_of_le hz (by decide)
            · exact Post.setL e L P (paired_app h2 (.cons ry .nil)) (show RepW g ρ S.length F H V.non (.d .non) from .non)
          · exact P.elim
        · exact P.elim
      split at P
      · subst id
        split at P
        · split at P
          · rename_i ds e2
            split at P
            · rename_i hz
              obtain ⟨y, rfl, ry⟩ := one_ws rs
              obtain ⟨p, zs, rfl, hp, q⟩ := asD_lst L ry e2
              refine mt_extend pins s σ H _ _ v us Q I rx rxs ⟨_, p, _, zs, rfl, rfl, h1, hp, ?_, ?_⟩
              · rw [paired_len h2, reps_len q]
                exact Nat.le_trans hz (by decide)
              · exact Post.setL e L P (paired_app h2 (reps_ws q)) (show RepW g ρ S.length F H V.non (.d .non) from .non)
            · exact P.elim
          · exact P.elim
        · exact P.elim
      split at P
      · subst id
        split at P
        · split at P
          · rename_i w hw
            cases rs
            rw [← paired_len h2] at hw
            obtain ⟨y, hy, ry⟩ := paired_get h2 hw
            exact mt_pop pins s σ H _ _ v us Q I rx rxs ⟨_, _, y, rfl, rfl, h1, hy, Post.setL e L P (paired_dropLast h2) ry⟩
          · exact P.elim
        · rename_i i
          split at P
          · rename_i hi
            simp only [Bool.and_eq_true, decide_eq_true_eq] at hi
            split at P
            · rename_i k hk
              split at P
              · rename_i w hw
                obtain ⟨y, hy, ry⟩ := paired_get h2 hw
                obtain ⟨z, rfl, rz⟩ := one_ws rs
                cases rz
                rw [← paired_len h2] at hk
                exact mt_popAt pins s σ H _ _ v us Q I rx rxs ⟨_, _, i, k, y, rfl, rfl, h1, hi.1, hi.2, hk, hy, Post.setL e L P (paired_erase k h2) ry⟩
              · exact P.elim
            · exact P.elim
          · exact P.elim
        · exact P.elim
      split at P
      · subst id
        split at P
        · rename_i d
          split at P
          · rename_i ds hd
            split at P
            · rename_i hok
              simp only [Bool.and_eq_true, decide_eq_true_eq] at hok
              obtain ⟨⟨⟨⟨p1, p2⟩, p3⟩, p4⟩, p5⟩ := hok
              split at P
              · rename_i j hj
                obtain ⟨y, rfl, ry⟩ := one_ws rs
                obtain ⟨u, rfl, ru⟩ := rxs.one
                cases rx
                have h2' := h2
                rw [pureL_eq hd] at h2'
                have q := ws_reps h2'
                obtain ⟨hz, its, nn, rv, hl, eo⟩ := I.lstM h1
                obtain ⟨as1, q1⟩ := Dp.reads I d.py y u (hK ▸ Rep.dp ry p2) ru
                obtain ⟨as2, q2⟩ := Dp.readsAll I (pyL ds) vs its (hK ▸ Reps.dp q p1) rv
                refine SeqAt.remove_list_data (xs := pyL ds) (vs := its.toArray) (j := j) ⟨_, eo, rfl, nn, rfl⟩ (by simpa using q2) q1 p3 p4 ?_ hj (by rw [List.size_toArray, ← hl]; exact hz) ?_
                · have : min (PyData.depthAll (pyL ds)) d.py.depth ≤ d.py.depth := Nat.min_le_right _ _
                  omega
                · refine ⟨.non, upd H (ρ n) (.lst (vs.eraseIdx j)), ?_, rfl, Post.setL e L P (paired_erase j h2) (show RepW g ρ S.length F H V.non (.d .non) from .non)⟩
                  refine I.lset (its' := its.eraseIdx j) (t' := s.toks) h1 eo ?_ (vals_erase j rv) ?_
                  · show its.toArray.eraseIdxIfInBounds j = (its.eraseIdx j).toArray
                    rw [List.eraseIdxIfInBounds_toArray]
                  · refine Nat.le_trans ?_ hz
                    exact List.length_eraseIdx_le vs j
              · exact P.elim
            · exact P.elim
          · exact P.elim
        · exact P.elim
      · exact P.elim
    · exact P.elim
  · exact P.elim
end
end Mi

namespace Mi
open PySem L2

/-! ### where one stands -/
structure Ctx where
  N : List Str
  sc : Scope
  calm : Bool
  top : Bool
  box : List Str
  k : Nat
/-- a class: a built-in one, an own one -/
inductive Kd where
  | b (T : String) | c (n : Str)
def Kd.same : Kd → Kd → Bool
  | .b S, .b T => decide (S = T)
  | .c m, .c n => decide (m = n)
  | _, _ => false
theorem Kd.same_eq : ∀ {a b : Kd}, a.same b = true → a = b
  | .b S, .b T, h => by rw [of_decide_eq_true h]
  | .c m, .c n, h => by rw [of_decide_eq_true h]
  | .b _, .c _, h => by cases h
  | .c _, .b _, h => by cases h
def Kd.val (g : Gx) : Kd → Value
  | .b T => .type T
  | .c n => .ref (g.ca n)
/-- own things: a def or a class by its name, a method by its class and name; which methods and fields there are; own classes, those of errors; which class is under which -/
structure Own where
  fn : Str → List W → List (Str × W) → Store → R W
  mt : Str → Str → List W → List (Str × W) → Store → R W
  mts : List (Str × Str)
  flds : List (Str × Str)
  xflds : List (Str × Str)
  clss : List Str
  ins : List Str
  xcs : List Str
  xmk : Str → Option (List Str)
  isa : Kd → Kd → Option Bool
  exm : Str → Kd → Option Bool
  nf : Str → Kd → Bool
/-- the heap's globals and built-ins -/
structure Glb (mg : Str → Option Value) (h : Heap) : Prop where
  g : h.Ns mainGlobals mg
  b : ∃ mb, h.Ns builtinsNs mb ∧ ∀ y : Str, y ≠ "__name__" → mb y = bootBuiltins y
theorem Glb.keeps {mg : Str → Option Value} {h h' : Heap} (x : Glb mg h) (k : ∀ b o, h.get? b = some o → h'.get? b = some o) : Glb mg h' := by
  obtain ⟨mb, h1, h2⟩ := x.b
  exact ⟨x.g.keeps k, mb, h1.keeps k, h2⟩
/-- what stands behind C(us): the exception at e, its dict -/
structure Made (base : Heap) (C e : Addr) (l : List Str) (us : List Value) (od : Option Addr) (h : Heap) : Prop where
  ob : ∃ t1 : Addr, h.get? e = some { cls := .ref C, dict := od, data := .fields #[.ref t1, .none, .none, .none, .bool false, .none] }
  be : base.objs.size ≤ e
  kp : ∀ b o, base.get? b = some o → h.get? b = some o
  dc : match od with
    | none => l = []
    | some dx => base.objs.size ≤ dx ∧ dx ≠ e ∧ ∃ mA, h.Ns1 dx mA ∧ (∀ (i : Nat) (f : Str) (u : Value), l[i]? = some f → us[i]? = some u → mA f = some u) ∧ ∀ y, y ∉ l → mA y = none
/-- C(us) makes an exception whose fields are laid -/
def XMk (P : Program) (w : World) (K : PySem.W.Frag) (mg : Str → Option Value) (C : Addr) (fs : List Str) : Prop :=
  ∀ (A : Around) (E : Value → Shared → Prop) (s : Shared) (us : List Value) (Q : Value → Shared → Prop) (k : Nat), Room (k + 1) A → K.In s.heap → Glb mg s.heap → s.heap.NoLimit → us.length = fs.length →
    (∀ h' tk e od, Made s.heap C e fs us od h' → Q (.ref e) { s with heap := h', toks := tk }) → wpAny (model P w) A (call (.ref C) us) Q E s
structure XRaise (P : Program) (w : World) (K : PySem.W.Frag) (mg : Str → Option Value) (C : Addr) (fs : List Str) : Prop where
  kp : PySem.W.keepIn K (.ref C) = true
  mak : XMk P w K mg C fs
  sb : PySem.W.subIn K (.ref C) (.type "BaseException") = some true
  ty : PySem.W.typeIn K (.ref C) = some (.type "type")
/-- a def (a class) at f, called with arguments and keywords, does what m says; room for k calls -/
def FnM (g : Gx) (P : Program) (w : World) (K : PySem.W.Frag) (mg : Str → Option Value) (base : Heap) (k : Nat) (f : Addr) (m : List W → List (Str × W) → Store → R W) : Prop :=
  ∀ (A : Around) (outer : List Env) (s : Shared) (H : Hp) (us : List Value) (vs : List V) (ks : List Str) (ws : List Value) (zs : List V) (Q : VK) (E : XK), Room k A → A.guards = some [] → Env0 P w K mg base A outer s H → Vals vs us → Vals zs ws →
    (∃ (ρ : Nat → Addr) (F : Addr → Prop) (S : Store) (as bs : List W), Rl g ρ F H S ∧ RepWs g ρ S.length F H vs as ∧ RepWs g ρ S.length F H zs bs ∧ Post g (fun c d _ H => E c d H) [] (rpW g) ρ S.length F H Q (m as (ks.zip bs) S)) →
    codeAny (model P w) A (.call (.ref f) ⟨us, ks.zip ws⟩) (CR (L2.CX P w) outer P w H s Q E) s
structure OwnOk (g : Gx) (P : Program) (w : World) (K : PySem.W.Frag) (mg : Str → Option Value) (base : Heap) (k : Nat) (G : List (Str × Bool)) (ow : Own) : Prop where
  fn : ∀ x, (x, true) ∈ G → ∃ f, mg x = some (.ref f) ∧ PySem.W.keepIn K (.ref f) = true ∧ FnM g P w K mg base k f (ow.fn x)
  mt : ∀ c m, (c, m) ∈ ow.mts → ∃ f, Meth K (g.ca c) m f ∧ FnM g P w K mg base k f (ow.mt c m)
  cls : ∀ c m, (c, m) ∈ ow.mts → Cls K (g.ca c)
  xm : ∀ x fs, ow.xmk x = some fs → mg x = some (.ref (g.ca x)) ∧ XRaise P w K mg (g.ca x) fs
/-- what a class must say for isinstance -/
structure InsC (K : PySem.W.Frag) (C : Addr) : Prop where
  cl : Cls K C
  ha : PySem.W.findIn K (.ref C) "__class__" = some (some (.builtin "object.__class__"))
  hn : PySem.W.specialIn K (.builtin "object.__class__") "__get__" = some (some (.builtin "getset_descriptor.__get__"))
  ht : PySem.W.takesIn K (.builtin "object.__class__") = some true
  hm : PySem.W.mroIn K C (.type "object") = some true
  ne : PySem.W.findIn K (.ref C) "__ne__" = some (some (.builtin "object.__ne__"))
/-- .. an error's class, for its fields too -/
structure XcC (K : PySem.W.Frag) (C : Addr) : Prop where
  hc : (PySem.W.clsIn K C).isSome = true
  ga : PySem.W.findIn K (.ref C) "__getattribute__" = some (some (.builtin "BaseException.__getattribute__"))
  gg : PySem.W.findIn K (.ref C) "__getattr__" = some none
  sb : PySem.W.subIn K (.ref C) (.type "BaseException") = some true
  hd : PySem.W.hasDictIn K C = true
  ha : PySem.W.findIn K (.ref C) "__class__" = some (some (.builtin "object.__class__"))
  hn : PySem.W.specialIn K (.builtin "object.__class__") "__get__" = some (some (.builtin "getset_descriptor.__get__"))
  ht : PySem.W.takesIn K (.builtin "object.__class__") = some true
  hm : PySem.W.mroIn K C (.type "object") = some true
/-- what is told of the classes -/
structure ClsT (g : Gx) (mg : Str → Option Value) (ow : Own) : Prop where
  fld : ∀ c f, (c, f) ∈ ow.flds → Cls g.K (g.ca c) ∧ NoAttr g.K (g.ca c) f
  xf : ∀ c f, (c, f) ∈ ow.xflds → PySem.W.findIn g.K (.ref (g.ca c)) f = some none
  nm : ∀ x, x ∈ ow.clss → mg x = some (.ref (g.ca x))
  ins : ∀ x, x ∈ ow.ins → InsC g.K (g.ca x)
  xc : ∀ x, x ∈ ow.xcs → XcC g.K (g.ca x)
  isa : ∀ a b r, ow.isa a b = some r → PySem.W.kitOne g.K (a.val g) (b.val g) = some r
  nf : ∀ x b, ow.nf x b = true → PySem.W.notFirst g.K (g.ca x) (b.val g) = true
  exm : ∀ x b r, ow.exm x b = some r → PySem.W.exmOne g.K (.ref (g.ca x)) (b.val g) = some r
/-- what a module's name is -/
inductive GK where
  | cst (d : D) | own | bf (id : String) | bt (T : String)
abbrev GTab := List (Str × GK)
structure Ev where
  e : Ctx → Expr → EnvM → Store → R W
  t : Ctx → Expr → EnvM → Store → R Bool
  a : Ctx → List Expr → EnvM → Store → R (List W)
def kindOf (c : Ctx) (x : Str) : Option NameKind := c.sc.names.lookup x
def isVis : NameKind → Bool
  | .local => true
  | .cell => true
  | .free => true
  | _ => false
/-- the place of a name of the def -/
def slotOf (c : Ctx) (x : Str) : Option Nat := match kindOf c x with
  | some k => if isVis k then c.N.findIdx? (fun y => decide (y = x)) else none
  | none => none
def isGlob (c : Ctx) (x : Str) : Bool := match kindOf c x with
  | some .globalImplicit => true
  | _ => false
def plainName (x : Str) : Bool := !(x == ("__debug__" : Str)) && !(x == ("__classdict__" : Str)) && !decide (x = ("__name__" : Str))
theorem findIdx_get {N : List Str} {x : Str} {i : Nat} (h : N.findIdx? (fun y => decide (y = x)) = some i) : N[i]? = some x := by
  obtain ⟨h1, h2, _⟩ := List.findIdx?_eq_some_iff_getElem.mp h
  rw [List.getElem?_eq_getElem h1]
  exact congrArg some (of_decide_eq_true h2)
def ownNames (G : GTab) : List (Str × Bool) := G.filterMap fun p => match p.2 with
  | .own => some (p.1, true)
  | _ => none
theorem own_mem : ∀ {G : GTab} {x : Str}, G.lookup x = some .own → (x, true) ∈ ownNames G
  | [], x, h => by cases h
  | (y, k) :: r, x, h => by
    unfold ownNames
    rw [List.lookup_cons] at h
    cases e : x == y with
    | true =>
      rw [e] at h
      have e2 : x = y := beq_iff_eq.mp e
      have e3 : k = .own := Option.some.inj h
      subst e2 e3
      exact List.mem_filterMap.mpr ⟨_, List.mem_cons_self, rfl⟩
    | false =>
      rw [e] at h
      obtain ⟨p, hp, q⟩ := List.mem_filterMap.mp (own_mem h)
      exact List.mem_filterMap.mpr ⟨p, List.mem_cons_of_mem _ hp, q⟩
structure COk (g : Gx) (G : GTab) (ow : Own) (X : Cx) (c : Ctx) (wx : WX) : Prop where
  rm : c.calm = true → Room c.k X.A
  sl : c.calm = true → X.A.units + 16 * c.k + 210 < cLine
  gd : X.A.guards = some []
  own : c.calm = true → OwnOk g X.prog X.w X.K X.mg X.base c.k (ownNames G) ow
  ct : ClsT g X.mg ow
  xn : c.calm = true → g.xa = none
  held : ∀ y, g.xa = some y → y.c ∈ ow.xcs ∧ ∃ oe, (y.a, oe) ∈ X.pn ∧ Zc (.ref (g.ca y.c)) y.d oe ∧ ∃ vs, oe.data = .fields vs
  po : c.top = true → c.calm = true → PassesOwn (model X.prog X.w) X.A X.env X.xe
  top : c.top = true → X.stack = X.env :: X.outer ∧ X.env.frame = some X.env.locals ∧ X.env.scope = c.sc
  K : X.K = g.K
  N : X.N = c.N
  nd : c.N.Nodup
  vis : ∀ x k, kindOf c x = some k → isVis k = true → Vis X.env.scope x
  loc : ∀ x k, kindOf c x = some k → k = .local ∨ k = .cell → Loc X.env.scope x ∧ (X.fn x = true ∨ X.env.scope.names.lookup x = some .local)
  glo : ∀ x, isGlob c x = true → Gl X x
  cf : ∀ x k, kindOf c x = some k → k = .cell ∨ k = .free → X.env.scope.names.lookup x = some .cell ∨ X.env.scope.names.lookup x = some .free
  calm : c.calm = true → X.calm = true
  un : X.A.units + 200 < cLine
  tk : Takes X wx
  cst : ∀ x d, G.lookup x = some (.cst d) → ∃ u v, X.mg x = some u ∧ RelV v u ∧ ∀ F H, Rep g F H v d
  bf : ∀ x id, G.lookup x = some (.bf id) → X.mg x = none ∧ bootBuiltins x = some (.builtin id)
  bt : ∀ x T, G.lookup x = some (.bt T) → X.mg x = none ∧ bootBuiltins x = some (.type T)
structure SEv (g : Gx) (G : GTab) (ow : Own) (r : Ev) : Prop where
  e : ∀ X c wx ex, COk g G ow X c wx → PE X ex (tE g wx (r.e c ex))
  t : ∀ X c wx ex, COk g G ow X c wx → PT X ex (tT g wx (r.t c ex))
  a : ∀ X c wx es, COk g G ow X c wx → PA X es (tA g wx (r.a c es))

/-! ### expressions -/
def nameE (G : GTab) (c : Ctx) (x : Str) (env : EnvM) (S : Store) : R W := if plainName x then match slotOf c x with
    | some i => match env[i]? with
      | some (some w) => .ok w S
      | _ => .bad
    | none => if isGlob c x then match G.lookup x with
        | some (.cst d) => .ok (.d d) S
        | _ => .bad
      else .bad
  else .bad
def constE (k : Const) (S : Store) : R W := match k with
  | .none => .ok (.d .non) S
  | .bool b => .ok (.d (.bl b)) S
  | .int i => .ok (.d (.int i)) S
  | .str x => .ok (.d (.str x)) S
  | _ => .bad
def asBool (r : R W) : R Bool := r.bind fun w S => match w with
  | .d (.bl b) => .ok b S
  | _ => .bad
def truR (r : R W) : R Bool := r.bind fun w S => match truW S w with
  | some b => .ok b S
  | none => .bad
section
variable {g : Gx} {G : GTab} {ow : Own} {X : Cx} {c : Ctx} {wx : WX}
theorem plainName_ok {x : Str} (h : plainName x = true) : (x == ("__debug__" : Str)) = false ∧ (x == ("__classdict__" : Str)) = false ∧ x ≠ "__name__" := by
  simp only [plainName, Bool.and_eq_true, Bool.not_eq_true', decide_eq_false_iff_not] at h
  exact ⟨h.1.1, h.1.2, h.2⟩
theorem slot_ok (o : COk g G ow X c wx) {x : Str} {i : Nat} (h : slotOf c x = some i) : X.N[i]? = some x ∧ Vis X.env.scope x := by
  unfold slotOf at h
  split at h
  · rename_i k hk
    split at h
    · rename_i hv
      rw [o.N]
      exact ⟨findIdx_get h, o.vis x k hk hv⟩
    · cases h
  · cases h
theorem name_ok (o : COk g G ow X c wx) (x : Str) (pos : Pos) : PE X (.Name x pos) (tE g wx (nameE G c x)) := by
  by_cases hp : plainName x = true
  · obtain ⟨h1, h2, h3⟩ := plainName_ok hp
    cases hs : slotOf c x with
    | some i =>
      obtain ⟨a, b⟩ := slot_ok o hs
      refine pe_mono (pe_var a b h1 h2) ?_
      rintro σ H Q ⟨ρ, F, S, env, L, E, P⟩
      unfold nameE at P
      rw [if_pos hp, hs] at P
      simp only at P
      split at P
      · rename_i w hw
        obtain ⟨v, e1, e2⟩ := E.2 i w hw
        exact ⟨v, e1, P.val L e2⟩
      · exact P.elim
    | none =>
      by_cases hg : isGlob c x = true
      · cases hk : G.lookup x with
        | none =>
          refine ⟨fun pins s σ H Q I ⟨ρ, F, S, env, L, E, P⟩ => ?_⟩
          unfold nameE at P
          rw [if_pos hp, hs, hk] at P
          simp only [if_pos hg] at P
          exact P.elim
        | some k =>
          cases k with
          | cst d =>
            obtain ⟨u, v, e1, e2, e3⟩ := o.cst x d hk
            refine pe_mono (pe_glob (o.glo x hg) e1 e2 h1) ?_
            rintro σ H Q ⟨ρ, F, S, env, L, E, P⟩
            unfold nameE at P
            rw [if_pos hp, hs, hk] at P
            simp only [if_pos hg] at P
            exact P.val L (e3 _ _)
          | _ =>
            refine ⟨fun pins s σ H Q I ⟨ρ, F, S, env, L, E, P⟩ => ?_⟩
            unfold nameE at P
            rw [if_pos hp, hs, hk] at P
            simp only [if_pos hg] at P
            exact P.elim
      · refine ⟨fun pins s σ H Q I ⟨ρ, F, S, env, L, E, P⟩ => ?_⟩
        unfold nameE at P
        rw [if_pos hp, hs] at P
        simp only [if_neg hg] at P
        exact P.elim
  · refine ⟨fun pins s σ H Q I ⟨ρ, F, S, env, L, E, P⟩ => ?_⟩
    unfold nameE at P
    rw [if_neg hp] at P
    exact P.elim
theorem never_e {e : Expr} : PE X e (tE g wx fun _ _ => .bad) := ⟨fun pins s σ H Q I ⟨ρ, F, S, env, L, E, P⟩ => P.elim⟩
theorem never_t {e : Expr} : PT X e (tT g wx fun _ _ => .bad) := ⟨fun pins s σ H Q I ⟨ρ, F, S, env, L, E, P⟩ => P.elim⟩
theorem const_ok (k : Const) (j : Nat) (pos : Pos) : PE X (.Constant k j pos) (tE g wx fun _ S => constE k S) := by
  cases k with
  | none => exact pe_mono pe_non fun σ H Q ⟨ρ, F, S, env, L, E, P⟩ => P.val L .non
  | bool b => exact pe_mono pe_bl fun σ H Q ⟨ρ, F, S, env, L, E, P⟩ => P.val L (.bl b)
  | int i => exact pe_mono pe_int fun σ H Q ⟨ρ, F, S, env, L, E, P⟩ => P.val L (.int i)
  | str x => exact pe_mono pe_str fun σ H Q ⟨ρ, F, S, env, L, E, P⟩ => P.val L (.str x)
  | _ => exact never_e
theorem two_ok {a b : Expr} {m1 m2 : EnvM → Store → R W} {f : W → W → Store → R W} :
    ∀ σ H Q, tE g wx (fun env S => (m1 env S).bind fun a S1 => (m2 env S1).bind fun b S2 => f a b S2) σ H Q → tOp (rW g f) (tE g wx m1) (tE g wx m2) σ H Q :=
  two fun x y ρ S F H σ Q wa wb L r1 r2 P => ⟨wx, σ, ρ, F, S, wa, wb, L, r1, r2, P⟩
theorem binop_ok (o : COk g G ow X c wx) {a b : Expr} {m1 m2 : EnvM → Store → R W} {op : Operator} {pos : Pos} (ha : PE X a (tE g wx m1)) (hb : PE X b (tE g wx m2)) :
    PE X (.BinOp a op b pos) (tE g wx fun env S => (m1 env S).bind fun x S1 => (m2 env S1).bind fun y S2 => binW op x y S2) := pe_mono (pe_op (bin_ok o.K op) ha hb) (two_ok (a := a) (b := b))
theorem cmp1_ok (o : COk g G ow X c wx) {a b : Expr} {m1 m2 : EnvM → Store → R W} {op : CmpOp} {pos : Pos} (hm : behindInMarks op b = false) (ha : PE X a (tE g wx m1)) (hb : PE X b (tE g wx m2)) :
    PE X (.Compare a [op] [b] pos) (tE g wx fun env S => (m1 env S).bind fun x S1 => (m2 env S1).bind fun y S2 => cmpW op x y S2) :=
  pe_mono (pe_cmpR (cmp_ok (by have := o.un; omega) o.K op) ha hb hm) (two_ok (a := a) (b := b))
/-- a value that is a bool, as a test -/
theorem tB_of {m : EnvM → Store → R W} : ∀ σ H Q, tT g wx (fun env S => asBool (m env S)) σ H Q → tTest (tE g wx m) σ H Q := by
  rintro σ H Q ⟨ρ, F, S, env, L, E, P⟩
  refine ⟨ρ, F, S, env, L, E, Post.seq P fun w S1 v ρ1 F1 H1 _ z L1 r1 P1 => ?_⟩
  cases w with
  | o i => exact P1.elim
  | x => exact P1.elim
  | d x =>
    cases r1 with
    | bl b => exact ⟨b, rfl, P1 b ρ1 F1 H1 Gr.refl L1 rfl⟩
    | _ => exact P1.elim
theorem tcmp1_ok (o : COk g G ow X c wx) {a b : Expr} {m1 m2 : EnvM → Store → R W} {op : CmpOp} {pos : Pos} (hm : behindInMarks op b = false) (ha : PE X a (tE g wx m1)) (hb : PE X b (tE g wx m2)) :
    PT X (.Compare a [op] [b] pos) (tT g wx fun env S => asBool ((m1 env S).bind fun x S1 => (m2 env S1).bind fun y S2 => cmpW op x y S2)) := by
  refine pt_mono (pt_cmpR (cmp_ok (by have := o.un; omega) o.K op) ha hb hm) fun σ H Q h => ?_
  obtain ⟨ρ, F, S, env, L, E, P⟩ := tB_of σ H Q h
  exact two_ok (a := a) (b := b) σ H _ ⟨ρ, F, S, env, L, E, P⟩
/-- a, then truth -/
theorem truth_ok (o : COk g G ow X c wx) {a : Expr} {m : EnvM → Store → R W} (ha : PE X a (tE g wx m)) (he : ∀ whole, isTrue a X.env whole = (do let v ← whole; standAt a.pos; holding [v] (truthy v))) : PT X a (tT g wx fun env S => truR (m env S)) := by
  refine pt_mono (pt_truth ha he) ?_
  rintro σ H Q ⟨ρ, F, S, env, L, E, P⟩
  refine ⟨ρ, F, S, env, L, E, Post.seq P fun w S1 v ρ1 F1 H1 _ z L1 r1 P1 => ?_⟩
  split at P1
  · rename_i b hb
    exact ⟨b, o.K ▸ tru_V L1 r1 hb, P1 b ρ1 F1 H1 Gr.refl L1 rfl⟩
  · exact P1.elim
theorem notE_ok (o : COk g G ow X c wx) {a : Expr} {m : EnvM → Store → R W} {pos : Pos} (ha : PE X a (tE g wx m)) : PE X (.UnaryOp .Not a pos) (tE g wx fun env S => (truR (m env S)).bind fun b S1 => .ok (.d (.bl !b)) S1) := by
  refine pe_mono (pe_notT ha) ?_
  rintro σ H Q ⟨ρ, F, S, env, L, E, P⟩
  have e : ∀ r : R W, (truR r).bind (fun b S1 => R.ok (W.d (.bl !b)) S1) = r.bind fun w S1 => match truW S1 w with
    | some b => .ok (.d (.bl !b)) S1
    | none => .bad := fun r => by
    cases r with
    | ok w S1 =>
      show R.bind (match truW S1 w with | some b => R.ok b S1 | none => R.bad) _ = _
      show _ = match truW S1 w with | some b => R.ok (W.d (.bl !b)) S1 | none => R.bad
      cases truW S1 w <;> rfl
    | exc _ _ _ => rfl
    | bad => rfl
  dsimp only at P
  rw [e] at P
  refine ⟨ρ, F, S, env, L, E, Post.seq P fun w S1 v ρ1 F1 H1 _ z L1 r1 P1 => ?_⟩
  split at P1
  · rename_i b hb
    exact ⟨b, o.K ▸ tru_V L1 r1 hb, P1.val L1 (.bl _)⟩
  · exact P1.elim
theorem notT_ok {a : Expr} {m : EnvM → Store → R Bool} {pos : Pos} (ha : PT X a (tT g wx m)) : PT X (.UnaryOp .Not a pos) (tT g wx fun env S => (m env S).bind fun b S1 => .ok (!b) S1) := by
  refine pt_mono (pt_not ha) ?_
  rintro σ H Q ⟨ρ, F, S, env, L, E, P⟩
  refine ⟨ρ, F, S, env, L, E, Post.seq P fun w S1 v ρ1 F1 H1 _ z L1 r1 P1 => ?_⟩
  cases r1
  exact P1 _ ρ1 F1 H1 Gr.refl L1 rfl
theorem usub_ok {a : Expr} {m : EnvM → Store → R W} {pos : Pos} (ha : PE X a (tE g wx m)) : PE X (.UnaryOp .USub a pos) (tE g wx fun env S => (m env S).bind fun w S1 => match w with
    | .d (.int i) => .ok (.d (.int (-i))) S1
    | _ => .bad) := by
  refine pe_mono (pe_un un_neg ha) ?_
  rintro σ H Q ⟨ρ, F, S, env, L, E, P⟩
  refine ⟨ρ, F, S, env, L, E, Post.seq P fun w S1 v ρ1 F1 H1 _ z L1 r1 P1 => ?_⟩
  split at P1
  · cases r1
    exact ⟨_, rfl, P1.val L1 (.int _)⟩
  · exact P1.elim
theorem ifE_ok {t a b : Expr} {mt : EnvM → Store → R Bool} {ma mb : EnvM → Store → R W} {pos : Pos} (ht : PT X t (tT g wx mt)) (ha : PE X a (tE g wx ma)) (hb : PE X b (tE g wx mb)) :
    PE X (.IfExp t a b pos) (tE g wx fun env S => (mt env S).bind fun k S1 => if k then ma env S1 else mb env S1) := by
  refine pe_mono (pe_ifExp ht ha hb) ?_
  rintro σ H Q ⟨ρ, F, S, env, L, E, P⟩
  refine ⟨ρ, F, S, env, L, E, Post.seq P fun k S1 v ρ1 F1 H1 _ z L1 r1 P1 => ?_⟩
  cases r1
  cases k with
  | true => exact ⟨ρ1, F1, S1, env, L1, E.mono z, P1⟩
  | false => exact ⟨ρ1, F1, S1, env, L1, E.mono z, P1⟩
/-! and, or -/
theorem and_ok (o : COk g G ow X c wx) {a b : Expr} {rest : List Expr} {m1 m2 : EnvM → Store → R W} {pos : Pos} (ha : PE X a (tE g wx m1)) (hb : PE X (.BoolOp .And (b :: rest) pos) (tE g wx m2)) :
    PE X (.BoolOp .And (a :: b :: rest) pos) (tE g wx fun env S => (m1 env S).bind fun w S1 => match truW S1 w with
      | some true => m2 env S1
      | some false => .ok w S1
      | none => .bad) := by
  refine pe_mono (pe_andT ha hb) ?_
  rintro σ H Q ⟨ρ, F, S, env, L, E, P⟩
  refine ⟨ρ, F, S, env, L, E, Post.seq P fun w S1 v ρ1 F1 H1 _ z L1 r1 P1 => ?_⟩
  split at P1
  · rename_i hb
    exact ⟨true, o.K ▸ tru_V L1 r1 hb, iteT ⟨ρ1, F1, S1, env, L1, E.mono z, P1⟩⟩
  · rename_i hb
    exact ⟨false, o.K ▸ tru_V L1 r1 hb, iteF (P1.val L1 r1)⟩
  · exact P1.elim
theorem or_ok (o : COk g G ow X c wx) {a b : Expr} {rest : List Expr} {m1 m2 : EnvM → Store → R W} {pos : Pos} (ha : PE X a (tE g wx m1)) (hb : PE X (.BoolOp .Or (b :: rest) pos) (tE g wx m2)) :
    PE X (.BoolOp .Or (a :: b :: rest) pos) (tE g wx fun env S => (m1 env S).bind fun w S1 => match truW S1 w with
      | some true => .ok w S1
      | some false => m2 env S1
      | none => .bad) := by
  refine pe_mono (pe_orT ha hb) ?_
  rintro σ H Q ⟨ρ, F, S, env, L, E, P⟩
  refine ⟨ρ, F, S, env, L, E, Post.seq P fun w S1 v ρ1 F1 H1 _ z L1 r1 P1 => ?_⟩
  split at P1
  · rename_i hb
    exact ⟨true, o.K ▸ tru_V L1 r1 hb, iteT (P1.val L1 r1)⟩
  · rename_i hb
    exact ⟨false, o.K ▸ tru_V L1 r1 hb, iteF ⟨ρ1, F1, S1, env, L1, E.mono z, P1⟩⟩
  · exact P1.elim
theorem tand_ok {a b : Expr} {rest : List Expr} {m1 m2 : EnvM → Store → R Bool} {pos : Pos} (ha : PT X a (tT g wx m1)) (hb : PW X (.BoolOp .And (b :: rest) pos) (tT g wx m2)) :
    PW X (.BoolOp .And (a :: b :: rest) pos) (tT g wx fun env S => (m1 env S).bind fun k S1 => if k then m2 env S1 else .ok false S1) := by
  have h := pw_and ha hb
  refine ⟨fun wh pins s σ H Q I ⟨ρ, F, S, env, L, E, P⟩ => h.run wh pins s σ H Q I ⟨ρ, F, S, env, L, E, Post.seq P fun k S1 v ρ1 F1 H1 _ z L1 r1 P1 => ?_⟩⟩
  cases r1
  cases k with
  | true => exact iteT ⟨ρ1, F1, S1, env, L1, E.mono z, P1⟩
  | false => exact iteF (P1 _ ρ1 F1 H1 Gr.refl L1 rfl)
theorem tor_ok {a b : Expr} {rest : List Expr} {m1 m2 : EnvM → Store → R Bool} {pos : Pos} (ha : PT X a (tT g wx m1)) (hb : PW X (.BoolOp .Or (b :: rest) pos) (tT g wx m2)) :
    PW X (.BoolOp .Or (a :: b :: rest) pos) (tT g wx fun env S => (m1 env S).bind fun k S1 => if k then .ok true S1 else m2 env S1) := by
  have h := pw_or ha hb
  refine ⟨fun wh pins s σ H Q I ⟨ρ, F, S, env, L, E, P⟩ => h.run wh pins s σ H Q I ⟨ρ, F, S, env, L, E, Post.seq P fun k S1 v ρ1 F1 H1 _ z L1 r1 P1 => ?_⟩⟩
  cases r1
  cases k with
  | true => exact iteT (P1 _ ρ1 F1 H1 Gr.refl L1 rfl)
  | false => exact iteF ⟨ρ1, F1, S1, env, L1, E.mono z, P1⟩
/-! arguments, displays -/
theorem anil_ok : PA X [] (tA g wx fun _ S => .ok [] S) := pa_mono pa_nil fun σ H Q ⟨ρ, F, S, env, L, E, P⟩ => P [] ρ F H Gr.refl L .nil
theorem acons_ok {e : Expr} {es : List Expr} {m1 : EnvM → Store → R W} {m2 : EnvM → Store → R (List W)} (hs : starEach (e :: es) X.env = (false, eval e X.env) :: starEach es X.env) (ha : PE X e (tE g wx m1)) (hb : PA X es (tA g wx m2)) :
    PA X (e :: es) (tA g wx fun env S => (m1 env S).bind fun w S1 => (m2 env S1).bind fun ws S2 => .ok (w :: ws) S2) := by
  refine pa_mono (pa_cons ha hb hs) ?_
  rintro σ H Q ⟨ρ, F, S, env, L, E, P⟩
  refine ⟨ρ, F, S, env, L, E, Post.seq P fun w S1 v ρ1 F1 H1 _ z1 L1 r1 P1 => ?_⟩
  refine ⟨ρ1, F1, S1, env, L1, E.mono z1, Post.seq P1 fun ws S2 vs ρ2 F2 H2 _ z2 L2 r2 P2 => ?_⟩
  exact P2 _ ρ2 F2 H2 Gr.refl L2 (.cons (r1.mono z2) r2)
def tupOf (ws : List W) (S : Store) : R W := match pureL ws with
  | some ds => if ds.length ≤ 100000 then .ok (.d (.tup ds)) S else .bad
  | none => match frzL (frzW 6) ws S with
    | some (ds, S1) => if ds.length ≤ 100000 then .ok (.d (.tup ds)) S1 else .bad
    | none => .bad
def lstOf (ws : List W) (S : Store) : R W := match pureL ws with
  | some ds => if ds.length ≤ 100000 then .ok (.d (.lst ds)) S else .bad
  | none => match frzL (frzW 6) ws S with
    | some (ds, S1) => if ds.length ≤ 100000 then .ok (.d (.lst ds)) S1 else .bad
    | none => .bad
def boxOf (ws : List W) (S : Store) : R W := if ws.length ≤ 100000 then .ok (.o S.length) (S ++ [.lst ws]) else .bad
theorem tup_ok {es : List Expr} {m : EnvM → Store → R (List W)} {k : Nat} {pos : Pos} (h : PA X es (tA g wx m)) : PE X (.Tuple es k pos) (tE g wx fun env S => (m env S).bind tupOf) := by
  refine pe_mono (pe_tup h) ?_
  rintro σ H Q ⟨ρ, F, S, env, L, E, P⟩
  refine ⟨ρ, F, S, env, L, E, Post.seq P fun ws S1 vs ρ1 F1 H1 _ z1 L1 r1 P1 => ?_⟩
  unfold tupOf at P1
  split at P1
  · rename_i ds e
    split at P1
    · rename_i hz
      have r1 : RepWs g ρ1 S1.length F1 H1 vs ws := r1
      rw [pureL_eq e] at r1
      have q := ws_reps r1
      exact ⟨by rw [reps_len q]; exact Nat.le_trans hz (by decide), P1.tup L1 q⟩
    · exact P1.elim
  · split at P1
    · rename_i ds S2 e
      split at P1
      · rename_i hz
        obtain ⟨F2, z2, L2, l2, q⟩ := frzL_ok (frzW_ok 6) ws S1 ds S2 F1 vs e L1 r1
        exact ⟨by rw [reps_len q]; exact Nat.le_trans hz (by decide), (Post.step (⟨z2, fun _ _ => rfl, by omega⟩ : Gr ρ1 S1.length F1 H1 ρ1 S2.length F2 H1) P1).tup L2 q⟩
      · exact P1.elim
    · exact P1.elim
theorem lst_ok {es : List Expr} {m : EnvM → Store → R (List W)} {pos : Pos} (h : PA X es (tA g wx m)) : PE X (.List es pos) (tE g wx fun env S => (m env S).bind lstOf) := by
  refine pe_mono (pe_lst h) ?_
  rintro σ H Q ⟨ρ, F, S, env, L, E, P⟩
  refine ⟨ρ, F, S, env, L, E, Post.seq P fun ws S1 vs ρ1 F1 H1 _ z1 L1 r1 P1 => ?_⟩
  unfold lstOf at P1
  split at P1
  · rename_i ds e
    split at P1
    · rename_i hz
      have r1 : RepWs g ρ1 S1.length F1 H1 vs ws := r1
      rw [pureL_eq e] at r1
      have q := ws_reps r1
      exact ⟨by rw [reps_len q]; exact Nat.le_trans hz (by decide), P1.lst L1 q⟩
    · exact P1.elim
  · split at P1
    · rename_i ds S2 e
      split at P1
      · rename_i hz
        obtain ⟨F2, z2, L2, l2, q⟩ := frzL_ok (frzW_ok 6) ws S1 ds S2 F1 vs e L1 r1
        exact ⟨by rw [reps_len q]; exact Nat.le_trans hz (by decide), (Post.step (⟨z2, fun _ _ => rfl, by omega⟩ : Gr ρ1 S1.length F1 H1 ρ1 S2.length F2 H1) P1).lst L2 q⟩
      · exact P1.elim
    · exact P1.elim
theorem box_ok {es : List Expr} {m : EnvM → Store → R (List W)} {pos : Pos} (h : PA X es (tA g wx m)) : PE X (.List es pos) (tE g wx fun env S => (m env S).bind boxOf) := by
  refine pe_mono (pe_lst h) ?_
  rintro σ H Q ⟨ρ, F, S, env, L, E, P⟩
  refine ⟨ρ, F, S, env, L, E, Post.seq P fun ws S1 vs ρ1 F1 H1 _ z1 L1 r1 P1 => ?_⟩
  unfold boxOf at P1
  split at P1
  · rename_i hz
    exact ⟨by rw [paired_len r1]; exact Nat.le_trans hz (by decide), P1.cell L1 r1⟩
  · exact P1.elim
/-! items and slices -/
theorem plainIx_of {b : Expr} (h : (match b with | .Slice _ _ _ _ => false | _ => true) = true) : PlainIx b := by
  intro o i
  cases b <;> first | rfl | cases h
theorem ixE_ok (o : COk g G ow X c wx) {a b : Expr} {m1 m2 : EnvM → Store → R W} {pos : Pos} (hp : PlainIx b) (ha : PE X a (tE g wx m1)) (hb : PE X b (tE g wx m2)) :
    PE X (.Subscript a b pos) (tE g wx fun env S => (m1 env S).bind fun x S1 => (m2 env S1).bind fun y S2 => ixW x y S2) := pe_mono (pe_ix (ix_ok o.K) ha hb hp) (two_ok (a := a) (b := b))
def partOf (r : R W) : R (Option Int) := r.bind fun w S => match w with
  | .d (.int i) => .ok (some i) S
  | _ => .bad
def rpO : (Nat → Addr) → Nat → (Addr → Prop) → Hp → Option Int → Option Int → Prop := fun _ _ _ _ a b => a = b
def tP (g : Gx) (wx : WX) (m : EnvM → Store → R (Option Int)) : TO := fun σ H Q => ∃ ρ F S env, Rl g ρ F H S ∧ RepEnv g ρ S.length F H σ env ∧ Post g wx σ rpO ρ S.length F H Q (m env S)
theorem po_mono {e : Option Expr} {t t' : TO} (h : PO X e t) (i : ∀ σ H Q, t' σ H Q → t σ H Q) : PO X e t' := ⟨fun pins s σ H Q I q => h.run pins s σ H Q I (i σ H Q q)⟩
theorem part0_ok : PO X none (tP g wx fun _ S => .ok none S) := po_mono po_none fun σ H Q ⟨ρ, F, S, env, L, E, P⟩ => P none ρ F H Gr.refl L rfl
theorem part1_ok {e : Expr} {m : EnvM → Store → R W} (h : PE X e (tE g wx m)) : PO X (some e) (tP g wx fun env S => partOf (m env S)) := by
  refine po_mono (po_some h) ?_
  rintro σ H Q ⟨ρ, F, S, env, L, E, P⟩
  refine ⟨ρ, F, S, env, L, E, Post.seq P fun w S1 v ρ1 F1 H1 _ z L1 r1 P1 => ?_⟩
  split at P1
  · cases r1
    exact ⟨_, rfl, P1 _ ρ1 F1 H1 Gr.refl L1 rfl⟩
  · exact P1.elim
theorem sliceE_ok (o : COk g G ow X c wx) {a : Expr} {lo hi : Option Expr} {m1 : EnvM → Store → R W} {m2 m3 : EnvM → Store → R (Option Int)} {p2 pos : Pos} (ha : PE X a (tE g wx m1)) (hl : PO X lo (tP g wx m2)) (hh : PO X hi (tP g wx m3)) :
    PE X (.Subscript a (.Slice lo hi none p2) pos) (tE g wx fun env S => (m1 env S).bind fun x S1 => (m2 env S1).bind fun l S2 => (m3 env S2).bind fun h S3 => slW x l h S3) := by
  refine pe_mono (pe_slice (sl_ok o.K) ha hl hh) ?_
  rintro σ H Q ⟨ρ, F, S, env, L, E, P⟩
  refine ⟨ρ, F, S, env, L, E, Post.seq P fun w S1 v ρ1 F1 H1 _ z1 L1 r1 P1 => ?_⟩
  refine ⟨ρ1, F1, S1, env, L1, E.mono z1, Post.seq P1 fun l S2 l' ρ2 F2 H2 _ z2 L2 r2 P2 => ?_⟩
  cases r2
  refine ⟨ρ2, F2, S2, env, L2, (E.mono z1).mono z2, Post.seq P2 fun h S3 h' ρ3 F3 H3 _ z3 L3 r3 P3 => ?_⟩
  cases r3
  exact ⟨wx, σ, ρ3, F3, S3, w, L3, (r1.mono z2).mono z3, P3⟩
/-! fields -/
def fldD (f : Str) : W → Store → R W
  | .d (.ins _ fs), S => match fs.lookup f with
    | some x => .ok (.d x) S
    | none => .bad
  | .o n, S => match S[n]? with
    | some (.ins _ fs) => match fs.lookup f with
      | some w => .ok w S
      | none => .bad
    | _ => .bad
  | _, _ => .bad
/-- what an attribute's name asks of the class -/
def FldOk (g : Gx) (c : Str) (f : Str) : Prop := Cls g.K (g.ca c) ∧ NoAttr g.K (g.ca c) f
end
end Mi

namespace Mi
open PySem L2

/-! ### what is walked -/
structure ItOk (g : Gx) (J : It) (ws : List W) (ρ0 : Nat → Addr) (n0 : Nat) (F0 : Addr → Prop) (H0 : Hp) : Prop where
  go : ∀ i ρ F H S, Gr ρ0 n0 F0 H0 ρ S.length F H → Rl g ρ F H S → i < ws.length → J.go i H
  stop : ∀ ρ F H S, Gr ρ0 n0 F0 H0 ρ S.length F H → Rl g ρ F H S → J.stop ws.length H
  yld : ∀ i ρ F H S w x H', Gr ρ0 n0 F0 H0 ρ S.length F H → Rl g ρ F H S → ws[i]? = some w → J.yld i H x H' → ∃ F', Gr ρ S.length F H ρ S.length F' H' ∧ Rl g ρ F' H' S ∧ RepW g ρ S.length F' H' x w
def rpI (g : Gx) : (Nat → Addr) → Nat → (Addr → Prop) → Hp → It → List W → Prop := fun ρ n F H J ws => ItOk g J ws ρ n F H
def tI (g : Gx) (wx : WX) (m : EnvM → Store → R (List W)) : TI := fun σ H Q => ∃ ρ F S env, Rl g ρ F H S ∧ RepEnv g ρ S.length F H σ env ∧ Post g wx σ (rpI g) ρ S.length F H Q (m env S)
theorem pi_mono {X : Cx} {tg e : Expr} {t t' : TI} (h : PI X tg e t) (i : ∀ σ H Q, t' σ H Q → t σ H Q) : PI X tg e t' := ⟨fun pins s σ H Q I q => h.run pins s σ H Q I (i σ H Q q)⟩
section
variable {g : Gx} {ρ0 : Nat → Addr} {n0 : Nat} {F0 : Addr → Prop} {H0 : Hp}
theorem it_list {K : PySem.W.Frag} {a : Addr} {vs : List V} {ds : List D} (f : F0 a) (h : H0 a = some (.lst vs)) (r : Reps g F0 H0 vs ds) : ItOk g (Itl K a) (ds.map W.d) ρ0 n0 F0 H0 := by
  have st : ∀ {F : Addr → Prop} {H : Hp}, Fz F0 H0 F H → SqL K H a vs := fun z => SqL.of ((z a f).2.trans h)
  have hl := reps_len r
  refine ⟨fun i ρ F H S z L hi => ?_, fun ρ F H S z L => ⟨vs, st z.fz, by simp [hl]⟩, fun i ρ F H S w x H' z L hw y => ?_⟩
  · simp at hi
    exact ⟨vs, vs[i]'(by omega), st z.fz, by simp⟩
  · obtain ⟨e, y⟩ := y
    subst e
    have hx := y vs (st z.fz)
    refine ⟨F, Gr.refl, L, ?_⟩
    obtain ⟨x', h1, h2⟩ := paired_get (reps_ws (ρ := ρ0) (n := n0) r) hw
    rw [hx] at h1
    cases h1
    exact h2.mono z
theorem it_tup {K : PySem.W.Frag} {a : Addr} {vs : List V} {ds : List D} (st : ∀ {F : Addr → Prop} {H : Hp}, Fz F0 H0 F H → SqT K H a vs) (r : Reps g F0 H0 vs ds) : ItOk g (Itt K a) (ds.map W.d) ρ0 n0 F0 H0 := by
  have hl := reps_len r
  refine ⟨fun i ρ F H S z L hi => ?_, fun ρ F H S z L => ⟨vs, st z.fz, by simp [hl]⟩, fun i ρ F H S w x H' z L hw y => ?_⟩
  · simp at hi
    exact ⟨vs, vs[i]'(by omega), st z.fz, by simp⟩
  · obtain ⟨e, y⟩ := y
    subst e
    have hx := y vs (st z.fz)
    refine ⟨F, Gr.refl, L, ?_⟩
    obtain ⟨x', h1, h2⟩ := paired_get (reps_ws (ρ := ρ0) (n := n0) r) hw
    rw [hx] at h1
    cases h1
    exact h2.mono z
def intsW (lo : Int) (n : Nat) : List W := (List.range n).map fun (i : Nat) => W.d (.int (lo + (i : Int)))
theorem it_rng {lo : Int} {n : Nat} : ItOk g (Itr lo n) (intsW lo n) ρ0 n0 F0 H0 := by
  refine ⟨fun i ρ F H S z L hi => by simpa [intsW, Itr] using hi, fun ρ F H S z L => by simp [intsW, Itr], fun i ρ F H S w x H' z L hw y => ?_⟩
  obtain ⟨e, y⟩ := y
  subst e y
  refine ⟨F, Gr.refl, L, ?_⟩
  unfold intsW at hw
  rw [List.getElem?_map] at hw
  cases q : (List.range n)[i]? with
  | none => rw [q] at hw; cases hw
  | some k =>
    rw [q] at hw
    cases hw
    have : k = i := by
      obtain ⟨h1, h2⟩ := List.getElem?_eq_some_iff.mp q
      simpa using h2.symm
    subst this
    exact .int _
def signsW (x : Str) : List W := x.cps.toList.map fun c => W.d (.str ⟨#[c]⟩)
theorem it_str {x : Str} : ItOk g (Its x) (signsW x) ρ0 n0 F0 H0 := by
  refine ⟨fun i ρ F H S z L hi => by simpa [signsW, Its] using hi, fun ρ F H S z L => by simp [signsW, Its], fun i ρ F H S w v H' z L hw y => ?_⟩
  obtain ⟨e, c, hc, rfl⟩ := y
  subst e
  refine ⟨F, Gr.refl, L, ?_⟩
  unfold signsW at hw
  rw [List.getElem?_map] at hw
  have hc' : x.cps.toList[i]? = some c := by simpa using hc
  rw [hc'] at hw
  cases hw
  exact .str _
end
/-- the items that a value is walked by -/
def itemsW : W → Option (List W)
  | .d (.lst ds) => some (ds.map W.d)
  | .d (.tup ds) => some (ds.map W.d)
  | .d (.str x) => some (signsW x)
  | _ => none
def iterV (r : R W) : R (List W) := r.bind fun w S => match itemsW w with
  | some ws => .ok ws S
  | none => .bad
section
variable {g : Gx} {G : GTab} {ow : Own} {X : Cx} {c : Ctx} {wx : WX}
/-- a value, walked: what it is, is known ahead -/
theorem iterV_ok (o : COk g G ow X c wx) {tg e : Expr} {m : EnvM → Store → R W} (h : PE X e (tE g wx m)) : PI X tg e (tI g wx fun env S => iterV (m env S)) := by
  refine ⟨fun pins s σ H R I ⟨ρ, F, S, env, L, E, P⟩ => ?_⟩
  dsimp only at P
  cases hm : m env S with
  | bad => rw [hm] at P; exact P.elim
  | exc cc fs S1 =>
    refine (pi_list (tg := tg) h).run pins s σ H R I ⟨ρ, F, S, env, L, E, ?_⟩
    rw [hm] at P ⊢
    exact P
  | ok w S1 =>
    have hP := P
    rw [hm] at hP
    change Post g wx σ (rpI g) ρ S.length F H R (match itemsW w with | some ws => .ok ws S1 | none => .bad) at hP
    unfold itemsW at hP
    split at hP
    · rename_i ws hw
      split at hw
      · rename_i ds
        cases hw
        refine (pi_list (tg := tg) h).run pins s σ H R I ⟨ρ, F, S, env, L, E, ?_⟩
        rw [hm]
        intro v ρ1 F1 H1 z L1 r1
        cases r1 with
        | lst f e q => exact ⟨_, rfl, ⟨_, SqL.of e⟩, hP _ ρ1 F1 H1 z L1 (it_list f e q)⟩
      · rename_i ds
        cases hw
        refine (pi_tup (tg := tg) h).run pins s σ H R I ⟨ρ, F, S, env, L, E, ?_⟩
        rw [hm]
        intro v ρ1 F1 H1 z L1 r1
        cases r1 with
        | tup f e q => exact ⟨_, rfl, ⟨_, SqT.of e⟩, hP _ ρ1 F1 H1 z L1 (it_tup (fun zz => SqT.of ((zz _ f).2.trans e)) q)⟩
        | tupK e q => exact ⟨_, rfl, ⟨_, o.K ▸ e _⟩, hP _ ρ1 F1 H1 z L1 (it_tup (fun _ => o.K ▸ e _) q)⟩
      · rename_i x
        cases hw
        refine (pi_str (tg := tg) h).run pins s σ H R I ⟨ρ, F, S, env, L, E, ?_⟩
        rw [hm]
        intro v ρ1 F1 H1 z L1 r1
        cases r1
        exact ⟨x, rfl, hP _ ρ1 F1 H1 z L1 it_str⟩
      · cases hw
    · exact hP.elim
/-- range(n) -/
def rangeR (r : R (List W)) : R (List W) := r.bind fun ws S => match ws with
  | [.d (.int j)] => if j ≤ 100000 ∧ -100000 ≤ j then .ok (intsW 0 j.toNat) S else .bad
  | [.d (.int i), .d (.int j)] => if (j ≤ 100000 ∧ -100000 ≤ j) ∧ i ≤ 100000 ∧ -100000 ≤ i then .ok (intsW i (j - i).toNat) S else .bad
  | _ => .bad
theorem range1_ok (hg : Gl X "range") (hm : X.mg "range" = none) {tg a : Expr} {m : EnvM → Store → R (List W)} {p pos : Pos} (h : PA X [a] (tA g wx m)) (hs : starEach [a] X.env = [(false, eval a X.env)]) : PI X tg (.Call (.Name "range" p) [a] [] pos) (tI g wx fun env S => (m env S).bind fun ws S1 => match ws with
    | [.d (.int j)] => if j ≤ 100000 ∧ -100000 ≤ j then .ok (intsW 0 j.toNat) S1 else .bad
    | _ => .bad) := by
  refine pi_mono (pi_range1 hg hm h hs) ?_
  rintro σ H Q ⟨ρ, F, S, env, L, E, P⟩
  refine ⟨ρ, F, S, env, L, E, Post.seq P fun ws S1 vs ρ1 F1 H1 _ z L1 r1 P1 => ?_⟩
  split at P1
  · split at P1
    · rename_i hj
      obtain ⟨x, rfl, rx⟩ := one_ws r1
      cases rx
      exact ⟨_, rfl, by omega, by omega, P1 _ ρ1 F1 H1 Gr.refl L1 it_rng⟩
    · exact P1.elim
  · exact P1.elim

/-! ### targets -/
/-- a name of the def that may be stored -/
def locOf (c : Ctx) (x : Str) : Option Nat := match kindOf c x with
  | some .local => c.N.findIdx? (fun y => decide (y = x))
  | some .cell => c.N.findIdx? (fun y => decide (y = x))
  | _ => none
def asgNames (c : Ctx) : List Expr → List W → EnvM → Option EnvM
  | [], [], env => some env
  | .Name x _ :: es, w :: ws, env => match locOf c x with
    | some i => asgNames c es ws (env.set i (some w))
    | none => none
  | _, _, _ => none
def asgW (c : Ctx) (S : Store) : Expr → W → EnvM → Option EnvM
  | .Name x _, w, env => match locOf c x with
    | some i => some (env.set i (some w))
    | none => none
  | .Tuple es _ _, .d (.tup ds), env => if c.calm then asgNames c es (ds.map W.d) env else none
  | .Tuple es _ _, .d (.lst ds), env => if c.calm then asgNames c es (ds.map W.d) env else none
  | _, _, _ => none
/-- the places that a target stores to -/
def nmSlots (c : Ctx) : List Expr → List Nat
  | [] => []
  | .Name x _ :: es => (locOf c x).toList ++ nmSlots c es
  | _ :: es => nmSlots c es
def tgSlots (c : Ctx) : Expr → List Nat
  | .Name x _ => (locOf c x).toList
  | .Tuple es _ _ => nmSlots c es
  | _ => []
/-- the same but at some places -/
def Outside (sl : List Nat) (σ σ' : L2.St) : Prop := ∀ j, j ∉ sl → σ'[j]? = σ[j]?
def tGt (g : Gx) (sl : List Nat) (m : Store → W → EnvM → Option EnvM) : TG := fun v σ H Q => ∃ ρ F S env w env', Rl g ρ F H S ∧ RepEnv g ρ S.length F H σ env ∧ RepW g ρ S.length F H v w ∧ m S w env = some env' ∧ ∀ σ', RepEnv g ρ S.length F H σ' env' → Outside sl σ σ' → Q σ' H
theorem out_set {sl : List Nat} {i : Nat} {v : Option V} {σ : L2.St} (h : i ∈ sl) : Outside sl σ (σ.set i v) := fun j hj => by
  rw [List.getElem?_set_ne]
  rintro rfl
  exact hj h
theorem loc_ok (o : COk g G ow X c wx) {x : Str} {i : Nat} (h : locOf c x = some i) : X.N[i]? = some x ∧ Loc X.env.scope x ∧ (X.fn x = true ∨ X.env.scope.names.lookup x = some .local) := by
  unfold locOf at h
  split at h
  · rename_i hk
    rw [o.N]
    exact ⟨findIdx_get h, o.loc x _ hk (.inl rfl)⟩
  · rename_i hk
    rw [o.N]
    exact ⟨findIdx_get h, o.loc x _ hk (.inr rfl)⟩
  · cases h
theorem set_env {ρ : Nat → Addr} {n : Nat} {F : Addr → Prop} {H : Hp} {σ : L2.St} {env : EnvM} {i : Nat} {v : V} {w : W} (E : RepEnv g ρ n F H σ env) (r : RepW g ρ n F H v w) : RepEnv g ρ n F H (σ.set i (some v)) (env.set i (some w)) := by
  refine ⟨by simp [E.1], fun j w' e => ?_⟩
  by_cases h : j = i
  · subst h
    by_cases hj : j < env.length
    · rw [List.getElem?_set_self hj] at e
      cases e
      exact ⟨v, by rw [List.getElem?_set_self (by rw [E.1]; exact hj)], r⟩
    · rw [List.getElem?_eq_none (by simpa using hj)] at e
      cases e
  · rw [List.getElem?_set_ne (Ne.symm h)] at e
    obtain ⟨v', a, b⟩ := E.2 j w' e
    exact ⟨v', by rw [List.getElem?_set_ne (Ne.symm h)]; exact a, b⟩
theorem gname_ok (o : COk g G ow X c wx) (x : Str) (pos : Pos) : PG X (.Name x pos) (tGt g (tgSlots c (.Name x pos)) fun S => asgW c S (.Name x pos)) := by
  refine ⟨fun pins s σ H v u Q I r ⟨ρ, F, S, env, w, env', L, E, rw_, hm, hQ⟩ => ?_⟩
  have hm : (match locOf c x with
    | some i => some (env.set i (some w))
    | none => none) = some env' := hm
  cases hl : locOf c x with
  | none => rw [hl] at hm; cases hm
  | some i =>
    rw [hl] at hm
    cases hm
    obtain ⟨a, b, d⟩ := loc_ok o hl
    exact (pg_name (i := i) (o.N ▸ o.nd) a b d).run pins s σ H v u Q I r (hQ _ (set_env E rw_) (out_set (by show i ∈ (locOf c x).toList; rw [hl]; simp)))
theorem asgEach_name (x : Str) (p : Pos) (es : List Expr) (env : Env) : (assignEach (.Name x p :: es) env).map (·.2) = assign (.Name x p) env :: (assignEach es env).map (·.2) := rfl
theorem gnames_ok (o : COk g G ow X c wx) : ∀ (es : List Expr) (ws : List W) (ρ : Nat → Addr) (n : Nat) (F : Addr → Prop) (env env' : EnvM), asgNames c es ws env = some env' →
    PGs X es (fun vs σ H Q => RepEnv g ρ n F H σ env ∧ RepWs g ρ n F H vs ws ∧ ∀ σ', RepEnv g ρ n F H σ' env' → Outside (nmSlots c es) σ σ' → Q σ' H)
  | [], ws, ρ, n, F, env, env', h => by
    cases ws with
    | nil =>
      cases h
      refine ⟨fun pins s σ H vs us Q I r ⟨E, rs, hQ⟩ => ?_⟩
      cases rs
      exact pgs_nil.run pins s σ H [] us Q I r ⟨rfl, hQ _ E fun _ _ => rfl⟩
    | cons w ws => cases h
  | e :: es, ws, ρ, n, F, env, env', h => by
    cases e with
    | Name x p =>
      cases ws with
      | nil => cases h
      | cons w ws =>
        unfold asgNames at h
        cases hl : locOf c x with
        | none => rw [hl] at h; cases h
        | some i =>
          rw [hl] at h
          obtain ⟨a, b, d⟩ := loc_ok o hl
          have ih := gnames_ok o es ws ρ n F _ env' h
          refine ⟨fun pins s σ H vs us Q I r ⟨E, rs, hQ⟩ => ?_⟩
          cases rs with
          | cons r1 rr => exact (pgs_cons (pg_name (i := i) (o.N ▸ o.nd) a b d) ih (asgEach_name x p es X.env)).run pins s σ H _ us Q I r ⟨_, _, rfl, set_env E r1, rr, fun σ' E' out => hQ σ' E' fun j hj => by
            have hj2 : j ≠ i ∧ j ∉ nmSlots c es := by
              constructor
              · rintro rfl
                exact hj (by show _ ∈ (locOf c x).toList ++ nmSlots c es; rw [hl]; simp)
              · exact fun q => hj (by show _ ∈ (locOf c x).toList ++ nmSlots c es; simp [q])
            rw [out j hj2.2, List.getElem?_set_ne (Ne.symm hj2.1)]⟩
    | _ => cases ws <;> cases h
theorem asgNames_len : ∀ {es : List Expr} {ws : List W} {env env' : EnvM}, asgNames c es ws env = some env' → es.length = ws.length
  | [], [], _, _, _ => rfl
  | [], _ :: _, _, _, h => by cases h
  | e :: es, ws, env, env', h => by
    cases e with
    | Name x p =>
      cases ws with
      | nil => cases h
      | cons w ws =>
        unfold asgNames at h
        cases hl : locOf c x with
        | none => rw [hl] at h; cases h
        | some i =>
          rw [hl] at h
          simpa using asgNames_len h
    | _ => cases ws <;> cases h
theorem asgNames_star : ∀ {es : List Expr} {ws : List W} {env env' : EnvM} (en : Env), asgNames c es ws env = some env' → (assignEach es en).findIdx? (·.1) = none ∧ (assignEach es en).length = es.length
  | [], _, _, _, _, _ => ⟨rfl, rfl⟩
  | e :: es, ws, env, env', en, h => by
    cases e with
    | Name x p =>
      cases ws with
      | nil => cases h
      | cons w ws =>
        unfold asgNames at h
        cases hl : locOf c x with
        | none => rw [hl] at h; cases h
        | some i =>
          rw [hl] at h
          obtain ⟨h1, h2⟩ := asgNames_star en h
          show ((false, assign (.Name x p) en) :: assignEach es en).findIdx? (·.1) = none ∧ ((false, assign (.Name x p) en) :: assignEach es en).length = (Expr.Name x p :: es).length
          rw [List.findIdx?_cons, h1]
          exact ⟨rfl, congrArg Nat.succ h2⟩
    | _ => cases ws <;> cases h
theorem gtup_ok (o : COk g G ow X c wx) (es : List Expr) (k : Nat) (pos : Pos) : PG X (.Tuple es k pos) (tGt g (tgSlots c (.Tuple es k pos)) fun S => asgW c S (.Tuple es k pos)) := by
  refine ⟨fun pins s σ H v u Q I r ⟨ρ, F, S, env, w, env', L, E, rw_, hm, hQ⟩ => ?_⟩
  cases w with
  | o n => cases hm
  | x => cases hm
  | d x =>
    cases x with
    | tup ds =>
      have hm : (if c.calm then asgNames c es (ds.map W.d) env else none) = some env' := hm
      split at hm
      · rename_i hc
        have hl := asgNames_len hm
        obtain ⟨s1, s2⟩ := asgNames_star X.env hm
        have go : ∀ {p : Addr} {vs : List V}, v = .ref p → SqT X.K H p vs → Reps g F H vs ds → _ := fun {p vs} ev hp q => by
          subst ev
          exact (pg_tup (k := k) (pos := pos) (n := es.length) (o.calm hc) (gnames_ok o es _ ρ S.length F env env' hm) s2 s1).run pins s σ H _ u Q I r ⟨p, vs, rfl, hp, by rw [hl]; simp [reps_len q], E, reps_ws q, hQ⟩
        cases rw_ with
        | tup f e q => exact go rfl (SqT.of e) q
        | tupK e q => exact go rfl (o.K ▸ e _) q
      · cases hm
    | lst ds =>
      have hm : (if c.calm then asgNames c es (ds.map W.d) env else none) = some env' := hm
      split at hm
      · rename_i hc
        have hl := asgNames_len hm
        obtain ⟨s1, s2⟩ := asgNames_star X.env hm
        cases rw_ with
        | lst f e q => exact (pg_unl (k := k) (pos := pos) (n := es.length) (o.calm hc) (gnames_ok o es _ ρ S.length F env env' hm) s2 s1).run pins s σ H _ u Q I r ⟨_, _, rfl, SqL.of e, by rw [hl]; simp [reps_len q], E, reps_ws q, hQ⟩
      · cases hm
    | _ => cases hm
theorem target_ok (o : COk g G ow X c wx) (tg : Expr) : PG X tg (tGt g (tgSlots c tg) fun S => asgW c S tg) := by
  cases tg with
  | Name x pos => exact gname_ok o x pos
  | Tuple es k pos => exact gtup_ok o es k pos
  | _ => exact ⟨fun pins s σ H v u Q I r ⟨ρ, F, S, env, w, env', L, E, rw_, hm, hQ⟩ => by cases hm⟩
end
end Mi

namespace Mi
open PySem L2

/-! ### cells that go -/
def W.below (k : Nat) : W → Bool
  | .d _ => true
  | .o i => decide (i < k)
  | .x _ _ => true
def Cell.below (k : Nat) : Cell → Bool
  | .lst ws => ws.all (W.below k)
  | .ins _ fs => fs.all fun p => W.below k p.2
  | .dead => true
/-- the store cut back to k cells -/
def cutTo (k : Nat) (S : Store) : Option Store := if (S.take k).all (Cell.below k) then some (S.take k) else none
section
variable {g : Gx} {ρ : Nat → Addr} {F : Addr → Prop} {H : Hp} {S : Store}
theorem RepW.cut {n k : Nat} {v : V} {w : W} (h : RepW g ρ n F H v w) (b : W.below k w = true) : RepW g ρ k F H v w := by
  cases w with
  | d x => exact h
  | o i => exact ⟨of_decide_eq_true b, h.2⟩
  | x => exact h
theorem RepWs.cut {n k : Nat} : ∀ {vs : List V} {ws : List W}, RepWs g ρ n F H vs ws → ws.all (W.below k) = true → RepWs g ρ k F H vs ws
  | _, _, .nil, _ => .nil
  | _, _, .cons a r, b => by
    rw [List.all_cons, Bool.and_eq_true] at b
    exact .cons (a.cut b.1) (RepWs.cut r b.2)
theorem RepWF.cut {n k : Nat} : ∀ {vs : List (Str × V)} {ws : List (Str × W)}, RepWF g ρ n F H vs ws → (ws.all fun p => W.below k p.2) = true → RepWF g ρ k F H vs ws
  | _, _, .nil, _ => .nil
  | _, _, .cons a r, b => by
    rw [List.all_cons, Bool.and_eq_true] at b
    exact .cons ⟨a.1, a.2.cut b.1⟩ (RepWF.cut r b.2)
theorem CellR.cut {n k : Nat} {a : Addr} {c : Cell} (h : CellR g ρ n F H a c) (b : c.below k = true) : CellR g ρ k F H a c := by
  cases c with
  | lst ws =>
    obtain ⟨vs, h1, h2⟩ := h
    exact ⟨vs, h1, h2.cut b⟩
  | ins c fs =>
    obtain ⟨dx, vs, h1, h2⟩ := h
    exact ⟨dx, vs, h1, h2.cut b⟩
  | dead => trivial
theorem cutTo_eq {k : Nat} {S' : Store} (h : cutTo k S = some S') : S' = S.take k ∧ (S.take k).all (Cell.below k) = true := by
  unfold cutTo at h
  split at h
  · cases h
    exact ⟨rfl, by assumption⟩
  · cases h
theorem rl_cut {k : Nat} {S' : Store} (L : Rl g ρ F H S) (hk : k ≤ S.length) (h : cutTo k S = some S') : Rl g ρ F H S' ∧ S'.length = k := by
  obtain ⟨rfl, hb⟩ := cutTo_eq h
  have hl : (S.take k).length = k := by rw [List.length_take]; omega
  refine ⟨⟨fun i c e => ?_, fun i j hi hj e => L.inj i j (by omega) (by omega) e, fun i c e lv => ?_, fun i hi => L.there i (by omega), L.fth⟩, hl⟩
  · have hi : i < k := by
      have := (List.getElem?_eq_some_iff.mp e).1
      omega
    have e2 : S[i]? = some c := by
      rw [List.getElem?_take_of_lt hi] at e
      exact e
    rw [hl]
    exact (L.at_ i c e2).cut (List.all_eq_true.mp hb c (List.mem_of_getElem? e))
  · have hi : i < k := by
      have := (List.getElem?_eq_some_iff.mp e).1
      omega
    rw [List.getElem?_take_of_lt hi] at e
    exact L.nf i c e lv
theorem fz_add {p : Addr} : Fz F H (addF F p) H := fun a f => ⟨.inl f, rfl⟩
/-- an address of no cell is frozen -/
theorem rl_add {p : Addr} (L : Rl g ρ F H S) (hp : ∀ i, i < S.length → ρ i ≠ p) (ho : ∃ o, H p = some o) : Rl g ρ (addF F p) H S := by
  have z : Gr ρ S.length F H ρ S.length (addF F p) H := ⟨fz_add, fun _ _ => rfl, Nat.le_refl _⟩
  refine ⟨fun i c e => (L.at_ i c e).mono z rfl, L.inj, fun i c e lv f => ?_, L.there, fun a f => ?_⟩
  · rcases f with f | f
    · exact L.nf i c e lv f
    · exact hp i (List.getElem?_eq_some_iff.mp e).1 f
  · rcases f with f | rfl
    · exact L.fth a f
    · exact ho
/-- the last cell, a list of data, is frozen; it and all behind it go -/
theorem rl_freeze {k : Nat} {S' : Store} {ws : List W} {ds : List D} (L : Rl g ρ F H S) (e : S[k]? = some (.lst ws)) (p : pureL ws = some ds) (h : cutTo k S = some S') :
    Rl g ρ (addF F (ρ k)) H S' ∧ S'.length = k ∧ Rep g (addF F (ρ k)) H (.ref (ρ k)) (.lst ds) := by
  have hk : k < S.length := (List.getElem?_eq_some_iff.mp e).1
  obtain ⟨L1, hl⟩ := rl_cut L (Nat.le_of_lt hk) h
  obtain ⟨vs, h1, h2⟩ := L.at_ k _ e
  rw [pureL_eq p] at h2
  refine ⟨rl_add L1 (fun i hi q => ?_) ⟨_, h1⟩, hl, .lst (.inr rfl) h1 ((ws_reps h2).mono fz_add)⟩
  have := L.inj i k (by omega) hk q
  omega
end

/-! ### a comprehension's block -/
def wipeM (env : EnvM) : List Nat → EnvM
  | [] => env
  | v :: vs => (wipeM env vs).set v none
theorem wipe_env {g : Gx} {ρ : Nat → Addr} {n : Nat} {F : Addr → Prop} {H : Hp} {σ : L2.St} {env : EnvM} (E : RepEnv g ρ n F H σ env) : ∀ vs : List Nat, RepEnv g ρ n F H (wipe σ vs) (wipeM env vs)
  | [] => E
  | v :: vs => by
    have ih := wipe_env E vs
    refine ⟨by simp [wipe, wipeM, ih.1], fun j w e => ?_⟩
    unfold wipeM at e
    by_cases h : v = j
    · subst h
      by_cases hj : v < (wipeM env vs).length
      · rw [List.getElem?_set_self hj] at e
        cases e
      · rw [List.getElem?_eq_none (by simpa using hj)] at e
        cases e
    · rw [List.getElem?_set_ne h] at e
      obtain ⟨v', a, b⟩ := ih.2 j w e
      refine ⟨v', ?_, b⟩
      unfold wipe
      rw [List.getElem?_set_ne h]
      exact a
theorem wipe_get {σ : L2.St} {j : Nat} : ∀ {vs : List Nat}, (wipe σ vs)[j]? = if j ∈ vs then (if j < σ.length then some none else none) else σ[j]?
  | [] => by simp [wipe]
  | v :: vs => by
    unfold wipe
    by_cases h : v = j
    · subst h
      by_cases hj : v < σ.length
      · rw [List.getElem?_set_self (by rw [wipe_length]; exact hj)]
        simp [hj]
      · rw [List.getElem?_eq_none (by rw [List.length_set, wipe_length]; omega)]
        simp [hj]
    · rw [List.getElem?_set_ne h, wipe_get]
      have : j ≠ v := fun q => h q.symm
      simp [this]
theorem wipe_out2 {σ σ' : L2.St} {sl vs : List Nat} (h : Outside sl (wipe σ vs) σ') (hl : σ'.length = σ.length) (hs : ∀ i ∈ sl, i ∈ vs) : wipe σ' vs = wipe σ vs := by
  apply List.ext_getElem?
  intro j
  rw [wipe_get, hl]
  by_cases hj : j ∈ vs
  · rw [if_pos hj, wipe_get, if_pos hj]
  · rw [if_neg hj, h j (fun q => hj (hs j q))]
def ownOf (N : List Str) (scope : Scope) : List (Str × Nat) := scope.names.filterMap fun p => match p.2 with
  | .local => (N.findIdx? (fun y => decide (y = p.1))).map fun i => (p.1, i)
  | .cell => (N.findIdx? (fun y => decide (y = p.1))).map fun i => (p.1, i)
  | _ => none
section
variable {g : Gx} {G : GTab} {ow : Own} {X : Cx} {c : Ctx} {wx : WX}
theorem blk_ok (o : COk g G ow X c wx) {scope : Scope} (h : blkC c.N c.sc scope (ownOf c.N scope) = true) : BlkOk X.N X.env.scope scope (ownOf c.N scope) := by
  have b := blkOk_by h
  rw [o.N]
  refine ⟨b.kind, b.uniq, b.ix, fun y hy e => ?_, b.own⟩
  rcases b.free y hy e with q | q
  · exact o.cf y.1 _ q (.inl rfl)
  · exact o.cf y.1 _ q (.inr rfl)
theorem lookup_free {sc : Scope} : ∀ {names : List (Str × NameKind)} {x : Str}, names.lookup x = some .free →
    (names.map fun (n, k) => if (k == NameKind.free && sc.kind == .function && sc.names.lookup n == some .cell) then (n, NameKind.cell) else (n, k)).lookup x = some .free ∨
    (names.map fun (n, k) => if (k == NameKind.free && sc.kind == .function && sc.names.lookup n == some .cell) then (n, NameKind.cell) else (n, k)).lookup x = some .cell
  | [], _, h => by simp at h
  | (n, k0) :: r, x, h => by
    have ih := @lookup_free sc r x
    show List.lookup x ((if (k0 == NameKind.free && sc.kind == .function && sc.names.lookup n == some .cell) = true then (n, NameKind.cell) else (n, k0)) :: (r.map _)) = some .free ∨ List.lookup x ((if (k0 == NameKind.free && sc.kind == .function && sc.names.lookup n == some .cell) = true then (n, NameKind.cell) else (n, k0)) :: (r.map _)) = some .cell
    cases hx : x == n with
    | true =>
      simp only [List.lookup_cons, hx] at h
      by_cases hc : (k0 == NameKind.free && sc.kind == .function && sc.names.lookup n == some .cell) = true
      · rw [if_pos hc]
        right
        simp only [List.lookup_cons, hx]
      · rw [if_neg hc]
        simp only [List.lookup_cons, hx]
        exact .inl h
    | false =>
      simp only [List.lookup_cons, hx] at h
      by_cases hc : (k0 == NameKind.free && sc.kind == .function && sc.names.lookup n == some .cell) = true
      · rw [if_pos hc]
        simp only [List.lookup_cons, hx]
        exact ih h
      · rw [if_neg hc]
        simp only [List.lookup_cons, hx]
        exact ih h
def noWish : WX := fun _ _ _ _ => False
theorem cok_blk (o : COk g G ow X c wx) (hcalm : c.calm = true) (scope : Scope) (s : Shared) (H : Hp) (C : Addr) (cl : List (Str × Addr)) (fp : List Addr) : COk g G ow (X.blk s H scope (compEnvC scope cl C X.env) fp) { c with sc := scope, top := false } noWish := by
  have hsc : (X.blk s H scope (compEnvC scope cl C X.env) fp).env.scope = relS scope X.env.scope := rfl
  have hfn : (X.blk s H scope (compEnvC scope cl C X.env) fp).fn = fun x => scope.names.lookup x == some .cell := rfl
  refine ⟨o.rm, o.sl, o.gd, o.own, o.ct, o.xn, fun y hy => absurd (hy.symm.trans (o.xn hcalm)) (fun z => nomatch z), fun z _ => absurd z Bool.false_ne_true, fun z => absurd z Bool.false_ne_true, o.K, o.N, o.nd, fun x k hk hv => ?_, fun x k hk hl => ?_, fun x hg => ?_, fun x k hk hl => ?_, o.calm, o.un, fun u s' xx => ?_, o.cst, o.bf, o.bt⟩
  · have hk : scope.names.lookup x = some k := hk
    rw [hsc]
    show List.lookup x (relS scope X.env.scope).names = _ ∨ List.lookup x (relS scope X.env.scope).names = _ ∨ List.lookup x (relS scope X.env.scope).names = _
    cases k with
    | «local» => exact .inl (lookup_relS_keep (by decide) hk)
    | cell => exact .inr (.inl (lookup_relS_keep (by decide) hk))
    | free =>
      rcases lookup_free (sc := X.env.scope) hk with q | q
      · exact .inr (.inr q)
      · exact .inr (.inl q)
    | _ => cases hv
  · have hk : scope.names.lookup x = some k := hk
    rw [hsc, hfn]
    rcases hl with rfl | rfl
    · have q := lookup_relS_keep (sc := X.env.scope) (by decide) hk
      exact ⟨.inl q, .inr q⟩
    · have q := lookup_relS_keep (sc := X.env.scope) (by decide) hk
      refine ⟨.inr q, .inl ?_⟩
      show (scope.names.lookup x == some .cell) = true
      rw [hk]
      rfl
  · have hk : scope.names.lookup x = some .globalImplicit := by
      unfold isGlob at hg
      split at hg
      · rename_i q
        exact q
      · cases hg
    show (relS scope X.env.scope).names.lookup x = some .globalImplicit
    exact lookup_relS_keep (by decide) hk
  · have hk : scope.names.lookup x = some k := hk
    rw [hsc]
    show List.lookup x (relS scope X.env.scope).names = _ ∨ List.lookup x (relS scope X.env.scope).names = _
    rcases hl with rfl | rfl
    · exact .inl (lookup_relS_keep (by decide) hk)
    · rcases lookup_free (sc := X.env.scope) hk with q | q
      · exact .inr q
      · exact .inl q
  · obtain ⟨_, _, _, _, _, _, _, _, _, _, _, _, _, _, _, _, z⟩ := xx
    exact z.elim
end
/-- the turns of a list comprehension; the list stands in cell k -/
def compL (asg : Store → W → EnvM → Option EnvM) (tst : EnvM → Store → R Bool) (elt : EnvM → Store → R W) (env : EnvM) (k : Nat) : List W → Store → R Unit
  | [], S => .ok () S
  | w :: r, S => match asg S w env with
    | none => .bad
    | some env2 => match tst env2 S with
      | .ok true S2 => match elt env2 S2 with
        | .ok y S3 => match S3[k]? with
          | some (.lst acc) => if acc.length < 100000 then compL asg tst elt env k r (S3.set k (.lst (acc ++ [y]))) else .bad
          | _ => .bad
        | _ => .bad
      | .ok false S2 => compL asg tst elt env k r S2
      | _ => .bad
def compEnd (k : Nat) (r : R Unit) : R W := r.bind fun _ S => match S[k]? with
  | some (.lst ws) => match pureL ws with
    | some ds => match cutTo k S with
      | some S' => if S.length = k + 1 then .ok (.d (.lst ds)) S' else .bad
      | none => .bad
    | none => .bad
  | _ => .bad
/-- y = [..], to be changed -/
def compBox (k : Nat) (r : R Unit) : R W := r.bind fun _ S => if k < S.length then .ok (.o k) S else .bad
section
variable {g : Gx} {G : GTab} {ow : Own} {X : Cx} {c : Ctx} {wx : WX}
theorem len_env {ρ : Nat → Addr} {n : Nat} {F : Addr → Prop} {H : Hp} {σ : L2.St} {env : EnvM} (E : RepEnv g ρ n F H σ env) : σ.length = env.length := E.1
theorem asgNames_same : ∀ {es : List Expr} {ws : List W} {env env' : EnvM}, asgNames c es ws env = some env' → env'.length = env.length
  | [], [], _, _, h => by cases h; rfl
  | [], _ :: _, _, _, h => by cases h
  | e :: es, ws, env, env', h => by
    cases e with
    | Name x p =>
      cases ws with
      | nil => cases h
      | cons w ws =>
        unfold asgNames at h
        cases hl : locOf c x with
        | none => rw [hl] at h; cases h
        | some i =>
          rw [hl] at h
          have := asgNames_same h
          simpa using this
    | _ => cases ws <;> cases h
theorem asgW_same {tg : Expr} {w : W} {env env' : EnvM} {S : Store} (h : asgW c S tg w env = some env') : env'.length = env.length := by
  unfold asgW at h
  split at h
  · split at h
    · cases h; simp
    · cases h
  · split at h
    · exact asgNames_same h
    · cases h
  · split at h
    · exact asgNames_same h
    · cases h
  · cases h
/-- the reading of a list comprehension: fin: what is made of the list in cell k -/
theorem comp_read {scope : Scope} {tg : Expr} {vs : List Nat} (mi : EnvM → Store → R (List W)) (mt : EnvM → Store → R Bool) (me : EnvM → Store → R W) (fin : Nat → R Unit → R W)
    (hbad : ∀ k, fin k .bad = .bad)
    (hend : ∀ {ρ0 : Nat → Addr} {n0 : Nat} {F0 : Addr → Prop} {H0 : Hp} {ρ : Nat → Addr} {F : Addr → Prop} {H : Hp} {S : Store} {σ : L2.St} {Q : VK} {k : Nat}, n0 ≤ k → k < S.length → Gr ρ0 n0 F0 H0 ρ S.length F H → Rl g ρ F H S → Post g wx σ (rpW g) ρ0 n0 F0 H0 Q (fin k (.ok () S)) → Q (.ref (ρ k)) H)
    (hsl : ∀ i ∈ tgSlots { c with sc := scope, top := false } tg, i ∈ vs) :
    ∀ σ H Q, tE g wx (fun env S => (mi env S).bind fun ws S1 => fin S1.length (compL (fun S => asgW { c with sc := scope, top := false } S tg) mt me (wipeM env vs) S1.length ws (S1 ++ [.lst []]))) σ H Q →
      tLc (tI g wx mi) (tGt g (tgSlots { c with sc := scope, top := false } tg) fun S => asgW { c with sc := scope, top := false } S tg) (tT g noWish mt) (tE g noWish me) vs σ H Q := by
  rintro σ H Q ⟨ρ, F, S, env, L, E, P⟩
  refine ⟨ρ, F, S, env, L, E, Post.seq P fun ws S1 J ρ1 F1 H1 _ z1 L1 hJ P1 => ?_⟩
  have hJ : ItOk g J ws ρ1 S1.length F1 H1 := hJ
  intro D hD
  have E1 := E.mono z1
  generalize hk : S1.length = k at *
  -- the state ahead of turn i
  refine ⟨fun i m H2 => m = ws.length - i ∧ i ≤ ws.length ∧ ∃ (ρ2 : Nat → Addr) (F2 : Addr → Prop) (S2 : Store), Gr ρ1 k F1 H1 ρ2 S2.length F2 H2 ∧ Rl g ρ2 F2 H2 S2 ∧ ρ2 k = D ∧ k < S2.length ∧
      Post g wx σ (rpW g) ρ1 k F1 H1 Q (fin k (compL (fun S => asgW { c with sc := scope, top := false } S tg) mt me (wipeM env vs) k (ws.drop i) S2)),
    ⟨ws.length, by simp, Nat.zero_le _, addR ρ1 k D, F1, S1 ++ [.lst []], ?_, ?_, addR_eq, by simp [hk], (by rw [List.drop_zero]; exact P1)⟩, ?_⟩
  · subst hk
    exact gr_cell L1 hD
  · subst hk
    exact rl_cell L1 hD ⟨[], upd_same, .nil⟩
  · rintro i m H2 ⟨rfl, hi, ρ2, F2, S2, z2, L2, hD2, hk2, P2⟩
    by_cases hlt : i < ws.length
    · right
      have hw : ws[i]? = some ws[i] := by simp [hlt]
      have hdrop : ws.drop i = ws[i] :: ws.drop (i + 1) := by simp
      rw [hdrop] at P2
      refine ⟨hJ.go i ρ2 F2 H2 S2 z2 L2 hlt, fun H3 => ∃ (ρ3 : Nat → Addr) (F3 : Addr → Prop) (S3 : Store), Gr ρ1 k F1 H1 ρ3 S3.length F3 H3 ∧ Rl g ρ3 F3 H3 S3 ∧ ρ3 k = D ∧ k < S3.length ∧
        Post g wx σ (rpW g) ρ1 k F1 H1 Q (fin k (compL (fun S => asgW { c with sc := scope, top := false } S tg) mt me (wipeM env vs) k (ws.drop (i + 1)) S3)), fun H3 h => ⟨ws.length - (i + 1), by omega, rfl, hlt, h⟩, fun x H' y => ?_⟩
      obtain ⟨F', zy, Ly, ry⟩ := hJ.yld i ρ2 F2 H2 S2 _ x H' z2 L2 hw y
      have zz := z2.trans zy
      unfold compL at P2
      cases ha : asgW { c with sc := scope, top := false } S2 tg ws[i] (wipeM env vs) with
      | none =>
        rw [ha] at P2
        dsimp only at P2
        rw [hbad] at P2
        exact P2.elim
      | some env2 =>
        rw [ha] at P2
        dsimp only at P2
        have Ew := wipe_env (E1.mono zz) vs
        refine ⟨ρ2, F', S2, wipeM env vs, ws[i], env2, Ly, Ew, ry, ha, fun σ2 E2 out => ⟨?_, ?_⟩⟩
        · refine wipe_out2 out ?_ hsl
          rw [E2.1, asgW_same ha, ← Ew.1, wipe_length]
        · refine ⟨ρ2, F', S2, env2, Ly, E2, ?_⟩
          cases ht : mt env2 S2 with
          | bad =>
            rw [ht] at P2
            dsimp only at P2
            rw [hbad] at P2
            exact P2.elim
          | exc _ _ _ =>
            rw [ht] at P2
            dsimp only at P2
            rw [hbad] at P2
            exact P2.elim
          | ok b S3 =>
            rw [ht] at P2
            intro b' ρ3 F3 H3 z3 L3 rb
            cases rb
            have zzz := zz.trans z3
            cases b with
            | false => exact iteF ⟨ρ3, F3, S3, zzz, L3, (z3.pl k hk2).trans hD2, Nat.lt_of_lt_of_le hk2 z3.le, P2⟩
            | true =>
              refine iteT ⟨ρ3, F3, S3, env2, L3, E2.mono z3, ?_⟩
              dsimp only at P2
              cases he : me env2 S3 with
              | bad =>
                rw [he] at P2
                dsimp only at P2
                rw [hbad] at P2
                exact P2.elim
              | exc _ _ _ =>
                rw [he] at P2
                dsimp only at P2
                rw [hbad] at P2
                exact P2.elim
              | ok w S4 =>
                rw [he] at P2
                dsimp only at P2
                intro v ρ4 F4 H4 z4 L4 rv
                split at P2
                · rename_i acc hacc
                  split at P2
                  · rename_i hz
                    have hk4 : k < S4.length := (List.getElem?_eq_some_iff.mp hacc).1
                    have hD4 : ρ4 k = D := ((z4.pl k (Nat.lt_of_lt_of_le hk2 z3.le)).trans (z3.pl k hk2)).trans hD2
                    obtain ⟨us, h1, h2⟩ := L4.at_ k _ hacc
                    rw [hD4] at h1
                    refine ⟨us, h1, by rw [paired_len h2]; exact Nat.lt_of_lt_of_le hz (by decide), ρ4, F4, _, ?_, ?_, hD4, by simpa using hk4, P2⟩
                    · have zs := gr_set (c := .lst (acc ++ [w])) (o := .lst (us ++ [v])) L4 hacc rfl
                      rw [hD4] at zs
                      exact (zzz.trans z4).trans zs
                    · have zs := gr_set (c := .lst (acc ++ [w])) (o := .lst (us ++ [v])) L4 hacc rfl
                      have := rl_set L4 hacc rfl (o := .lst (us ++ [v])) (c := .lst (acc ++ [w])) ⟨_, upd_same, RepWs.mono zs (paired_app h2 (.cons rv .nil))⟩
                      rw [hD4] at this
                      exact this
                  · rw [hbad] at P2
                    exact P2.elim
                · rw [hbad] at P2
                  exact P2.elim
    · left
      have hi2 : i = ws.length := by omega
      subst hi2
      refine ⟨hJ.stop ρ2 F2 H2 S2 z2 L2, ?_⟩
      rw [List.drop_length] at P2
      rw [← hD2]
      exact hend (Nat.le_refl _) hk2 z2 L2 P2
end
end Mi

namespace Mi
open PySem L2

section
variable {g : Gx} {G : GTab} {ow : Own} {X : Cx} {c : Ctx} {wx : WX}
/-! ### list comprehensions as values -/
theorem compEnd_end {ρ0 : Nat → Addr} {n0 : Nat} {F0 : Addr → Prop} {H0 : Hp} {ρ : Nat → Addr} {F : Addr → Prop} {H : Hp} {S : Store} {σ : L2.St} {Q : VK} {k : Nat} (h0 : n0 ≤ k) (hk : k < S.length) (z : Gr ρ0 n0 F0 H0 ρ S.length F H) (L : Rl g ρ F H S)
    (P : Post g wx σ (rpW g) ρ0 n0 F0 H0 Q (compEnd k (.ok () S))) : Q (.ref (ρ k)) H := by
  unfold compEnd R.bind at P
  dsimp only at P
  split at P
  · rename_i ws e
    split at P
    · rename_i ds hp
      split at P
      · rename_i S' hc
        split at P
        · obtain ⟨L1, hl, r⟩ := rl_freeze L e hp hc
          refine P _ ρ _ H ⟨z.fz.trans fz_add, z.pl, by rw [hl]; exact h0⟩ L1 r
        · exact P.elim
      · exact P.elim
    · exact P.elim
  · exact P.elim
theorem compBox_end {ρ0 : Nat → Addr} {n0 : Nat} {F0 : Addr → Prop} {H0 : Hp} {ρ : Nat → Addr} {F : Addr → Prop} {H : Hp} {S : Store} {σ : L2.St} {Q : VK} {k : Nat} (h0 : n0 ≤ k) (hk : k < S.length) (z : Gr ρ0 n0 F0 H0 ρ S.length F H) (L : Rl g ρ F H S)
    (P : Post g wx σ (rpW g) ρ0 n0 F0 H0 Q (compBox k (.ok () S))) : Q (.ref (ρ k)) H := by
  unfold compBox R.bind at P
  dsimp only at P
  rw [if_pos hk] at P
  exact P _ ρ F H z L ⟨hk, rfl⟩
/-- which end: a list that stays, a list to be changed -/
def compFin (box : Bool) : Nat → R Unit → R W := if box then compBox else compEnd
theorem compFin_bad (box : Bool) (k : Nat) : compFin box k .bad = .bad := by cases box <;> rfl
theorem compFin_end (box : Bool) {ρ0 : Nat → Addr} {n0 : Nat} {F0 : Addr → Prop} {H0 : Hp} {ρ : Nat → Addr} {F : Addr → Prop} {H : Hp} {S : Store} {σ : L2.St} {Q : VK} {k : Nat} (h0 : n0 ≤ k) (hk : k < S.length) (z : Gr ρ0 n0 F0 H0 ρ S.length F H) (L : Rl g ρ F H S)
    (P : Post g wx σ (rpW g) ρ0 n0 F0 H0 Q (compFin box k (.ok () S))) : Q (.ref (ρ k)) H := by
  cases box with
  | true => exact compBox_end h0 hk z L P
  | false => exact compEnd_end h0 hk z L P
/-- what is looked at ahead: the block's names, the target's places -/
def compC (c : Ctx) (scope : Scope) (tg : Expr) : Bool := c.calm && blkC c.N c.sc scope (ownOf c.N scope) && (tgSlots { c with sc := scope, top := false } tg).all fun i => ((ownOf c.N scope).map (·.2)).contains i
def compM (box : Bool) (c : Ctx) (scope : Scope) (tg : Expr) (mi : EnvM → Store → R (List W)) (mt : EnvM → Store → R Bool) (me : EnvM → Store → R W) (env : EnvM) (S : Store) : R W :=
  (mi env S).bind fun ws S1 => compFin box S1.length (compL (fun S => asgW { c with sc := scope, top := false } S tg) mt me (wipeM env ((ownOf c.N scope).map (·.2))) S1.length ws (S1 ++ [.lst []]))
theorem compC_ok {scope : Scope} {tg : Expr} (h : compC c scope tg = true) : c.calm = true ∧ blkC c.N c.sc scope (ownOf c.N scope) = true ∧ ∀ i ∈ tgSlots { c with sc := scope, top := false } tg, i ∈ (ownOf c.N scope).map (·.2) := by
  simp only [compC, Bool.and_eq_true, List.all_eq_true, List.contains_iff_mem] at h
  exact ⟨h.1.1, h.1.2, h.2⟩
theorem lcomp_ok (o : COk g G ow X c wx) (box : Bool) {elt tg iter : Expr} {ifs : List Expr} {scope : Scope} {pos : Pos} (h : compC c scope tg = true) {mi : EnvM → Store → R (List W)} {mt : EnvM → Store → R Bool} {me : EnvM → Store → R W}
    (hi : PI X tg iter (tI g wx mi)) (ht : ∀ X', COk g G ow X' { c with sc := scope, top := false } noWish → PTs X' ifs (tT g noWish mt)) (he : ∀ X', COk g G ow X' { c with sc := scope, top := false } noWish → PE X' elt (tE g noWish me)) (hs : ∀ x, foldedSetIterable iter X.env x = pure x) :
    PE X (.ListComp elt [⟨tg, iter, ifs, 0⟩] scope pos) (tE g wx (compM box c scope tg mi mt me)) := by
  obtain ⟨h1, h2, h3⟩ := compC_ok h
  refine pe_mono (pe_lc (own := ownOf c.N scope) (o.calm h1) (o.N ▸ o.nd) hi (blk_ok o h2) (fun s H C cl fp => target_ok (cok_blk o h1 scope s H C cl fp) tg) (fun s H C cl fp => ht _ (cok_blk o h1 scope s H C cl fp)) (fun s H C cl fp => he _ (cok_blk o h1 scope s H C cl fp)) hs) ?_
  exact comp_read mi mt me (compFin box) (compFin_bad box) (fun h0 hk z L P => compFin_end box h0 hk z L P) h3
theorem lcompSet_ok (o : COk g G ow X c wx) (box : Bool) {i : Nat} {y : Str} {py : Pos} {elt tg iter : Expr} {ifs : List Expr} {scope : Scope} {pos spos : Pos} (h : compC c scope tg = true) {mi : EnvM → Store → R (List W)} {mt : EnvM → Store → R Bool} {me : EnvM → Store → R W}
    (hy : X.N[i]? = some y) (hyl : X.env.scope.names.lookup y = some .local) (hsw : swapsWith (.ListComp elt [⟨tg, iter, ifs, 0⟩] scope pos) (some (.Name y py)) spos.line X.env = pure true)
    (hi : PI X tg iter (tI g wx mi)) (ht : ∀ X', COk g G ow X' { c with sc := scope, top := false } noWish → PTs X' ifs (tT g noWish mt)) (he : ∀ X', COk g G ow X' { c with sc := scope, top := false } noWish → PE X' elt (tE g noWish me)) (hs : ∀ x, foldedSetIterable iter X.env x = pure x) :
    PS X (.Assign [.Name y py] (.ListComp elt [⟨tg, iter, ifs, 0⟩] scope pos) spos) (tAsg (tE g wx (compM box c scope tg mi mt me)) (gName i)) := by
  obtain ⟨h1, h2, h3⟩ := compC_ok h
  refine ps_mono (ps_setLc (own := ownOf c.N scope) (i := i) (o.calm h1) (o.N ▸ o.nd) hy hyl hsw hi (blk_ok o h2) (fun s H C cl fp => target_ok (cok_blk o h1 scope s H C cl fp) tg) (fun s H C cl fp => ht _ (cok_blk o h1 scope s H C cl fp)) (fun s H C cl fp => he _ (cok_blk o h1 scope s H C cl fp)) hs) fun E σ H q => ?_
  exact comp_read mi mt me (compFin box) (compFin_bad box) (fun h0 hk z L P => compFin_end box h0 hk z L P) h3 σ H _ q
end

/-! ### statements -/
def RS.ofR {α : Type} (env : EnvM) (r : R α) (k : α → Store → RS) : RS := match r with
  | .ok a S => k a S
  | .exc c fs S => .exc c fs env S
  | .bad => .bad
def RS.seq (r : RS) (k : EnvM → Store → RS) : RS := match r with
  | .next e S => k e S
  | .ret w S => .ret w S
  | .brk e S => .brk e S
  | .cont e S => .cont e S
  | .exc c fs e S => .exc c fs e S
  | .bad => .bad
section
variable {g : Gx} {G : GTab} {ow : Own} {X : Cx} {c : Ctx} {wx : WX}
theorem PostS.step {ρ ρ1 : Nat → Addr} {n n1 : Nat} {F F1 : Addr → Prop} {H H1 : Hp} {E : Ends} {r : RS} (z : Gr ρ n F H ρ1 n1 F1 H1) (h : PostS g wx ρ n F H E r) : PostS g wx ρ1 n1 F1 H1 E r := by
  cases r with
  | next e S => exact fun σ' ρ' F' H' k => h σ' ρ' F' H' (z.trans k)
  | ret e S => exact fun σ' ρ' F' H' k => h σ' ρ' F' H' (z.trans k)
  | brk e S => exact fun σ' ρ' F' H' k => h σ' ρ' F' H' (z.trans k)
  | cont e S => exact fun σ' ρ' F' H' k => h σ' ρ' F' H' (z.trans k)
  | exc cc fs e S => exact fun d σ' ρ' F' H' k => h d σ' ρ' F' H' (z.trans k)
  | bad => exact h
theorem PostS.ofR {α β : Type} {rp : (Nat → Addr) → Nat → (Addr → Prop) → Hp → β → α → Prop} {ρ : Nat → Addr} {n : Nat} {F : Addr → Prop} {H : Hp} {E : Ends} {σ : L2.St} {env : EnvM} {r : R α} {k : α → Store → RS} {Q1 : β → Hp → Prop} (hE : RepEnv g ρ n F H σ env)
    (h : PostS g wx ρ n F H E (RS.ofR env r k)) (kk : ∀ a S1 b ρ1 F1 H1, r = .ok a S1 → Gr ρ n F H ρ1 S1.length F1 H1 → Rl g ρ1 F1 H1 S1 → rp ρ1 S1.length F1 H1 b a → PostS g wx ρ1 S1.length F1 H1 E (k a S1) → Q1 b H1) : Post g wx σ rp ρ n F H Q1 r := by
  cases r with
  | ok a S => exact fun b ρ' F' H' z L p => kk a S b ρ' F' H' rfl z L p (PostS.step z h)
  | exc cc fs S => exact fun d ρ' F' H' z L x => h d σ ρ' F' H' z L (hE.mono z) x
  | bad => exact h
theorem never_s {st : Stmt} : PS X st (tS g wx fun _ _ => .bad) := ⟨fun pins s σ H Q I ⟨ρ, F, S, env, L, E, P⟩ => P.elim⟩
theorem nil_ok : PSs X [] (tS g wx fun env S => .next env S) := pss_mono pss_nil fun E σ H ⟨ρ, F, S, env, L, R, P⟩ => P σ ρ F H Gr.refl L R
theorem cons_ok {st : Stmt} {rest : List Stmt} {m1 m2 : EnvM → Store → RS} (h1 : PS X st (tS g wx m1)) (h2 : PSs X rest (tS g wx m2)) : PSs X (st :: rest) (tS g wx fun env S => (m1 env S).seq m2) := by
  refine pss_mono (pss_cons h1 h2) ?_
  rintro E σ H ⟨ρ, F, S, env, L, R, P⟩
  refine ⟨ρ, F, S, env, L, R, ?_⟩
  dsimp only at P
  cases h : m1 env S with
  | next e S1 =>
    rw [h] at P
    exact fun σ' ρ' F' H' z L' R' => ⟨ρ', F', S1, e, L', R', PostS.step z P⟩
  | _ => rw [h] at P; exact P
theorem ret_ok {e : Expr} {m : EnvM → Store → R W} {pos : Pos} (h : PE X e (tE g wx m)) : PS X (.Return (some e) pos) (tS g wx fun env S => RS.ofR env (m env S) fun w S1 => .ret w S1) := by
  refine ps_mono (ps_ret h) ?_
  rintro E σ H ⟨ρ, F, S, env, L, R, P⟩
  exact ⟨ρ, F, S, env, L, R, PostS.ofR R P fun w S1 v ρ1 F1 H1 _ z L1 r1 P1 => P1 v ρ1 F1 H1 Gr.refl L1 r1⟩
theorem retN_ok {pos : Pos} : PS X (.Return none pos) (tS g wx fun env S => .ret (.d .non) S) := ps_mono ps_retN fun E σ H ⟨ρ, F, S, env, L, R, P⟩ => P _ ρ F H Gr.refl L .non
theorem pass_ok {pos : Pos} : PS X (.Pass pos) (tS g wx fun env S => .next env S) := ps_mono ps_pass fun E σ H ⟨ρ, F, S, env, L, R, P⟩ => P σ ρ F H Gr.refl L R
theorem brk_ok {pos : Pos} : PS X (.Break pos) (tS g wx fun env S => .brk env S) := ps_mono ps_break fun E σ H ⟨ρ, F, S, env, L, R, P⟩ => P σ ρ F H Gr.refl L R
theorem cont_ok {pos : Pos} : PS X (.Continue pos) (tS g wx fun env S => .cont env S) := ps_mono ps_continue fun E σ H ⟨ρ, F, S, env, L, R, P⟩ => P σ ρ F H Gr.refl L R
def isComp : Expr → Bool
  | .ListComp .. => true
  | .SetComp .. => true
  | .DictComp .. => true
  | _ => false
theorem noswap {e : Expr} (h : isComp e = false) (t : Option Expr) (l : Nat) (env : Env) : swapsWith e t l env = pure false := by
  cases e <;> first | rfl | cases h
theorem expr_ok {e : Expr} {m : EnvM → Store → R W} {pos : Pos} (hc : isComp e = false) (h : PE X e (tE g wx m)) : PS X (.Expr e pos) (tS g wx fun env S => RS.ofR env (m env S) fun _ S1 => .next env S1) := by
  refine ps_mono (ps_expr h (noswap hc _ _ _)) ?_
  rintro E σ H ⟨ρ, F, S, env, L, R, P⟩
  exact ⟨ρ, F, S, env, L, R, PostS.ofR R P fun w S1 v ρ1 F1 H1 _ z L1 r1 P1 => P1 σ ρ1 F1 H1 Gr.refl L1 (R.mono z)⟩
theorem if_ok {t : Expr} {a b : List Stmt} {mt : EnvM → Store → R Bool} {ma mb : EnvM → Store → RS} {pos : Pos} (ht : PT X t (tT g wx mt)) (ha : PSs X a (tS g wx ma)) (hb : PSs X b (tS g wx mb)) :
    PS X (.If t a b pos) (tS g wx fun env S => RS.ofR env (mt env S) fun k S1 => if k then ma env S1 else mb env S1) := by
  refine ps_mono (ps_if ht ha hb) ?_
  rintro E σ H ⟨ρ, F, S, env, L, R, P⟩
  refine ⟨ρ, F, S, env, L, R, PostS.ofR R P fun k S1 v ρ1 F1 H1 _ z L1 r1 P1 => ?_⟩
  cases r1
  cases k with
  | true => exact iteT ⟨ρ1, F1, S1, env, L1, R.mono z, P1⟩
  | false => exact iteF ⟨ρ1, F1, S1, env, L1, R.mono z, P1⟩
/-- name = e -/
def setS (c : Ctx) (x : Str) (env : EnvM) (r : R W) : RS := RS.ofR env r fun w S1 => match locOf c x with
  | some i => .next (env.set i (some w)) S1
  | none => .bad
theorem asg_read {i : Nat} {x : Str} (hi : locOf c x = some i) {m : EnvM → Store → R W} : ∀ E σ H, tS g wx (fun env S => setS c x env (m env S)) E σ H → tAsg (tE g wx m) (gName i) E σ H := by
  rintro E σ H ⟨ρ, F, S, env, L, R, P⟩
  refine ⟨ρ, F, S, env, L, R, PostS.ofR R P fun w S1 v ρ1 F1 H1 _ z L1 r1 P1 => ?_⟩
  rw [hi] at P1
  exact P1 _ ρ1 F1 H1 Gr.refl L1 (set_env (R.mono z) r1)
theorem set_ok (o : COk g G ow X c wx) {x : Str} {e : Expr} {m : EnvM → Store → R W} {p pos : Pos} (hs : swapsWith e (some (.Name x p)) pos.line X.env = pure false) (h : PE X e (tE g wx m)) : PS X (.Assign [.Name x p] e pos) (tS g wx fun env S => setS c x env (m env S)) := by
  cases hl : locOf c x with
  | some i =>
    obtain ⟨a, b, d⟩ := loc_ok o hl
    exact ps_mono (ps_set (i := i) (o.N ▸ o.nd) a b h hs d) (asg_read hl)
  | none =>
    have hb : PS X (.Assign [.Name x p] e pos) tNever := ps_never
    refine ps_mono (ps_asg (tg := .Name x p) (g := fun _ _ _ _ => False) h ⟨fun pins s σ H v u Q I r z => z.elim⟩ hs (by unfold swappedStores; rfl) rfl) ?_
    rintro E σ H ⟨ρ, F, S, env, L, R, P⟩
    refine ⟨ρ, F, S, env, L, R, PostS.ofR R P fun w S1 v ρ1 F1 H1 _ z L1 r1 P1 => ?_⟩
    rw [hl] at P1
    exact P1.elim
/-- a, b = e: e is no tuple display -/
theorem settup_ok (o : COk g G ow X c wx) {tg e : Expr} {m : EnvM → Store → R W} {pos : Pos} (hs : swapsWithSole [tg] e pos.line X.env = pure false) (hw : swappedStores [tg] e X.env = pure none) (h1 : (assignEach [tg] X.env).map (·.2) = [assign tg X.env]) (h : PE X e (tE g wx m)) :
    PS X (.Assign [tg] e pos) (tS g wx fun env S => RS.ofR env (m env S) fun w S1 => match asgW c S1 tg w env with
      | some env' => .next env' S1
      | none => .bad) := by
  refine ps_mono (ps_asg h (target_ok o tg) hs hw h1) ?_
  rintro E σ H ⟨ρ, F, S, env, L, R, P⟩
  refine ⟨ρ, F, S, env, L, R, PostS.ofR R P fun w S1 v ρ1 F1 H1 _ z L1 r1 P1 => ?_⟩
  split at P1
  · rename_i env' he
    exact ⟨ρ1, F1, S1, env, w, env', L1, R.mono z, r1, he, fun σ' R' _ => P1 σ' ρ1 F1 H1 Gr.refl L1 R'⟩
  · exact P1.elim
/-! loops -/
def forL (asg : Store → W → EnvM → Option EnvM) (body : EnvM → Store → RS) : List W → EnvM → Store → RS
  | [], env, S => .next env S
  | w :: r, env, S => match asg S w env with
    | none => .bad
    | some env2 => match body env2 S with
      | .next e S2 => forL asg body r e S2
      | .cont e S2 => forL asg body r e S2
      | .brk e S2 => .next e S2
      | .ret w S2 => .ret w S2
      | .exc c fs e S2 => .exc c fs e S2
      | .bad => .bad
theorem for_ok (o : COk g G ow X c wx) {tg iter : Expr} {body : List Stmt} {mi : EnvM → Store → R (List W)} {mb : EnvM → Store → RS} {pos : Pos} (hp : PassesOwn (model X.prog X.w) X.A X.env X.xe) (hc : c.calm = true) (hi : PI X tg iter (tI g wx mi)) (hb : PSs X body (tS g wx mb)) (hs : ∀ x, foldedSetIterable iter X.env x = pure x) :
    PS X (.For tg iter body [] pos) (tS g wx fun env S => RS.ofR env (mi env S) fun ws S1 => forL (fun S => asgW c S tg) mb ws env S1) := by
  refine ps_mono (ps_for hp (o.calm hc) hi (target_ok o tg) hb hs) ?_
  rintro E σ H ⟨ρ, F, S, env, L, R, P⟩
  refine ⟨ρ, F, S, env, L, R, PostS.ofR R P fun ws S1 J ρ1 F1 H1 _ z1 L1 hJ P1 => ?_⟩
  have hJ : ItOk g J ws ρ1 S1.length F1 H1 := hJ
  have R1 := R.mono z1
  refine ⟨fun i m σ2 H2 => m = ws.length - i ∧ i ≤ ws.length ∧ ∃ (ρ2 : Nat → Addr) (F2 : Addr → Prop) (S2 : Store) (env2 : EnvM), Gr ρ1 S1.length F1 H1 ρ2 S2.length F2 H2 ∧ Rl g ρ2 F2 H2 S2 ∧ RepEnv g ρ2 S2.length F2 H2 σ2 env2 ∧
      PostS g wx ρ2 S2.length F2 H2 E (forL (fun S => asgW c S tg) mb (ws.drop i) env2 S2), ⟨ws.length, by simp, Nat.zero_le _, ρ1, F1, S1, env, Gr.refl, L1, R1, (by rw [List.drop_zero]; exact P1)⟩, ?_⟩
  rintro i m σ2 H2 ⟨rfl, hi, ρ2, F2, S2, env2, z2, L2, R2, P2⟩
  by_cases hlt : i < ws.length
  · right
    have hw : ws[i]? = some ws[i] := by simp [hlt]
    have hdrop : ws.drop i = ws[i] :: ws.drop (i + 1) := by simp
    rw [hdrop] at P2
    refine ⟨hJ.go i ρ2 F2 H2 S2 z2 L2 hlt, fun σ3 H3 => ∃ (ρ3 : Nat → Addr) (F3 : Addr → Prop) (S3 : Store) (env3 : EnvM), Gr ρ1 S1.length F1 H1 ρ3 S3.length F3 H3 ∧ Rl g ρ3 F3 H3 S3 ∧ RepEnv g ρ3 S3.length F3 H3 σ3 env3 ∧
      PostS g wx ρ3 S3.length F3 H3 E (forL (fun S => asgW c S tg) mb (ws.drop (i + 1)) env3 S3), fun σ3 H3 h => ⟨ws.length - (i + 1), by omega, rfl, hlt, h⟩, fun x H' y => ?_⟩
    obtain ⟨F', zy, Ly, ry⟩ := hJ.yld i ρ2 F2 H2 S2 _ x H' z2 L2 hw y
    unfold forL at P2
    cases ha : asgW c S2 tg ws[i] env2 with
    | none =>
      rw [ha] at P2
      exact P2.elim
    | some env3 =>
      rw [ha] at P2
      dsimp only at P2
      refine ⟨ρ2, F', S2, env2, ws[i], env3, Ly, R2.mono zy, ry, ha, fun σ3 R3 _ => ⟨ρ2, F', S2, env3, Ly, R3, ?_⟩⟩
      have P3 := PostS.step zy P2
      cases hbd : mb env3 S2 with
      | next e S3 =>
        rw [hbd] at P3
        exact fun σ4 ρ4 F4 H4 z4 L4 R4 => ⟨ρ4, F4, S3, e, (z2.trans zy).trans z4, L4, R4, PostS.step z4 P3⟩
      | cont e S3 =>
        rw [hbd] at P3
        exact fun σ4 ρ4 F4 H4 z4 L4 R4 => ⟨ρ4, F4, S3, e, (z2.trans zy).trans z4, L4, R4, PostS.step z4 P3⟩
      | brk e S3 =>
        rw [hbd] at P3
        exact P3
      | ret w S3 =>
        rw [hbd] at P3
        exact P3
      | exc cc fs e S3 =>
        rw [hbd] at P3
        exact P3
      | bad =>
        rw [hbd] at P3
        exact P3
  · left
    have hi2 : i = ws.length := by omega
    subst hi2
    refine ⟨hJ.stop ρ2 F2 H2 S2 z2 L2, ?_⟩
    rw [List.drop_length] at P2
    exact P2 σ2 ρ2 F2 H2 Gr.refl L2 R2
def whileL (test : EnvM → Store → R Bool) (body : EnvM → Store → RS) : Nat → EnvM → Store → RS
  | 0, _, _ => .bad
  | n + 1, env, S => match test env S with
    | .ok true S1 => match body env S1 with
      | .next e S2 => whileL test body n e S2
      | .cont e S2 => whileL test body n e S2
      | .brk e S2 => .next e S2
      | .ret w S2 => .ret w S2
      | .exc c fs e S2 => .exc c fs e S2
      | .bad => .bad
    | .ok false S1 => .next env S1
    | .exc c fs S1 => .exc c fs env S1
    | .bad => .bad
theorem while_ok {t : Expr} {body : List Stmt} {mt : EnvM → Store → R Bool} {mb : EnvM → Store → RS} {pos : Pos} (n : Nat) (hp : PassesOwn (model X.prog X.w) X.A X.env X.xe) (ht : PT X t (tT g wx mt)) (hb : PSs X body (tS g wx mb)) :
    PS X (.While t body [] pos) (tS g wx (whileL mt mb n)) := by
  refine ps_mono (ps_while hp ht hb) ?_
  rintro E σ H ⟨ρ, F, S, env, L, R, P⟩
  refine ⟨fun m σ2 H2 => ∃ (ρ2 : Nat → Addr) (F2 : Addr → Prop) (S2 : Store) (env2 : EnvM), Rl g ρ2 F2 H2 S2 ∧ RepEnv g ρ2 S2.length F2 H2 σ2 env2 ∧ PostS g wx ρ2 S2.length F2 H2 E (whileL mt mb m env2 S2), ⟨n, ρ, F, S, env, L, R, P⟩, ?_⟩
  rintro m σ2 H2 ⟨ρ2, F2, S2, env2, L2, R2, P2⟩
  cases m with
  | zero => exact P2.elim
  | succ m =>
    unfold whileL at P2
    refine ⟨ρ2, F2, S2, env2, L2, R2, ?_⟩
    cases htt : mt env2 S2 with
    | bad => rw [htt] at P2; exact P2
    | exc cc fs S3 =>
      rw [htt] at P2
      exact fun d ρ' F' H' z L' x => P2 d σ2 ρ' F' H' z L' (R2.mono z) x
    | ok b S3 =>
      rw [htt] at P2
      intro b' ρ3 F3 H3 z3 L3 rb
      cases rb
      cases b with
      | false => exact iteF (P2 σ2 ρ3 F3 H3 z3 L3 (R2.mono z3))
      | true =>
        refine iteT ⟨fun σ4 H4 => ∃ (ρ4 : Nat → Addr) (F4 : Addr → Prop) (S4 : Store) (env4 : EnvM), Rl g ρ4 F4 H4 S4 ∧ RepEnv g ρ4 S4.length F4 H4 σ4 env4 ∧ PostS g wx ρ4 S4.length F4 H4 E (whileL mt mb m env4 S4), fun σ4 H4 h => ⟨m, Nat.lt_succ_self _, h⟩, ρ3, F3, S3, env2, L3, R2.mono z3, ?_⟩
        dsimp only at P2
        have P3 := PostS.step z3 P2
        cases hbd : mb env2 S3 with
        | next e S4 =>
          rw [hbd] at P3
          exact fun σ4 ρ4 F4 H4 z4 L4 R4 => ⟨ρ4, F4, S4, e, L4, R4, PostS.step z4 P3⟩
        | cont e S4 =>
          rw [hbd] at P3
          exact fun σ4 ρ4 F4 H4 z4 L4 R4 => ⟨ρ4, F4, S4, e, L4, R4, PostS.step z4 P3⟩
        | _ =>
          rw [hbd] at P3
          exact P3
/-! o[i] = e -/
def putIx (o i w : W) (S : Store) : Option Store := match o, i with
  | .o n, .d (.int k) => match S[n]? with
    | some (.lst ws) => match ixN ws.length k with
      | some j => some (S.set n (.lst (ws.set j w)))
      | none => none
    | _ => none
  | _, _ => none
theorem paired_set {α β : Type} {A : α → β → Prop} {a : α} {b : β} (h : A a b) : ∀ {l : List α} {m : List β} (i : Nat), Paired A l m → Paired A (l.set i a) (m.set i b)
  | _, _, _, .nil => .nil
  | _, _, 0, .cons _ t => .cons h t
  | _, _, i + 1, .cons q t => .cons q (paired_set h i t)
theorem setix_ok {o i e : Expr} {mo mi me : EnvM → Store → R W} {pos p2 : Pos} (hx : (match i with | .Slice _ _ _ _ => false | _ => true) = true) (hs : swapsWithSole [.Subscript o i p2] e pos.line X.env = pure false) (ho : PE X o (tE g wx mo)) (hi : PE X i (tE g wx mi)) (he : PE X e (tE g wx me)) :
    PS X (.Assign [.Subscript o i p2] e pos) (tS g wx fun env S => RS.ofR env (me env S) fun w S1 => RS.ofR env (mo env S1) fun a S2 => RS.ofR env (mi env S2) fun k S3 => match putIx a k w S3 with
      | some S4 => .next env S4
      | none => .bad) := by
  refine ps_mono (ps_asg he (pg_sub ho hi set_list (by intro _; rw [assign]; cases i <;> first | rfl | cases hx)) hs (by unfold swappedStores; cases e <;> rfl) rfl) ?_
  rintro E σ H ⟨ρ, F, S, env, L, R, P⟩
  refine ⟨ρ, F, S, env, L, R, PostS.ofR R P fun w S1 v ρ1 F1 H1 q1 z1 L1 r1 P1 => ?_⟩
  refine ⟨ρ1, F1, S1, env, L1, R.mono z1, PostS.ofR (R.mono z1) P1 fun a S2 va ρ2 F2 H2 q2 z2 L2 r2 P2 => ?_⟩
  refine ⟨ρ2, F2, S2, env, L2, (R.mono z1).mono z2, PostS.ofR ((R.mono z1).mono z2) P2 fun k S3 vk ρ3 F3 H3 q3 z3 L3 r3 P3 => ?_⟩
  split at P3
  · rename_i S4 hput
    unfold putIx at hput
    split at hput
    · rename_i n kk
      split at hput
      · rename_i ws hws
        split at hput
        · rename_i j hj
          cases hput
          have r2' : RepW g ρ3 S3.length F3 H3 va (.o n) := RepW.mono z3 r2
          have rw' : RepW g ρ3 S3.length F3 H3 v w := RepW.mono z3 (RepW.mono z2 r1)
          obtain ⟨vs, h1, h2⟩ := L3.at_ n _ hws
          cases r3
          have hn := r2'.1
          have ev := r2'.2
          subst ev
          refine ⟨_, vs, kk, j, rfl, rfl, h1, by rw [paired_len h2]; exact hj, ?_⟩
          have zs := gr_set (c := .lst (ws.set j w)) (o := .lst (vs.set j v)) L3 hws rfl
          exact P3 σ ρ3 F3 _ zs (rl_set L3 hws rfl ⟨_, upd_same, RepWs.mono zs (paired_set rw' j h2)⟩) ((((R.mono z1).mono z2).mono z3).mono zs)
        · cases hput
      · cases hput
    · cases hput
  · exact P3.elim
end
end Mi

namespace Mi
open PySem L2

/-! ### forms of calls -/
def isStar : Expr → Bool
  | .Starred _ _ => true
  | _ => false
def noStar (es : List Expr) : Bool := es.all fun e => !isStar e
theorem star_cons {e : Expr} (h : isStar e = false) (es : List Expr) (env : Env) : starEach (e :: es) env = (false, eval e env) :: starEach es env := by
  cases e <;> first | rfl | cases h
theorem noStar_any : ∀ {es : List Expr} (h : noStar es = true) (env : Env) (pos : Pos), (backTo pos (starEach es env)).any (·.1) = false
  | [], _, _, _ => rfl
  | e :: es, h, env, pos => by
    simp only [noStar, List.all_cons, Bool.and_eq_true, Bool.not_eq_true'] at h
    rw [star_cons h.1]
    have ih := noStar_any (es := es) h.2 env pos
    show (false || (backTo pos (starEach es env)).any (·.1)) = false
    rw [ih]
    rfl
theorem noStar_all : ∀ {es : List Expr} (h : noStar es = true) (env : Env) (pos : Pos), (backTo pos (starEach es env)).all (fun x => !x.1) = true
  | [], _, _, _ => rfl
  | e :: es, h, env, pos => by
    simp only [noStar, List.all_cons, Bool.and_eq_true, Bool.not_eq_true'] at h
    rw [star_cons h.1]
    have ih := noStar_all (es := es) h.2 env pos
    show (true && (backTo pos (starEach es env)).all (fun x => !x.1)) = true
    rw [ih]
    rfl
def kwNames (kws : List Keyword) : List Str := kws.filterMap (·.arg)
def kwOk (kws : List Keyword) : Bool := kws.all (·.arg.isSome)
theorem kw_all : ∀ {kws : List Keyword} (h : kwOk kws = true) (env : Env) (pos : Pos), (backToKw pos (keywordEach kws env)).all (·.1.isSome) = true ∧ (backToKw pos (keywordEach kws env)).filterMap (·.1) = kwNames kws ∧ (backToKw pos (keywordEach kws env)).any (·.1.isNone) = false ∧ (kwNames kws).length = kws.length
  | [], _, _, _ => ⟨rfl, rfl, rfl, rfl⟩
  | ⟨nm, e, p⟩ :: kws, h, env, pos => by
    simp only [kwOk, List.all_cons, Bool.and_eq_true] at h
    obtain ⟨h1, h2, h3, h4⟩ := kw_all (kws := kws) h.2 env pos
    cases nm with
    | none => cases h.1
    | some x =>
      refine ⟨?_, ?_, ?_, ?_⟩
      · show (true && (backToKw pos (keywordEach kws env)).all (·.1.isSome)) = true
        rw [h1]
        rfl
      · show x :: (backToKw pos (keywordEach kws env)).filterMap (·.1) = x :: kwNames kws
        rw [h2]
      · show (false || (backToKw pos (keywordEach kws env)).any (·.1.isNone)) = false
        rw [h3]
        rfl
      · show (kwNames kws).length + 1 = kws.length + 1
        rw [h4]
def notBase : Expr → Bool
  | .Call (.Name _ _) [] [] _ => false
  | _ => true
theorem base_eq {o : Expr} (h : notBase o = true) (m : Str) (env : Env) : attributeBase o m env (eval o env) = eval o env := by
  unfold attributeBase
  split
  · cases h
  · rfl
def fewForm (es : List Expr) (kws : List Keyword) : Bool := noStar es && kwOk kws && decide (es.length + kws.length + (if kws.isEmpty then 0 else 1) < 30)
theorem kwe_empty (kws : List Keyword) (env : Env) (pos : Pos) : (backToKw pos (keywordEach kws env)).isEmpty = kws.isEmpty := by
  cases kws with
  | nil => rfl
  | cons k r =>
    obtain ⟨a, b, c⟩ := k
    rfl
theorem form_eq {es : List Expr} {kws : List Keyword} (h : fewForm es kws = true) (env : Env) (pos : Pos) : methodCallForm (es.length + kws.length) (backTo pos (starEach es env)) (backToKw pos (keywordEach kws env)) = true := by
  simp only [fewForm, Bool.and_eq_true, decide_eq_true_eq] at h
  unfold methodCallForm
  rw [noStar_all h.1.1, (kw_all h.1.2 env pos).1, kwe_empty]
  simpa using h.2
theorem mcall_eq {o : Expr} {m : Str} {apos pos : Pos} {es : List Expr} {kws : List Keyword} {env : Env} (hb : notBase o = true) (hf : fewForm es kws = true) (hl : (apos.endLine == pos.line) = true) :
    eval (.Call (.Attribute o m apos) es kws pos) env = (do
      let ov ← eval o env
      standAt apos.atName
      let (f, first) ← holding [ov] (getMethod ov m (do return (← importBound o env).getD true))
      callWith pos f first (backTo pos (starEach es env)) (backToKw pos (keywordEach kws env))) := by
  rw [eval, base_eq hb]
  have e1 := form_eq hf env pos
  have e2 : methodCallPos true o env apos pos = pure pos := by
    unfold methodCallPos
    exact if_pos (by rw [hl, Bool.or_true])
  unfold methodCall calleeOf
  rw [e1, e2]
  simp only [pure_bind, if_true]

section
variable {g : Gx} {G : GTab} {ow : Own} {X : Cx} {c : Ctx} {wx : WX}
theorem Post.wish {σ : L2.St} {ρ : Nat → Addr} {n : Nat} {F : Addr → Prop} {H : Hp} {Q : VK} {r : R W} (h : Post g wx σ (rpW g) ρ n F H Q r) : Post g (fun c d _ H => wx c d σ H) [] (rpW g) ρ n F H Q r := by
  cases r with
  | ok a S => exact h
  | exc cc fs S => exact h
  | bad => exact h
/-- an own def runs -/
theorem run_own {k : Nat} {f : Addr} {m : List W → List (Str × W) → Store → R W} {pins : List (Addr × Obj)} {σ : L2.St} {H : Hp} {s : Shared} {Q : VK} {us ws : List Value} {vs zs : List V} {ks : List Str} (F : FnM g X.prog X.w X.K X.mg X.base k f m) (hr : Room k X.A) (hg : X.A.guards = some []) (tk : Takes X wx)
    (I : Inv X pins σ H s) (r : Vals vs us) (rz : Vals zs ws)
    (h : ∃ (ρ : Nat → Addr) (F : Addr → Prop) (S : Store) (as bs : List W), Rl g ρ F H S ∧ RepWs g ρ S.length F H vs as ∧ RepWs g ρ S.length F H zs bs ∧ Post g wx σ (rpW g) ρ S.length F H Q (m as (ks.zip bs) S)) :
    wpAny (model X.prog X.w) X.A (call (.ref f) us (ks.zip ws)) (EP X pins σ Q) X.xe s := by
  obtain ⟨ρ, F0, S, as, bs, L, ra, rb, P⟩ := h
  refine wpAny_call (codeAny_mono (F X.A X.stack s H us vs ks ws zs Q (fun c d H => wx c d σ H) hr hg I.env0 r rz ⟨ρ, F0, S, as, bs, L, ra, rb, P.wish⟩) fun r s' hq => ?_)
  cases r with
  | error e => exact tk e s' (XE.of_call I (fun cls d H' h => h) hq)
  | ok fl =>
    cases fl with
    | ret u => exact I.after hq
    | next => exact False.elim hq
    | brk => exact False.elim hq
    | cont => exact False.elim hq
/-- keywords' values -/
def kwEs (kws : List Keyword) : List Expr := kws.map (·.value)
theorem pk_mono {kws : List Keyword} {t t' : TA} (h : PK X kws t) (i : ∀ σ H Q, t' σ H Q → t σ H Q) : PK X kws t' := ⟨fun pos pins s σ H Q I q => h.run pos pins s σ H Q I (i σ H Q q)⟩
theorem pk0_ok : PK X [] (tA g wx fun _ S => .ok [] S) := pk_mono pk_nil fun σ H Q ⟨ρ, F, S, env, L, E, P⟩ => P [] ρ F H Gr.refl L .nil
theorem pk1_ok {e : Expr} {nm : Option Str} {p : Pos} {kws : List Keyword} {m1 : EnvM → Store → R W} {m2 : EnvM → Store → R (List W)} (ha : PE X e (tE g wx m1)) (hb : PK X kws (tA g wx m2)) :
    PK X (⟨nm, e, p⟩ :: kws) (tA g wx fun env S => (m1 env S).bind fun w S1 => (m2 env S1).bind fun ws S2 => .ok (w :: ws) S2) := by
  refine pk_mono (pk_cons ha hb) ?_
  rintro σ H Q ⟨ρ, F, S, env, L, E, P⟩
  refine ⟨ρ, F, S, env, L, E, Post.seq P fun w S1 v ρ1 F1 H1 _ z1 L1 r1 P1 => ?_⟩
  refine ⟨ρ1, F1, S1, env, L1, E.mono z1, Post.seq P1 fun ws S2 vs ρ2 F2 H2 _ z2 L2 r2 P2 => ?_⟩
  exact P2 _ ρ2 F2 H2 Gr.refl L2 (.cons (r1.mono z2) r2)
/-- arguments, keywords, then a call by values; first: a receiver -/
theorem callw_ok {fv : Value} {first : List Value} {pos : Pos} {es : List Expr} {kws : List Keyword} {ma mk : EnvM → Store → R (List W)} (hk : PySem.W.keepIn X.K fv = true) (hs : noStar es = true) (hw : kwOk kws = true) (h0 : es = [] → ∀ env S, ma env S = .ok [] S) (ha : PA X es (tA g wx ma)) (hb : PK X kws (tA g wx mk))
    {m : List W → List W → Store → R W} {pins : List (Addr × Obj)} {s : Shared} {σ : L2.St} {H : Hp} {Q : VK} {Z : Value → Shared → Prop} (I : Inv X pins σ H s) {ρ : Nat → Addr} {F : Addr → Prop} {S : Store} {env : EnvM} (L : Rl g ρ F H S) (E : RepEnv g ρ S.length F H σ env)
    (P : Post g wx σ (rpW g) ρ S.length F H Q ((ma env S).bind fun as S1 => (mk env S1).bind fun bs S2 => m as bs S2))
    (hc : ∀ (us ws : List Value) (vs zs : List V) (s2 : Shared) (H2 : Hp) (ρ2 : Nat → Addr) (F2 : Addr → Prop) (S2 : Store) (as bs : List W), Inv X pins σ H2 s2 → Vals vs us → Vals zs ws → Gr ρ S.length F H ρ2 S2.length F2 H2 → Rl g ρ2 F2 H2 S2 → RepWs g ρ2 S2.length F2 H2 vs as → RepWs g ρ2 S2.length F2 H2 zs bs →
      Post g wx σ (rpW g) ρ2 S2.length F2 H2 Q (m as bs S2) → wpAny (model X.prog X.w) X.A (call fv (first ++ us) ((kwNames kws).zip ws)) Z X.xe s2) :
    wpAny (model X.prog X.w) X.A (callWith pos fv first (backTo pos (starEach es X.env)) (backToKw pos (keywordEach kws X.env))) Z X.xe s := by
  obtain ⟨k1, k2, k3, k4⟩ := kw_all hw X.env pos
  have go : ∀ (us : List Value) (vs : List V) (s1 : Shared) (H1 : Hp) (ρ1 : Nat → Addr) (F1 : Addr → Prop) (S1 : Store) (as : List W), Inv X pins σ H1 s1 → Vals vs us → Gr ρ S.length F H ρ1 S1.length F1 H1 → Rl g ρ1 F1 H1 S1 → RepWs g ρ1 S1.length F1 H1 vs as →
      Post g wx σ (rpW g) ρ1 S1.length F1 H1 Q ((mk env S1).bind fun bs S2 => m as bs S2) →
      wpAny (model X.prog X.w) X.A (evalAll ((backToKw pos (keywordEach kws X.env)).map (·.2))) (fun ks s₂ => X.K.In s₂.heap ∧ wpAny (model X.prog X.w) X.A (call fv (first ++ us) (((backToKw pos (keywordEach kws X.env)).filterMap (·.1)).zip ks)) Z X.xe s₂) X.xe s1 := by
    intro us vs s1 H1 ρ1 F1 S1 as I1 r1 z1 L1 ra P1
    refine thn (hb.run pos pins s1 σ H1 (fun zs H2 => ∃ ρ2 F2 S2 bs, Gr ρ1 S1.length F1 H1 ρ2 S2.length F2 H2 ∧ Rl g ρ2 F2 H2 S2 ∧ RepWs g ρ2 S2.length F2 H2 zs bs ∧ Post g wx σ (rpW g) ρ2 S2.length F2 H2 Q (m as bs S2)) I1 ?_) fun ws s2 ⟨zs, H2, I2, rz, ρ2, F2, S2, bs, z2, L2, rb, P2⟩ => ⟨I2.kIn, ?_⟩
    · exact ⟨ρ1, F1, S1, env, L1, E.mono z1, Post.seq P1 fun bs S2 zs ρ2 F2 H2 _ z2 L2 rb P2 => ⟨ρ2, F2, S2, bs, z2, L2, rb, P2⟩⟩
    · rw [k2]
      exact hc us ws vs zs s2 H2 ρ2 F2 S2 as bs I2 r1 rz (z1.trans z2) L2 (RepWs.mono z2 ra) rb P2
  cases es with
  | nil =>
    refine PySem.W.callWith_KW0 (h₀ := X.base) I.ok.mod.kin hk k1 ?_ (by rw [k3]; rfl)
    rw [h0 rfl] at P
    exact go [] [] s H ρ F S [] I .nil Gr.refl L .nil P
  | cons e es =>
    have hs' := hs
    simp only [noStar, List.all_cons, Bool.and_eq_true, Bool.not_eq_true'] at hs'
    refine PySem.W.callWith_KW (h₀ := X.base) I.ok.mod.kin hk k1 ?_ (by rw [noStar_any hs, k3]; rfl) (star_cons hs'.1 es X.env)
    refine thn (ha.run pos pins s σ H (fun vs H1 => ∃ ρ1 F1 S1 as, Gr ρ S.length F H ρ1 S1.length F1 H1 ∧ Rl g ρ1 F1 H1 S1 ∧ RepWs g ρ1 S1.length F1 H1 vs as ∧ Post g wx σ (rpW g) ρ1 S1.length F1 H1 Q ((mk env S1).bind fun bs S2 => m as bs S2)) I ?_) fun us s1 ⟨vs, H1, I1, r1, ρ1, F1, S1, as, z1, L1, ra, P1⟩ => go us vs s1 H1 ρ1 F1 S1 as I1 r1 z1 L1 ra P1
    exact ⟨ρ, F, S, env, L, E, Post.seq P fun as S1 vs ρ1 F1 H1 _ z1 L1 ra P1 => ⟨ρ1, F1, S1, as, z1, L1, ra, P1⟩⟩
/-- f(e, .., k = v, ..), f an own def or class -/
theorem callown_ok (o : COk g G ow X c wx) {x : Str} {p pos : Pos} {es : List Expr} {kws : List Keyword} {ma mk : EnvM → Store → R (List W)} (hx : G.lookup x = some .own) (hc : c.calm = true) (hg : isGlob c x = true) (hp : plainName x = true) (hs : noStar es = true) (hw : kwOk kws = true)
    (h0 : es = [] → ∀ env S, ma env S = .ok [] S) (ha : PA X es (tA g wx ma)) (hb : PK X kws (tA g wx mk)) :
    PE X (.Call (.Name x p) es kws pos) (tE g wx fun env S => (ma env S).bind fun as S1 => (mk env S1).bind fun bs S2 => ow.fn x as ((kwNames kws).zip bs) S2) := by
  obtain ⟨f, e1, e2, F⟩ := (o.own hc).fn x (own_mem hx)
  refine ⟨fun pins s σ H Q I ⟨ρ, F0, S, env, L, E, P⟩ => ?_⟩
  refine wpAny_Call_Name_kw (ld_glob I (o.glo x hg) e1 ?_ (plainName_ok hp).1)
  refine callw_ok (first := []) e2 hs hw h0 ha hb I L E P fun us ws vs zs s2 H2 ρ2 F2 S2 as bs I2 r1 rz z L2 ra rb P2 => ?_
  exact run_own F (o.rm hc) o.gd o.tk I2 r1 rz ⟨ρ2, F2, S2, as, bs, L2, ra, rb, P2⟩
/-- the class and the fields of a value -/
def fieldsOf (S : Store) : W → Option (Str × List (Str × W))
  | .d (.ins c gs) => some (c, gs.map fun p => (p.1, W.d p.2))
  | .o n => match S[n]? with
    | some (.ins c fs) => some (c, fs)
    | _ => none
  | _ => none
theorem repf_wf {ρ : Nat → Addr} {n : Nat} {F : Addr → Prop} {H : Hp} : ∀ {fs : List (Str × V)} {gs : List (Str × D)}, RepF g F H fs gs → RepWF g ρ n F H fs (gs.map fun p => (p.1, W.d p.2))
  | _, _, .nil => .nil
  | _, _, .cons a r => .cons ⟨rfl, a⟩ (repf_wf r)
theorem wf_repf {ρ : Nat → Addr} {n : Nat} {F : Addr → Prop} {H : Hp} : ∀ {fs : List (Str × V)} {gs : List (Str × D)}, RepWF g ρ n F H fs (gs.map fun p => (p.1, W.d p.2)) → RepF g F H fs gs
  | _, [], h => by cases h; exact .nil
  | (k, v) :: fs, (k2, x) :: gs, h => by
    cases h with
    | cons a b =>
      have e : k = k2 := a.1
      subst e
      exact .cons a.2 (wf_repf b)
  | [], _ :: _, h => by cases h
theorem fields_at {ρ : Nat → Addr} {F : Addr → Prop} {H : Hp} {S : Store} {w : W} {v : V} {cn : Str} {gs : List (Str × W)} (L : Rl g ρ F H S) (r : RepW g ρ S.length F H v w) (h : fieldsOf S w = some (cn, gs)) : ∃ a dx fs, v = .ref a ∧ H a = some (.ins (g.ca cn) dx fs) ∧ RepWF g ρ S.length F H fs gs := by
  cases w with
  | d x =>
    cases x with
    | ins cc hs =>
      cases h
      cases r with
      | ins f e q => exact ⟨_, _, _, rfl, e, repf_wf q⟩
    | _ => cases h
  | o n =>
    unfold fieldsOf at h
    dsimp only at h
    split at h
    · rename_i cc fs e
      cases h
      obtain ⟨dx, vs, h1, h2⟩ := L.at_ n _ e
      exact ⟨_, dx, vs, r.2, h1, h2⟩
    · cases h
  | x => cases h
theorem wf_look {ρ : Nat → Addr} {n : Nat} {F : Addr → Prop} {H : Hp} {f : Str} : ∀ {fs : List (Str × V)} {gs : List (Str × W)}, RepWF g ρ n F H fs gs → (∀ w, gs.lookup f = some w → ∃ v, fs.lookup f = some v ∧ RepW g ρ n F H v w) ∧ (gs.lookup f = none → fs.lookup f = none)
  | _, _, .nil => ⟨fun w h => (nomatch (show (none : Option W) = some w from h)), fun _ => rfl⟩
  | (k, v) :: fs, (k2, x) :: gs, .cons a r => by
    have e : k = k2 := a.1
    subst e
    obtain ⟨h1, h2⟩ := wf_look (f := f) r
    constructor
    · intro w h
      rw [List.lookup_cons] at h ⊢
      cases q : f == k with
      | true => rw [q] at h; cases h; exact ⟨v, rfl, a.2⟩
      | false => rw [q] at h; exact h1 w h
    · intro h
      rw [List.lookup_cons] at h ⊢
      cases q : f == k with
      | true => rw [q] at h; cases h
      | false => rw [q] at h; exact h2 h
/-- o.f -/
def fldW (ow : Own) (f : Str) (w : W) (S : Store) : R W := match fieldsOf S w with
  | some (cn, gs) => if ow.flds.contains (cn, f) then match gs.lookup f with
      | some x => .ok x S
      | none => .bad
    else .bad
  | none => .bad
theorem fld_ok (o : COk g G ow X c wx) {e : Expr} {m : EnvM → Store → R W} {f : Str} {pos : Pos} (hb : notBase e = true) (h : PE X e (tE g wx m)) : PE X (.Attribute e f pos) (tE g wx fun env S => (m env S).bind (fldW ow f)) := by
  refine pe_mono (pe_fld h (base_eq hb f X.env)) ?_
  rintro σ H Q ⟨ρ, F, S, env, L, E, P⟩
  refine ⟨ρ, F, S, env, L, E, Post.seq P fun w S1 v ρ1 F1 H1 _ z L1 r1 P1 => ?_⟩
  unfold fldW at P1
  split at P1
  · rename_i cn gs hf
    split at P1
    · rename_i hm
      split at P1
      · rename_i x hx
        obtain ⟨a, dx, fs, rfl, h1, h2⟩ := fields_at L1 r1 hf
        obtain ⟨c1, c2⟩ := o.ct.fld cn f (List.contains_iff_mem.mp hm)
        rw [← o.K] at c1 c2
        obtain ⟨y, hy, ry⟩ := (wf_look (f := f) h2).1 x hx
        exact ⟨a, _, dx, fs, y, rfl, h1, c1, c2, hy, P1.val L1 ry⟩
      · exact P1.elim
    · exact P1.elim
  · exact P1.elim
/-- o.m(e, .., k = v, ..), an own method -/
def mtOwn (ow : Own) (m : Str) (w : W) (S : Store) : Option Str := match fieldsOf S w with
  | some (cn, gs) => if ow.mts.contains (cn, m) && (gs.lookup m).isNone then some cn else none
  | none => none
theorem methown_ok (o : COk g G ow X c wx) {e : Expr} {me : EnvM → Store → R W} {m : Str} {apos pos : Pos} {es : List Expr} {kws : List Keyword} {ma mk : EnvM → Store → R (List W)} (hc : c.calm = true) (hb : notBase e = true) (hf : fewForm es kws = true) (hl : (apos.endLine == pos.line) = true)
    (h0 : es = [] → ∀ env S, ma env S = .ok [] S) (he : PE X e (tE g wx me)) (ha : PA X es (tA g wx ma)) (hk : PK X kws (tA g wx mk)) :
    PE X (.Call (.Attribute e m apos) es kws pos) (tE g wx fun env S => (me env S).bind fun w S0 => match mtOwn ow m w S0 with
      | some cn => (ma env S0).bind fun as S1 => (mk env S1).bind fun bs S2 => ow.mt cn m (w :: as) ((kwNames kws).zip bs) S2
      | none => .bad) := by
  simp only [fewForm, Bool.and_eq_true] at hf
  have hf' : fewForm es kws = true := by simp only [fewForm, Bool.and_eq_true]; exact hf
  refine ⟨fun pins s σ H Q I ⟨ρ, F0, S, env, L, E, P⟩ => ?_⟩
  refine PySem.W.methodCall_KW (pl := (do return (← importBound e X.env).getD true)) (thn (he.run pins s σ H (fun v H1 => ∃ ρ1 F1 S1 w, Gr ρ S.length F0 H ρ1 S1.length F1 H1 ∧ Rl g ρ1 F1 H1 S1 ∧ RepW g ρ1 S1.length F1 H1 v w ∧ Post g wx σ (rpW g) ρ1 S1.length F1 H1 Q (match mtOwn ow m w S1 with
      | some cn => (ma env S1).bind fun as S1 => (mk env S1).bind fun bs S2 => ow.mt cn m (w :: as) ((kwNames kws).zip bs) S2
      | none => .bad)) I ⟨ρ, F0, S, env, L, E, Post.seq P fun w S1 v ρ1 F1 H1 _ z L1 r1 P1 => ⟨ρ1, F1, S1, w, z, L1, r1, P1⟩⟩) fun u s1 ⟨v, H1, I1, rv, ρ1, F1, S1, w, z1, L1, r1, P1⟩ => ?_) (mcall_eq hb hf' hl)
  split at P1
  · rename_i cn hm
    unfold mtOwn at hm
    split at hm
    · rename_i cn' gs hfs
      split at hm
      · rename_i hcc
        cases hm
        simp only [Bool.and_eq_true, Option.isNone_iff_eq_none] at hcc
        obtain ⟨a, dx, fs, rfl, h1, h2⟩ := fields_at L1 r1 hfs
        obtain ⟨f, M, F⟩ := (o.own hc).mt cn m (List.contains_iff_mem.mp hcc.1)
        have hcl := (o.own hc).cls cn m (List.contains_iff_mem.mp hcc.1)
        obtain rfl : u = Value.ref a := rv
        refine getmeth_ok I1 h1 hcl M ((wf_look (f := m) h2).2 hcc.2) ?_
        refine callw_ok (first := [.ref a]) (m := fun as bs S2 => ow.mt cn m (w :: as) ((kwNames kws).zip bs) S2) M.kp hf.1.1 hf.1.2 h0 ha hk I1 L1 (E.mono z1) P1 fun us ws vs zs s2 H2 ρ2 F2 S2 as bs I2 q1 rz z L2 ra rb P2 => ?_
        exact run_own F (o.rm hc) o.gd o.tk I2 (Paired.cons (show RelV (V.ref a) (Value.ref a) from rfl) q1) rz ⟨ρ2, F2, S2, w :: as, bs, L2, .cons (r1.mono z) ra, rb, P2⟩
      · cases hm
    · cases hm
  · exact P1.elim
/-- o.f = e -/
def putF' (f : Str) (w : W) : List (Str × W) → List (Str × W)
  | [] => [(f, w)]
  | (k, x) :: r => if k = f then (k, w) :: r else (k, x) :: putF' f w r
theorem putF_wf {ρ : Nat → Addr} {n : Nat} {F : Addr → Prop} {H : Hp} {f : Str} {v : V} {w : W} (h : RepW g ρ n F H v w) : ∀ {fs : List (Str × V)} {gs : List (Str × W)}, RepWF g ρ n F H fs gs → RepWF g ρ n F H (putF f v fs) (putF' f w gs)
  | _, _, .nil => .cons ⟨rfl, h⟩ .nil
  | (k, x) :: fs, (k2, y) :: gs, .cons a r => by
    have e : k = k2 := a.1
    subst e
    unfold putF putF'
    by_cases q : k = f
    · rw [if_pos q, if_pos q]
      exact .cons ⟨rfl, h⟩ r
    · rw [if_neg q, if_neg q]
      exact .cons a (putF_wf h r)
def putFld (ow : Own) (f : Str) (o w : W) (S : Store) : Option Store := match o with
  | .o n => match S[n]? with
    | some (.ins cn gs) => if ow.flds.contains (cn, f) && decide (gs.length < 1000) then some (S.set n (.ins cn (putF' f w gs))) else none
    | _ => none
  | _ => none
theorem noswapA {e : Expr} (o : Expr) (f : Str) (p : Pos) (l : Nat) (env : Env) : swapsWith e (some (.Attribute o f p)) l env = pure false := by
  cases e <;> rfl
theorem setfld_ok (o : COk g G ow X c wx) {a e : Expr} {mo me : EnvM → Store → R W} {f : Str} {p pos : Pos} (ho : PE X a (tE g wx mo)) (he : PE X e (tE g wx me)) :
    PS X (.Assign [.Attribute a f p] e pos) (tS g wx fun env S => RS.ofR env (me env S) fun w S1 => RS.ofR env (mo env S1) fun x S2 => match putFld ow f x w S2 with
      | some S3 => .next env S3
      | none => .bad) := by
  refine ps_mono (ps_fld ho he (noswapA a f p _ _)) ?_
  rintro E σ H ⟨ρ, F, S, env, L, R, P⟩
  refine ⟨ρ, F, S, env, L, R, PostS.ofR R P fun w S1 v ρ1 F1 H1 q1 z1 L1 r1 P1 => ?_⟩
  refine ⟨ρ1, F1, S1, env, L1, R.mono z1, PostS.ofR (R.mono z1) P1 fun x S2 va ρ2 F2 H2 q2 z2 L2 r2 P2 => ?_⟩
  split at P2
  · rename_i S3 hput
    unfold putFld at hput
    split at hput
    · rename_i n
      split at hput
      · rename_i cn gs hg
        split at hput
        · rename_i hcc
          cases hput
          simp only [Bool.and_eq_true, decide_eq_true_eq] at hcc
          obtain ⟨dx, vs, h1, h2⟩ := L2.at_ n _ hg
          obtain ⟨c1, c2⟩ := o.ct.fld cn f (List.contains_iff_mem.mp hcc.1)
          rw [← o.K] at c1 c2
          have hn := r2.1
          have ev := r2.2
          subst ev
          refine ⟨_, _, dx, vs, rfl, h1, c1, c2, by rw [paired_len h2]; exact hcc.2, ?_⟩
          have zs := gr_set (c := .ins cn (putF' f w gs)) (o := .ins (g.ca cn) dx (putF f v vs)) L2 hg rfl
          exact P2 σ ρ2 F2 _ zs (rl_set L2 hg rfl ⟨dx, _, upd_same, RepWF.mono zs (putF_wf (RepW.mono z2 r1) h2)⟩) (((R.mono z1).mono z2).mono zs)
        · cases hput
      · cases hput
    · cases hput
  · exact P2.elim
end
end Mi

namespace Mi
open PySem L2 PySem.Spec PyProof.Rows

/-! ### try with several clauses, each with or without a name -/
abbrev Suit := Addr → Value → Option Addr → TS
/-- the ends of a named suite: the name's slot goes -/
def endsAs (i : Option Nat) (D : Ends) : Ends := match i with
  | none => D
  | some i => { nx := fun τ G => D.nx (τ.set i none) G, rt := D.rt, bk := fun τ G => D.bk (τ.set i none) G, ct := fun τ G => D.ct (τ.set i none) G }
def putAs (i : Option Nat) (a : Addr) (τ : L2.St) : L2.St := match i with
  | none => τ
  | some i => τ.set i (some (.ref a))
def wCl (K : PySem.W.Frag) (Wo : WX) (D : Ends) : List (Value × Option Nat × Suit) → WX
  | [] => Wo
  | (k, i, ts) :: l => fun cls d τ G => ∃ b, PySem.W.exmOne K cls k = some b ∧ (b = true → ∀ a, G a = none → ts a cls d (endsAs i D) (putAs i a τ) G) ∧ (b = false → wCl K Wo D l cls d τ G)
def SuitOk (X : Cx) (suite : List Stmt) (ts : Suit) : Prop := ∀ (a : Addr) (oe : Obj) (cls : Value) (d : Option Addr) (pn : List (Addr × Obj)), Zc cls d oe → (∃ vs, oe.data = .fields vs) → PSs (X.suite a ((a, oe) :: pn)) suite (ts a cls d)
inductive ClsOk (X : Cx) : List ExceptHandler → List (Value × Option Nat × Suit) → Prop
  | nil : ClsOk X [] []
  | bare {x : Str} {k : Value} {ts : Suit} {b0 : Stmt} {su : List Stmt} {np hp : Pos} {hs : List ExceptHandler} {l : List (Value × Option Nat × Suit)} : Names X x k → SuitOk X (b0 :: su) ts → ClsOk X hs l →
      ClsOk X (.ExceptHandler (some (.Name x np)) none (b0 :: su) hp :: hs) ((k, none, ts) :: l)
  | named {x n : Str} {i : Nat} {k : Value} {ts : Suit} {b0 : Stmt} {su : List Stmt} {np hp : Pos} {hs : List ExceptHandler} {l : List (Value × Option Nat × Suit)} : Names X x k → X.N.Nodup → X.N[i]? = some n → X.env.kindOf n = some .local → SuitOk X (b0 :: su) ts → ClsOk X hs l →
      ClsOk X (.ExceptHandler (some (.Name x np)) (some n) (b0 :: su) hp :: hs) ((k, some i, ts) :: l)
section
variable {X : Cx}
/-- what stands when an exception has landed at a try -/
structure Landed (X : Cx) (pins : List (Addr × Obj)) (τ : L2.St) (G : Hp) (B : Heap) (sI s' : Shared) (a : Addr) (cls : Value) (d : Option Addr) (h3 : Heap) : Prop where
  st : X.stack = X.env :: X.outer
  fr : X.env.frame = some X.env.locals
  inv : Inv X pins τ G sI
  ground : ∀ b o, sI.heap.get? b = some o → b ∉ frs X.stack → B.get? b = some o
  up : sI.heap.UpToSlots h3
  fly : HandSPX.FlyingZ B (X.env :: X.outer) a (Zc cls d) h3
  out : G a = none
  os : s'.os = sI.os
  bare : AllBare s'.gens
variable {pins : List (Addr × Obj)} {τ : L2.St} {G : Hp} {B : Heap} {sI s' : Shared} {a : Addr} {cls : Value} {d : Option Addr} {h3 : Heap}
theorem Landed.far (y : Landed X pins τ G B sI s' a cls d h3) {o : Obj} {us : Array Value} (e : h3.get? a = some o) (q : o.data = .fields us) : a ≠ X.env.locals ∧ a ∉ X.fs := by
  have nf : a ∉ frs (X.env :: X.outer) := fun m => by
    obtain ⟨_, o1, e1, n1⟩ := y.fly.2.2.1.mem m
    rw [e] at e1
    cases e1
    exact n1 _ q
  refine ⟨fun z => nf (List.mem_filterMap.mpr ⟨X.env, List.mem_cons_self, ?_⟩), fun m => ?_⟩
  · rw [y.fr, z]
  · obtain ⟨e1, m1, q1⟩ := List.mem_filterMap.mp m
    exact nf (List.mem_filterMap.mpr ⟨e1, List.mem_cons_of_mem _ m1, q1⟩)
theorem Landed.here (y : Landed X pins τ G B sI s' a cls d h3) : Inv X pins τ G { s' with heap := h3 } := y.inv.landed y.ground y.fly.1 y.up y.os y.bare
theorem Landed.next (y : Landed X pins τ G B sI s' a cls d h3) {h4 : Heap} (f : HandSPX.FlyingZ B (X.env :: X.outer) a (Zc cls d) h4) (u : h3.UpToSlots h4) : Landed X pins τ G B sI s' a cls d h4 := { y with up := y.up.trans u, fly := f }
/-- the clause's class is asked -/
theorem Landed.test (y : Landed X pins τ G B sI s' a cls d h3) {x : Str} {k : Value} {np hp : Pos} {b : Bool} {R : Result → Shared → Prop} (hk : Names X x k) (hb : PySem.W.exmOne X.K cls k = some b) (q : R (.ok (if b then .brk else .next)) { s' with heap := h3 }) :
    codeAny (model X.prog X.w) (X.A.mark (some (.ref a))) (.handlers (.ref a) [.ExceptHandler (some (.Name x np)) none [] hp] X.env) R { s' with heap := h3 } := by
  obtain ⟨oe, us, e, z, dd⟩ := y.fly.there
  obtain ⟨f1, f2⟩ := y.far e dd
  have I3 := y.here
  have I4 := I3.suite e dd y.out f1 f2
  have ty : PySem.W.Looks (model X.prog X.w) h3 (typeOf (.ref a)) cls := fun A1 Q1 E1 s1 k1 q1 => wpAny_typeOf_ref (k1 _ _ e) (by rw [z.1]; exact q1)
  have lm := PySem.W.exm_one (M := model X.prog X.w) I3.kIn ty hb
  refine codeAny_handlers_test ?_
  obtain ⟨g1, g2, g3⟩ := hk
  rcases g3 with g3 | ⟨g3, g4, g5⟩
  · exact ld_glob (X := X.suite a ((a, oe) :: (X.pn ++ pins))) I4 g1 g3 (lm.here q) g2
  · exact ld_blt (X := X.suite a ((a, oe) :: (X.pn ++ pins))) I4 g1 g3 g4 (lm.here q) g5 g2
/-- no clause takes it: it flies on -/
theorem Landed.pass (y : Landed X pins τ G B sI s' a cls d h3) {Wo : WX} (tk : Takes X Wo) {D : Ends} (hw : Wo cls d τ G) : wpAny (model X.prog X.w) X.A (handleBy (.ref a) X.env []) (SP X pins D) X.xe { s' with heap := h3 } := by
  refine wpAny_handleBy_nil ?_
  obtain ⟨_, _, _, oe, us, T, _, _, e, _, dd, e1, _⟩ := id y.fly
  have on : wpAny (model X.prog X.w) X.A (setFlight (.ref a) X.env.frame) (fun _ s4 => wpAny (model X.prog X.w) X.A (throw (.ref a) : Sem Flow) (SP X pins D) X.xe s4) X.xe { s' with heap := h3 } := by
    rw [y.fr]
    refine HandSPX.setFlight_upZ y.fly fun h4 w4 u4 => wpAny_throw (tk _ _ ⟨a, B, sI, pins, τ, G, cls, d, rfl, y.inv, y.ground, y.up.trans u4, .inr (.inr ?_), y.out, y.os, y.bare, hw⟩)
    rw [y.st]
    exact w4
  unfold PySem.passOn
  refine wpAny_bind (wpAny_field e dd e1 ?_)
  have nn : ¬ ((Value.ref T == Value.none) = true) := by simp
  rw [if_neg nn]
  first
    | exact wpAny_bind on
    | exact wpAny_bind (wpAny_pure (wpAny_bind on))
theorem unsuit {q : Addr × Obj} {D : Ends} {f : Flow} {s6 : Shared} (ok : X.Ok) (h : SP (X.suite a (q :: (X.pn ++ pins))) [] D f s6) : SP X pins D f s6 := by
  cases f with
  | ret u => exact match h with | ⟨v, t6, G6, J6, r6, q6⟩ => ⟨v, t6, G6, J6.unsuite ok, r6, q6⟩
  | next => exact match h with | ⟨t6, G6, J6, q6⟩ => ⟨t6, G6, J6.unsuite ok, q6⟩
  | brk => exact match h with | ⟨t6, G6, J6, q6⟩ => ⟨t6, G6, J6.unsuite ok, q6⟩
  | cont => exact match h with | ⟨t6, G6, J6, q6⟩ => ⟨t6, G6, J6.unsuite ok, q6⟩
theorem Landed.clauses {Wo : WX} (tk : Takes X Wo) {D : Ends} : ∀ {hs : List ExceptHandler} {l : List (Value × Option Nat × Suit)}, ClsOk X hs l → ∀ {h3 : Heap}, Landed X pins τ G B sI s' a cls d h3 → wCl X.K Wo D l cls d τ G →
    wpAny (model X.prog X.w) X.A (handleBy (.ref a) X.env hs) (SP X pins D) X.xe { s' with heap := h3 } := by
  intro hs l hl
  induction hl with
  | nil => exact fun y hw => y.pass tk hw
  | @bare x k ts b0 su np hp hs l hk hsu _ ih =>
    intro h3 y ⟨b, hb, yes, no⟩
    refine wpAny_handleBy_cons (y.test hk hb ?_) (fun z => by cases z)
    cases b with
    | false => exact ih y (no rfl)
    | true =>
      refine codeAny_handlers_suite (HandSPX.lands_againZ y.fly fun h4 f4 u4 => ?_)
      have y4 := y.next f4 u4
      obtain ⟨oe, us, e, z, dd⟩ := f4.there
      obtain ⟨g1, g2⟩ := y4.far e dd
      exact wpAny_mono ((hsu a oe cls d (X.pn ++ pins) z ⟨_, dd⟩).run [] _ _ G _ (y4.here.suite e dd y.out g1 g2) (yes rfl a y.out)) (fun f s6 r => unsuit y.inv.ok r) fun _ _ z => False.elim z
  | @named x n i k ts b0 su np hp hs l hk hN hi hn hsu _ ih =>
    intro h3 y ⟨b, hb, yes, no⟩
    refine wpAny_handleBy_cons (y.test hk hb ?_) (fun z => by cases z)
    cases b with
    | false => exact ih y (no rfl)
    | true =>
      refine codeAny_handlers_suite_as (HandSPX.lands_againZ y.fly fun h4 f4 u4 => ?_)
      have y4 := y.next f4 u4
      obtain ⟨oe, us, e, z, dd⟩ := f4.there
      obtain ⟨g1, g2⟩ := y4.far e dd
      refine store_ok (X := X.suite a ((a, oe) :: (X.pn ++ pins))) (v := .ref a) (y4.here.suite e dd y.out g1 g2) hN hi (.inl hn) rfl (fun s5 I5 => ?_) (.inr hn)
      refine wpAny_mono ((hsu a oe cls d (X.pn ++ pins) z ⟨_, dd⟩).run [] s5 _ G _ I5 (yes rfl a y.out)) (fun f s6 r => ?_) fun _ _ z => False.elim z
      have r1 := unsuit y.inv.ok r
      cases f with
      | ret u => exact match r1 with | ⟨v, t6, G6, J6, r6, q6⟩ => gone_ok J6 hN hi hn fun s7 J7 => ⟨v, _, G6, J7, r6, q6⟩
      | next => exact match r1 with | ⟨t6, G6, J6, q6⟩ => gone_ok J6 hN hi hn fun s7 J7 => ⟨_, G6, J7, q6⟩
      | brk => exact match r1 with | ⟨t6, G6, J6, q6⟩ => gone_ok J6 hN hi hn fun s7 J7 => ⟨_, G6, J7, q6⟩
      | cont => exact match r1 with | ⟨t6, G6, J6, q6⟩ => gone_ok J6 hN hi hn fun s7 J7 => ⟨_, G6, J7, q6⟩
theorem ofTryS {pn : List (Addr × Obj)} {xe : Value → Shared → Prop} {D : Ends} {f : Flow} {s1 : Shared} (ok : X.Ok) (h : SP (X.tr (X.pn ++ pins) xe) [] D f s1) : SP X pins D f s1 := by
  cases f with
  | ret u => exact match h with | ⟨v, t6, G6, J6, r6, q6⟩ => ⟨v, t6, G6, J6.ofTry ok, r6, q6⟩
  | next => exact match h with | ⟨t6, G6, J6, q6⟩ => ⟨t6, G6, J6.ofTry ok, q6⟩
  | brk => exact match h with | ⟨t6, G6, J6, q6⟩ => ⟨t6, G6, J6.ofTry ok, q6⟩
  | cont => exact match h with | ⟨t6, G6, J6, q6⟩ => ⟨t6, G6, J6.ofTry ok, q6⟩
/-- a try whose body may raise what the clauses name -/
theorem ps_try {body : List Stmt} {h0 : ExceptHandler} {hs : List ExceptHandler} {l : List (Value × Option Nat × Suit)} {pos : Pos} {tb : WX → TS} {Wo : WX} (st : X.stack = X.env :: X.outer) (fr : X.env.frame = some X.env.locals) (tk : Takes X Wo)
    (hb : ∀ (Wi : WX) (pn : List (Addr × Obj)) (xe : Value → Shared → Prop), Takes (X.tr pn xe) Wi → PassesOwn (model X.prog X.w) X.A X.env xe → PSs (X.tr pn xe) body (tb Wi))
    (hl : ClsOk X (h0 :: hs) l) : PS X (.Try body (h0 :: hs) [] [] pos) (fun D τ G => tb (wCl X.K Wo D l) D τ G) := by
  refine ⟨fun pins s τ G D I q => wpAny_Try_except ?_⟩
  have ok := I.ok
  have run := (hb (wCl X.K Wo D l) (X.pn ++ pins) (fun e s1 => wpAny (model X.prog X.w) X.A (noteFrame e X.env) (fun _ s2 => wpAny (model X.prog X.w) X.A (setFlight e none) (fun _ s3 =>
    wpAny (model X.prog X.w) X.A (handleBy e X.env (h0 :: hs)) (SP X pins D) X.xe s3) X.xe s2) X.xe s1) (fun u s1 xx => ?_) PassesOwn.looking).run [] s τ G D (I.toTry _) q
  · refine wpAny_mono run (fun f s1 r => ?_) fun _ _ z => z
    have r1 := ofTryS (pn := []) ok r
    cases f with
    | next => exact wpAny_execs_nil r1
    | ret u => exact r1
    | brk => exact r1
    | cont => exact r1
  · obtain ⟨a, B, sI, _, t1, G1, cls, d, rfl, J1, nb, up, sky, na, os, ag, w⟩ := xx
    have hfr : X.A.frames = some (X.env :: X.outer) := by rw [ok.frames, st]
    rw [show (X.tr (X.pn ++ pins) _).stack = X.env :: X.outer from st] at sky
    refine Sky.land Zc.steady hfr fr sky fun h3 f3 u3 => ?_
    exact Landed.clauses tk hl ⟨st, fr, J1.ofTry ok, nb, up.trans u3, f3, na, os, ag⟩ w
end
end Mi

namespace Mi
open PySem L2 PySem.Spec PyProof.Rows

/-! ### an exception is held, and let go -/
def Gx.hold (g : Gx) (y : Option Xa) : Gx := { g with xa := y }
mutual
theorem Rep.hold {g : Gx} {F : Addr → Prop} {H : Hp} (y : Option Xa) : ∀ {v : V} {x : D}, Rep g F H v x → Rep (g.hold y) F H v x
  | _, _, .non => .non
  | _, _, .bl b => .bl b
  | _, _, .int i => .int i
  | _, _, .str x => .str x
  | _, _, .tup f h r => .tup f h (Reps.hold y r)
  | _, _, .tupK h r => .tupK h (Reps.hold y r)
  | _, _, .lst f h r => .lst f h (Reps.hold y r)
  | _, _, .scr f h => .scr f h
  | _, _, .ins f h r => .ins f h (RepF.hold y r)
theorem Reps.hold {g : Gx} {F : Addr → Prop} {H : Hp} (y : Option Xa) : ∀ {vs : List V} {xs : List D}, Reps g F H vs xs → Reps (g.hold y) F H vs xs
  | _, _, .nil => .nil
  | _, _, .cons a r => .cons (Rep.hold y a) (Reps.hold y r)
theorem RepF.hold {g : Gx} {F : Addr → Prop} {H : Hp} (y : Option Xa) : ∀ {vs : List (Str × V)} {xs : List (Str × D)}, RepF g F H vs xs → RepF (g.hold y) F H vs xs
  | _, _, .nil => .nil
  | _, _, .cons a r => .cons (Rep.hold y a) (RepF.hold y r)
end
def W.nox : W → Bool
  | .x _ _ => false
  | _ => true
def Cell.nox : Cell → Bool
  | .lst ws => ws.all W.nox
  | .ins _ fs => fs.all fun p => p.2.nox
  | .dead => true
def noxS (S : Store) : Bool := S.all Cell.nox
def noxE (e : EnvM) : Bool := e.all fun o => match o with
  | some w => w.nox
  | none => true
section
variable {g : Gx} {ρ : Nat → Addr} {n : Nat} {F : Addr → Prop} {H : Hp} {S : Store}
theorem ExcR.hold {fs : List (Str × D)} (y : Option Xa) : ∀ {d : Option Addr}, ExcR g F H fs d → ExcR (g.hold y) F H fs d
  | none, h => h
  | some a, ⟨vs, h1, h2, h3⟩ => ⟨vs, h1, h2, h3.hold y⟩
theorem RepW.hold (y : Option Xa) {v : V} {w : W} (h : RepW g ρ n F H v w) (k : w.nox = true) : RepW (g.hold y) ρ n F H v w := by
  cases w with
  | d x => exact Rep.hold y h
  | o i => exact h
  | x => cases k
theorem RepW.nox (hg : g.xa = none) {v : V} {w : W} (h : RepW g ρ n F H v w) : w.nox = true := by
  cases w with
  | x =>
    obtain ⟨z, hz, _⟩ := h
    rw [hg] at hz
    cases hz
  | _ => rfl
theorem ws_hold (y : Option Xa) : ∀ {vs : List V} {ws : List W}, RepWs g ρ n F H vs ws → ws.all W.nox = true → RepWs (g.hold y) ρ n F H vs ws
  | _, _, .nil, _ => .nil
  | _, _, .cons a r, k => by
    rw [List.all_cons, Bool.and_eq_true] at k
    exact .cons (a.hold y k.1) (ws_hold y r k.2)
theorem wf_hold (y : Option Xa) : ∀ {vs : List (Str × V)} {ws : List (Str × W)}, RepWF g ρ n F H vs ws → (ws.all fun p => p.2.nox) = true → RepWF (g.hold y) ρ n F H vs ws
  | _, _, .nil, _ => .nil
  | _, _, .cons a r, k => by
    rw [List.all_cons, Bool.and_eq_true] at k
    exact .cons ⟨a.1, a.2.hold y k.1⟩ (wf_hold y r k.2)
theorem ws_nox (hg : g.xa = none) : ∀ {vs : List V} {ws : List W}, RepWs g ρ n F H vs ws → ws.all W.nox = true
  | _, _, .nil => rfl
  | _, _, .cons a r => by rw [List.all_cons, a.nox hg, ws_nox hg r]; rfl
theorem wf_nox (hg : g.xa = none) : ∀ {vs : List (Str × V)} {ws : List (Str × W)}, RepWF g ρ n F H vs ws → (ws.all fun p => p.2.nox) = true
  | _, _, .nil => rfl
  | _, _, .cons a r => by rw [List.all_cons, a.2.nox hg, wf_nox hg r]; rfl
theorem rl_hold (y : Option Xa) (L : Rl g ρ F H S) (k : noxS S = true) : Rl (g.hold y) ρ F H S := by
  refine ⟨fun i c e => ?_, L.inj, L.nf, L.there, L.fth⟩
  have kc := List.all_eq_true.mp k c (List.mem_of_getElem? e)
  have h := L.at_ i c e
  cases c with
  | lst ws =>
    obtain ⟨vs, h1, h2⟩ := h
    exact ⟨vs, h1, ws_hold y h2 kc⟩
  | ins c fs =>
    obtain ⟨dx, vs, h1, h2⟩ := h
    exact ⟨dx, vs, h1, wf_hold y h2 kc⟩
  | dead => exact True.intro
theorem rl_nox (hg : g.xa = none) (L : Rl g ρ F H S) : noxS S = true := by
  refine List.all_eq_true.mpr fun c hc => ?_
  obtain ⟨i, e⟩ := List.mem_iff_getElem?.mp hc
  have h := L.at_ i c e
  cases c with
  | lst ws => exact match h with | ⟨vs, _, h2⟩ => ws_nox hg h2
  | ins c fs => exact match h with | ⟨dx, vs, _, h2⟩ => wf_nox hg h2
  | dead => rfl
theorem env_hold (y : Option Xa) {σ : L2.St} {env : EnvM} (E : RepEnv g ρ n F H σ env) (k : noxE env = true) : RepEnv (g.hold y) ρ n F H σ env := by
  refine ⟨E.1, fun i w e => ?_⟩
  obtain ⟨v, h1, h2⟩ := E.2 i w e
  exact ⟨v, h1, h2.hold y (List.all_eq_true.mp k (some w) (List.mem_of_getElem? e))⟩
theorem env_nox (hg : g.xa = none) {σ : L2.St} {env : EnvM} (E : RepEnv g ρ n F H σ env) : noxE env = true := by
  refine List.all_eq_true.mpr fun o ho => ?_
  cases o with
  | none => rfl
  | some w =>
    obtain ⟨i, e⟩ := List.mem_iff_getElem?.mp ho
    obtain ⟨v, _, h2⟩ := E.2 i w e
    exact h2.nox hg
/-- what a suite may leave -/
def RS.nox : RS → RS
  | .next e S => if noxE e && noxS S then .next e S else .bad
  | .ret w S => if w.nox && noxS S then .ret w S else .bad
  | .brk e S => if noxE e && noxS S then .brk e S else .bad
  | .cont e S => if noxE e && noxS S then .cont e S else .bad
  | _ => .bad
/-- the name of the clause goes -/
def RS.unname (i : Option Nat) : RS → RS
  | .next e S => .next (match i with | some i => e.set i none | none => e) S
  | .brk e S => .brk (match i with | some i => e.set i none | none => e) S
  | .cont e S => .cont (match i with | some i => e.set i none | none => e) S
  | r => r
theorem unset_env {σ : L2.St} {env : EnvM} (E : RepEnv g ρ n F H σ env) (i : Nat) : RepEnv g ρ n F H (σ.set i none) (env.set i none) := by
  refine ⟨by rw [List.length_set, List.length_set, E.1], fun j w e => ?_⟩
  rw [List.getElem?_set] at e
  split at e
  · split at e <;> cases e
  · rename_i ne
    obtain ⟨v, h1, h2⟩ := E.2 j w e
    exact ⟨v, by rw [List.getElem?_set_ne ne]; exact h1, h2⟩
theorem as_env {i : Option Nat} {σ : L2.St} {env : EnvM} (E : RepEnv g ρ n F H σ env) : RepEnv g ρ n F H (match i with | some i => σ.set i none | none => σ) (match i with | some i => env.set i none | none => env) := by
  cases i with
  | none => exact E
  | some i => exact unset_env E i
/-- the suite's end, seen from without -/
theorem PostS.unhold {wx : WX} {D : Ends} {y : Option Xa} {i : Option Nat} (hg : g.xa = none) {r : RS} (P : PostS g wx ρ n F H D ((r.nox).unname i)) : PostS (g.hold y) (fun _ _ _ _ => False) ρ n F H (endsAs i D) r := by
  have back : (g.hold y).hold none = g := by
    cases g
    cases hg
    rfl
  cases r with
  | ret w S =>
    by_cases k : (w.nox && noxS S) = true
    · have P : PostS g wx ρ n F H D (RS.unname i (if (w.nox && noxS S) = true then RS.ret w S else RS.bad)) := P
      rw [if_pos k] at P
      rw [Bool.and_eq_true] at k
      intro v ρ1 F1 H1 z L r1
      have L2 := rl_hold none L k.2
      have r2 := r1.hold none k.1
      rw [back] at L2 r2
      have q := P v ρ1 F1 H1 z L2 r2
      cases i <;> exact q
    · have P : PostS g wx ρ n F H D (RS.unname i (if (w.nox && noxS S) = true then RS.ret w S else RS.bad)) := P
      rw [if_neg k] at P
      exact P.elim
  | next e S =>
    by_cases k : (noxE e && noxS S) = true
    · have P : PostS g wx ρ n F H D (RS.unname i (if (noxE e && noxS S) = true then RS.next e S else RS.bad)) := P
      rw [if_pos k] at P
      rw [Bool.and_eq_true] at k
      intro σ1 ρ1 F1 H1 z L E1
      have L2 := rl_hold none L k.2
      have E2 := env_hold none E1 k.1
      rw [back] at L2 E2
      have q := P _ ρ1 F1 H1 z L2 (as_env (i := i) E2)
      cases i <;> exact q
    · have P : PostS g wx ρ n F H D (RS.unname i (if (noxE e && noxS S) = true then RS.next e S else RS.bad)) := P
      rw [if_neg k] at P
      exact P.elim
  | brk e S =>
    by_cases k : (noxE e && noxS S) = true
    · have P : PostS g wx ρ n F H D (RS.unname i (if (noxE e && noxS S) = true then RS.brk e S else RS.bad)) := P
      rw [if_pos k] at P
      rw [Bool.and_eq_true] at k
      intro σ1 ρ1 F1 H1 z L E1
      have L2 := rl_hold none L k.2
      have E2 := env_hold none E1 k.1
      rw [back] at L2 E2
      have q := P _ ρ1 F1 H1 z L2 (as_env (i := i) E2)
      cases i <;> exact q
    · have P : PostS g wx ρ n F H D (RS.unname i (if (noxE e && noxS S) = true then RS.brk e S else RS.bad)) := P
      rw [if_neg k] at P
      exact P.elim
  | cont e S =>
    by_cases k : (noxE e && noxS S) = true
    · have P : PostS g wx ρ n F H D (RS.unname i (if (noxE e && noxS S) = true then RS.cont e S else RS.bad)) := P
      rw [if_pos k] at P
      rw [Bool.and_eq_true] at k
      intro σ1 ρ1 F1 H1 z L E1
      have L2 := rl_hold none L k.2
      have E2 := env_hold none E1 k.1
      rw [back] at L2 E2
      have q := P _ ρ1 F1 H1 z L2 (as_env (i := i) E2)
      cases i <;> exact q
    · have P : PostS g wx ρ n F H D (RS.unname i (if (noxE e && noxS S) = true then RS.cont e S else RS.bad)) := P
      rw [if_neg k] at P
      exact P.elim
  | exc c fs e S => exact P.elim
  | bad => exact P.elim
end
section
variable {g : Gx} {G : GTab} {ow : Own} {X : Cx} {c : Ctx} {wx : WX}
/-- the context of a suite -/
theorem cok_suite (o : COk g G ow X c wx) (hg : g.xa = none) {a : Addr} {cn : Str} {d : Option Addr} {fs : List (Str × D)} {oe : Obj} {pn : List (Addr × Obj)} (hx : cn ∈ ow.xcs) (hz : Zc (.ref (g.ca cn)) d oe) (hf : ∃ vs, oe.data = .fields vs) :
    COk (g.hold (some ⟨a, cn, d, fs⟩)) G ow (X.suite a ((a, oe) :: pn)) { c with calm := false } (fun _ _ _ _ => False) := by
  have no : ∀ {p : Prop}, false = true → p := fun z => absurd z Bool.false_ne_true
  refine ⟨no, no, o.gd, no, ⟨o.ct.fld, o.ct.xf, o.ct.nm, o.ct.ins, o.ct.xc, fun p q r e => ?_, fun p q e => ?_, fun p q r e => ?_⟩, no, fun y hy => ?_, fun _ => no, o.top, o.K, o.N, o.nd, o.vis, o.loc, o.glo, o.cf, no, o.un, ?_, fun x dd e => ?_, o.bf, o.bt⟩
  · have z := o.ct.isa p q r e
    cases p <;> cases q <;> exact z
  · have z := o.ct.nf p q e
    cases q <;> exact z
  · have z := o.ct.exm p q r e
    cases q <;> exact z
  · cases hy
    exact ⟨hx, oe, List.mem_cons_self, hz, hf⟩
  · rintro u s' ⟨_, _, _, _, _, _, _, _, _, _, _, _, _, _, _, _, z⟩
    exact z
  · obtain ⟨u, v, h1, h2, h3⟩ := o.cst x dd e
    exact ⟨u, v, h1, h2, fun F H => (h3 F H).hold _⟩
end
end Mi

namespace PySem.Mi5
open PySem PySem.W PySem.Calls PyProof.Rows PySem.Spec Builtin Builtin.ObjectAttr

/-! ### an exception's base whose __new__ may be another's (KeyError's is LookupError's) -/
structure XBase (B O nI iI : String) (lB : List Value) : Prop where
  ends : nI.endsWith ".__new__" = true
  owner : nI.dropRight 8 = O
  entry : entryFor table nI = some Builtin.«BaseException.__new__»
  quiet : nI.startsWith "lifetime." = false
  nSplit : splitId nI = some (O, "__new__")
  nKind : builtinKind nI = some .builtinFn
  nRow : Manifest.signature? nI = some ⟨.any, O, O, .cls, [⟨"args", .varPos, false⟩, ⟨"kwargs", .varKw, false⟩]⟩
  nStar : (O != "*") = true
  hasO : lB.contains (.type O) = true
  noA : lB.contains (.type "AttributeError") = false
  noN : lB.contains (.type "NameError") = false
  canon : Manifest.canonical nI = Manifest.canonical "BaseException.__new__"
  init : Slot B "__init__" iI
  iEntry : entryFor table iI = some Builtin.«BaseException.__init__»
  iKind : builtinKind iI = some .slot
  iRow : Manifest.signature? iI = some ⟨.positional, "*", B, .self, [⟨"args", .varPos, false⟩]⟩
  iStar : (B != "*") = true
theorem XBase.of {B nI iI : String} {lB : List Value} (f : ExcBaseFacts B nI iI lB) : XBase B B nI iI lB :=
  ⟨f.ends, f.owner, f.entry, f.quiet, f.newSplit, f.newKind, f.newRow, f.noStar, f.hasB, f.noAttr, f.noName, f.canon, f.init, f.initEntry, f.initKind, f.initRow, f.noStar⟩
section
variable {Mo : Model} {Ar : Around} {Ex : Value → Shared → Prop} {hp : Heap} {gs : Array GenState} {dr : Drawn} {tk : Nat} {osS : OsState}
variable {nm qn : Str} {C Na : Addr} {bs lC lB : List Value} {hdct : Bool} {sn : List Str} {sub : List Value} {ab : Bool} {col : Option Bool} {dd : Option Addr} {k0 k1 k2 k3 k5 : Option Value} {B O nI iI : String}
theorem chk_new (f : XBase B O nI iI lB) (hT : ∀ z : String, lC.contains (.type z) = lB.contains (.type z)) {us : List Value} {Q : Unit → Shared → Prop}
    (gC : hp.get? C = some (excClassObj nm qn C Na bs lC hdct sn sub ab col dd k0 k1 k2 k3 k5 nI)) (hq : Q () ⟨hp, gs, dr, tk, osS⟩) : wpAny Mo Ar (checkBuiltinCall nI ⟨.ref C :: us, []⟩) Q Ex ⟨hp, gs, dr, tk, osS⟩ := by
  have inO : (Value.ref C :: lC).contains (.type O) = true := by rw [List.contains_cons, hT, f.hasO, Bool.or_true]
  have hstar := f.nStar
  simp only [checkBuiltinCall, f.nKind, f.nSplit, f.nRow]
  repeat (first | refine wpAny_loadPart_at gC ?_ | (refine wpAny_isSubtype_exc gC ?_; rw [inO]) | refine wpAny_staticBase_exc gC ?_ | refine wpAny_madeBy_exc gC ?_ | simp only [bne_self_eq_false, Bool.false_eq_true, if_false] | wp_step)
  exact hq
theorem chk_init (f : XBase B O nI iI lB) {e : Addr} {oe : Obj} {us : List Value} {Q : Unit → Shared → Prop}
    (gC : hp.get? C = some (excClassObj nm qn C Na bs lC hdct sn sub ab col dd k0 k1 k2 k3 k5 nI)) (ge : hp.get? e = some oe) (hc : oe.cls = .ref C) (hq : Q () ⟨hp, gs, dr, tk, osS⟩) : wpAny Mo Ar (checkBoundCall iI ⟨.ref e :: us, []⟩) Q Ex ⟨hp, gs, dr, tk, osS⟩ := by
  have hshort := f.iStar
  simp only [checkBoundCall, f.iKind, f.iRow]
  repeat (first | (with_reducible refine wpAny_loadPart_at ge ?_; rw [hc]) | with_reducible refine wpAny_loadPart_at gC ?_ | wp_step)
  refine wpAny_onRaise ?_
  have star : ∀ (a b : String) (n : Nat), Bind.check ⟨.positional, "*", B, .self, [⟨"args", .varPos, false⟩]⟩ a b n (List.map (fun z => z.fst) ({ pos := Value.ref e :: us } : Args).kw) = pure () := fun a b n => check_star_args _ _ _ _ _ _
  rw [star]
  exact wpAny_pure hq
end
section
variable {prog : Program} {w : World} {Ar : Around} {Ex : Value → Shared → Prop} {Rs : Result → Shared → Prop} {hp : Heap} {gs : Array GenState} {dr : Drawn} {tk : Nat} {osS : OsState}
variable {nm qn : Str} {C Na : Addr} {bs lC lB : List Value} {hdct : Bool} {sn : List Str} {sub : List Value} {ab : Bool} {col : Option Bool} {dd : Option Addr} {k0 k1 k2 k3 k5 : Option Value} {B O nI iI : String}
theorem run_new (f : XBase B O nI iI lB) (hT : ∀ z : String, lC.contains (.type z) = lB.contains (.type z)) {us : List Value}
    (gC : hp.get? C = some (excClassObj nm qn C Na bs lC hdct sn sub ab col dd k0 k1 k2 k3 k5 nI))
    (hq : Rs (.ok (.ret (.ref (hp.objs.size + 1)))) ⟨(hp.push (W.kdv_tup us)).push (HandSPX.excO C hp.objs.size), gs, dr, tk, osS⟩) (hus : us.length ≤ sizeLine) :
    codeAny (model prog w) Ar (.builtin nI ⟨.ref C :: us, []⟩) Rs ⟨hp, gs, dr, tk, osS⟩ := by
  have ends := f.ends
  have inO : (Value.ref C :: lC).contains (.type O) = true := by rw [List.contains_cons, hT, f.hasO, Bool.or_true]
  have inA : (Value.ref C :: lC).contains (.type "AttributeError") = false := by rw [List.contains_cons, hT, f.noA]; rfl
  have inN : (Value.ref C :: lC).contains (.type "NameError") = false := by rw [List.contains_cons, hT, f.noN]; rfl
  refine codeAny_builtinAt f.entry ?_
  unfold Builtin.«BaseException.__new__»
  refine wpAt_bind ?_
  show wpAt _ _ _ (stack >>= _) _ _ _
  refine wpAt_bind (wpAt_stack fun _ _ => wpAt_of_wpAny ?_)
  wp_walk
  refine wpAt_of_wpAny ?_
  rw [f.owner]
  repeat (first | with_reducible refine wpAny_madeHere_exc f.canon gC ?_ | with_reducible refine wpAny_loadPart_at gC ?_ | (with_reducible refine wpAny_isSubtype_exc gC ?_; first | rw [inO] | rw [inA] | rw [inN]) | wp_step)
  show Rs _ _
  rw [Heap.size_push]
  exact hq
theorem run_type (f : XBase B O nI iI lB) (hT : ∀ z : String, lC.contains (.type z) = lB.contains (.type z)) {us : List Value} {fI : Addr} {Q : Fin → Shared → Prop}
    (gC : hp.get? C = some (excClassObj nm qn C Na bs lC hdct sn sub ab col dd k0 k1 k2 k3 k5 nI))
    (hi : W.Looks (model prog w) hp (typeLookup (.ref C) "__init__") (some (.ref fI))) (hb : ∀ z, W.Looks (model prog w) hp (bindSpecial (.ref fI) z) (.ref fI, [z])) (hus : us.length ≤ sizeLine)
    (hq : codeAny (model prog w) Ar (.call (.ref fI) ⟨.ref (hp.objs.size + 1) :: us, []⟩)
      (fun r s2 => match r with | .ok (.ret v) => v = .none ∧ Q (.done (.ret (.ref (hp.objs.size + 1)))) s2 | .ok _ => False | .error e => Ex e s2)
      ⟨(hp.push (W.kdv_tup us)).push (HandSPX.excO C hp.objs.size), gs, dr, tk, osS⟩) :
    wpAny (model prog w) Ar (Builtin.«type.__call__» ⟨.ref C :: us, []⟩) Q Ex ⟨hp, gs, dr, tk, osS⟩ := by
  repeat (first | with_reducible refine wpAny_loadPart_at gC ?_ | with_reducible refine wpAny_madeBy_exc gC ?_ | wp_step)
  refine codeAny_call_builtin_code (Code.quiet_builtin _ f.quiet) (chk_new f hT gC ?_)
  refine run_new f hT gC ?_ hus
  show wpAny _ _ _ _ _ _
  have kp : ∀ b o, hp.get? b = some o → ((hp.push (W.kdv_tup us)).push (HandSPX.excO C hp.objs.size)).get? b = some o := fun b o z => Heap.get?_push_of_some _ (Heap.get?_push_of_some _ z)
  have gC2 := kp _ _ gC
  have ge : ((hp.push (W.kdv_tup us)).push (HandSPX.excO C hp.objs.size)).get? (hp.objs.size + 1) = some (HandSPX.excO C hp.objs.size) := by heap_get
  have inC : (Value.ref C :: lC).contains (.ref C) = true := by simp
  have i2 := hi.keeps kp
  have b2 := (hb (.ref (hp.objs.size + 1))).keeps kp
  unfold isInstance
  repeat (first | with_reducible refine wpAny_loadPart_at ge ?_ | (with_reducible refine wpAny_isSubtype_exc gC2 ?_; rw [inC]) | wp_step)
  show wpAny _ _ (typeLookup (.ref C) _) _ _ _
  refine i2.at ?_
  refine wpAny_holding (wpAny_bind (b2.at ?_))
  refine wpAny_bind (wpAny_call (codeAny_mono hq fun r s2 z => ?_))
  rcases r with e | (v | _ | _ | _) <;> first | exact z | exact z.elim | skip
  obtain ⟨rfl, z⟩ := z
  first
    | exact wpAny_pure (wpAny_pure z)
    | (wp_walk; exact z)
theorem run_call (f : XBase B O nI iI lB) (hT : ∀ z : String, lC.contains (.type z) = lB.contains (.type z)) {us : List Value} {fI : Addr}
    (gC : hp.get? C = some (excClassObj nm qn C Na bs lC hdct sn sub ab col dd k0 k1 k2 k3 k5 nI))
    (hi : W.Looks (model prog w) hp (typeLookup (.ref C) "__init__") (some (.ref fI))) (hb : ∀ z, W.Looks (model prog w) hp (bindSpecial (.ref fI) z) (.ref fI, [z])) (hus : us.length ≤ sizeLine)
    (hq : codeAny (model prog w) (Ar.under (.builtin "type.__call__" ⟨.ref C :: us, []⟩)) (.call (.ref fI) ⟨.ref (hp.objs.size + 1) :: us, []⟩) (W.InitBack (hp.objs.size + 1) Rs)
      ⟨(hp.push (W.kdv_tup us)).push (HandSPX.excO C hp.objs.size), gs, dr, tk, osS⟩) :
    codeAny (model prog w) Ar (.call (.ref C) ⟨us, []⟩) Rs ⟨hp, gs, dr, tk, osS⟩ := by
  have l1 := tc_lookup
  have l2 := tc_bind (.ref C)
  have ty : (⟨hp, gs, dr, tk, osS⟩ : Shared).TypeIs (.ref C) "type" := ⟨_, gC, rfl⟩
  refine codeAny_of_tree ?_
  show wpAny _ _ (callAny (.ref C) _) _ _ _
  repeat (any_goals (first | assumption | with_reducible refine wpAny_loadPart_at gC ?_ | wp_step))
  refine ⟨rfl, ?_⟩
  refine codeAny_call_builtin_at (Code.quiet_builtin _ (by decide +kernel)) entry_typeCall (wpAny_check_type_call_sub gC (run_type f hT gC hi hb hus ?_))
  refine codeAny_mono hq fun r s2 z => ?_
  rcases r with e | (v | _ | _ | _) <;> exact z
end
section
variable {prog : Program} {w : World} {Ar : Around} {Ex : Value → Shared → Prop} {st : Shared} {h0 : Heap} {La : Addr} {mN : Str → Option Value} {nws : List (Addr × Obj)} {K : Frag} {x C u : Addr} {B O nI iI : String} {lB : List Value}
/-- super().__init__(..) called -/
theorem sup_call {ta : Addr} {dv : Option Addr} {cx : Value} {us : List Value} {nw : Obj → List (Addr × Obj)} {Q : Value → Shared → Prop} (Fr0 : Fr h0 La st.heap mN) (KX : K.In h0) (Ne0 : News h0 La st.heap nws) (f : XBase B O nI iI lB) (ci : excInitIn K C lB nI = true) (hu : (u, kxs_mw iI x) ∈ nws)
    (U : UpdF x (excObj C ta dv cx) nws nw) (hz : us.length ≤ sizeLine)
    (go : ∀ t2 h2, Fr h0 La h2 mN → News h0 La h2 ((t2, excTup us) :: nw (excObj C t2 dv cx)) → (∀ p ∈ nws, p.1 < t2) → Q .none { st with heap := h2 }) :
    wpAny (model prog w) Ar (call (.ref u) us) Q Ex st := by
  obtain ⟨nm, Na, qn, bs, lC, hdct, sn, sub, ab, col, dd, k0, k1, k2, k3, k5, gC, hT⟩ := excInit_of (KX.keeps Fr0.keep) ci
  have gu := (Ne0 _ hu).1
  obtain ⟨pre, post, rfl, hg, da, db⟩ := U.split
  have here := Ne0 (x, excObj C ta dv cx) (by simp)
  have low : ∀ p ∈ pre ++ (x, excObj C ta dv cx) :: post, p.1 < st.heap.objs.size := fun p hp => Heap.lt_size (Ne0 p hp).1
  have fin : ∀ h2, (∀ b o, b ≠ x → st.heap.get? b = some o → h2.get? b = some o) → h2.get? x = some (excObj C st.heap.objs.size dv cx) → h2.get? st.heap.objs.size = some (excTup us) → Q .none { st with heap := h2 } := fun h2 kp e2 t2 => by
    obtain ⟨oL, es, ep, hL, rL⟩ := Fr0.ns
    have neL : La ≠ x := fun z => here.2.1 z.symm
    refine go st.heap.objs.size h2 ⟨⟨oL, es, ep, kp _ _ neL hL, rL⟩, fun b o z => kp b o (fun y => by rw [y, here.2.2] at z; cases z) (Fr0.keep b o z), Fr0.above⟩ ?_ low
    rw [hg]
    intro p hp
    rcases List.mem_cons.mp hp with rfl | hp
    · refine ⟨t2, fun z => ?_, ?_⟩
      · have y := Heap.lt_size (show st.heap.get? La = some oL from hL)
        rw [← z] at y
        exact absurd y (Nat.lt_irrefl _)
      · cases z : h0.get? st.heap.objs.size with
        | none => rfl
        | some o => exact absurd (Heap.lt_size (Fr0.keep _ _ z)) (Nat.lt_irrefl _)
    rcases List.mem_append.mp hp with hp | hp
    · have y := Ne0 p (List.mem_append_left _ hp)
      exact ⟨kp _ _ (da p hp) y.1, y.2⟩
    rcases List.mem_cons.mp hp with rfl | hp
    · exact ⟨e2, here.2⟩
    · have y := Ne0 p (List.mem_append_right _ (.tail _ hp))
      exact ⟨kp _ _ (db p hp) y.1, y.2⟩
  obtain ⟨hh, gs, dr, tk, osS⟩ := st
  refine wpAny_call (codeAny_of_tree ?_)
  show wpAny _ Ar.in1 (callAny (.ref u) ⟨us, []⟩) _ _ _
  simp only [callAny]
  refine wpAny_bind (wpAny_load gu ?_)
  have mw : (Value.type "method-wrapper" == Value.type "method" || Value.type "method-wrapper" == Value.type "builtin_function_or_method" || Value.type "method-wrapper" == Value.type "method-wrapper") = true := by decide
  simp only [kxs_mw, mw, if_true]
  refine KFB.if_so (by decide) ?_
  refine wpAny_bind (chk_init f gC here.1 rfl ?_)
  refine wpAny_bind (wpAny_pure (wpAny_pure ?_))
  refine ⟨plainId_quiet f.init.plain _, codeAny_builtin f.iEntry ?_⟩
  exact exc_init_tree (cls := .ref C) (t0 := ta) (dv := dv) (c2 := cx) (c3 := .none) (b4 := .bool false) here.1 hz fin
end
theorem xb_KeyError : XBase "KeyError" "LookupError" "LookupError.__new__" "KeyError.__init__" [.type "KeyError", .type "LookupError", .type "Exception", .type "BaseException", .type "object"] where
  ends := by decide +kernel
  owner := by decide +kernel
  entry := PySem.F.excCall_LookupError.entry
  quiet := by decide +kernel
  nSplit := by kernel_rfl
  nKind := by kernel_rfl
  nRow := by kernel_rfl
  nStar := by decide +kernel
  hasO := by decide +kernel
  noA := by decide +kernel
  noN := by decide +kernel
  canon := by decide +kernel
  init := PyProof.Rows.excClass_KeyError.init
  iEntry := PyProof.Rows.excClass_KeyError.initEntry
  iKind := by kernel_rfl
  iRow := by kernel_rfl
  iStar := by decide +kernel
theorem kxs_KeyError : KxsFacts "KeyError" "KeyError.__init__" := ⟨by show builtinType _ = _; rw [builtinType_eq_fast]; kernel_rfl, by first | kernel_rfl | rfl⟩
theorem store_KeyError : StoreFacts "KeyError" [.type "KeyError", .type "LookupError", .type "Exception", .type "BaseException", .type "object"] "object.__setattr__" "object" where
  mro := by rw [mroOf_type]; kernel_rfl
  slot := .of (owner := "object") (n := "__setattr__") (by rw [typeLookup_type, builtinLookup_eq_fast]; kernel_rfl) (by decide +kernel) (by decide +kernel) (by decide +kernel) (by first | exact .inl (by decide +kernel) | exact .inr (by decide +kernel)) (by rw [isSubtype_type]; kernel_rfl)
  entry := PySem.F.store_LookupError.entry
  kind := PySem.F.store_LookupError.kind
  split := PySem.F.store_LookupError.split
  hasOwner := by decide +kernel
  args := PySem.F.store_LookupError.args
  passes := fun self => by kernel_rfl
end PySem.Mi5

namespace Mi
open PySem L2 PySem.Spec PyProof.Rows

/-! ### fields of an own exception are laid -/
section
open Builtin Builtin.ObjectAttr
variable {prog : Program} {w : World} {A : Around} {E : Value → Shared → Prop} {hp : Heap} {g : Array GenState} {d : Drawn} {t : Nat} {os : OsState} {K : PySem.W.Frag} {B : String} {bmB : List Value} {C x : Addr} {fv : Array Value} {nm : Str} {v : Value}
/-- what the class says of stores -/
structure XSt (K : PySem.W.Frag) (C : Addr) (bmB : List Value) (nm : Str) : Prop where
  hs : PySem.W.findIn K (.ref C) "__setattr__" = some (some (.builtin "object.__setattr__"))
  ov : PySem.W.excOver K C bmB = true
  ht : PySem.W.takerIn K C nm = some none
  hd : PySem.W.hasDictIn K C = true
theorem st_new {Q : Unit → Shared → Prop} (SF : StoreFacts B bmB "object.__setattr__" "object") (T : XSt K C bmB nm) (X : K.In hp) (hx : hp.get? x = some { cls := .ref C, data := .fields fv })
    (hq : ∀ h' tk' dx, (∀ b o, b ≠ x → hp.get? b = some o → h'.get? b = some o) → hp.objs.size ≤ dx → dx ≠ x → h'.get? x = some { cls := .ref C, dict := some dx, data := .fields fv } → h'.Ns1 dx (fun y => if y = nm then some v else none) → Q () ⟨h', g, d, tk', os⟩) :
    wpAny (model prog w) A (setAttr (.ref x) nm v) Q E ⟨hp, g, d, t, os⟩ := by
  have I : PySem.W.InstAt hp x { cls := .ref C, data := .fields fv } C none := ⟨hx, rfl, rfl, trivial⟩
  obtain ⟨cd, hcd, hh⟩ := PySem.W.any_some T.hd
  have lc : PySem.W.Looks (model prog w) hp (classData C) cd := PySem.W.looks_clsIn X hcd
  have nx : x ≠ hp.objs.size := Nat.ne_of_lt (Heap.lt_size hx)
  refine PySem.W.set_plain (s := ⟨hp, g, d, t, os⟩) X I T.hs (PySem.W.osa_openX (s := ⟨hp, g, d, t + 1, os⟩) (r := none) SF X I T.ov T.ht fun b => ?_)
  show wpAny _ _ (storeInOwnDict (.ref x) (.ref C) (.str nm t) nm v b) _ _ _
  obtain ⟨n1, n2, n3, n4, n5, n6, n7, n8, n9, n10, n11⟩ := cd
  dsimp only at hh
  subst hh
  unfold storeInOwnDict ownDictForStores
  repeat (first | (with_reducible refine HandSPX.store_in_new ?_ ?_) | (with_reducible refine wpAny_loadPart_at hx ?_) | (with_reducible refine lc.at ?_) | wp_step)
  · refine ⟨_, #[], _, (Heap.get?_update_ne _ _ _ _ nx.symm).trans (Heap.get?_push_at rfl rfl), rfl, fun e he => ?_, fun _ => rfl⟩
    exact absurd he (by simp)
  · intro h' tk' n' sb
    refine hq h' tk' hp.objs.size (fun c o hc e => ?_) (Nat.le_refl _) nx.symm ?_ n'
    · exact (sb.2 c (Nat.ne_of_lt (Heap.lt_size e))).trans ((Heap.get?_update_ne _ _ _ _ hc).trans (Heap.get?_push_of_some _ e))
    · exact (sb.2 x nx).trans (Heap.get?_update_self _ (Heap.get?_push_of_some _ hx) rfl)
theorem st_old {dx : Addr} {m0 : Str → Option Value} {nl : List Str} {Q : Unit → Shared → Prop} (SF : StoreFacts B bmB "object.__setattr__" "object") (T : XSt K C bmB nm) (X : K.In hp) (hx : hp.get? x = some { cls := .ref C, dict := some dx, data := .fields fv }) (hn : hp.Ns1 dx m0) (hw : Within m0 nl) (hz : nl.length ≤ 1000)
    (hq : ∀ h' tk', (∀ b o, b ≠ dx → hp.get? b = some o → h'.get? b = some o) → h'.Ns1 dx (fun y => if y = nm then some v else m0 y) → Q () ⟨h', g, d, tk', os⟩) :
    wpAny (model prog w) A (setAttr (.ref x) nm v) Q E ⟨hp, g, d, t, os⟩ := by
  obtain ⟨oD, _, _, hoD, _, _⟩ := hn.count hw
  have I : PySem.W.InstAt hp x { cls := .ref C, dict := some dx, data := .fields fv } C (some oD) := ⟨hx, rfl, rfl, hoD⟩
  obtain ⟨cd, hcd, hh⟩ := PySem.W.any_some T.hd
  have lc : PySem.W.Looks (model prog w) hp (classData C) cd := PySem.W.looks_clsIn X hcd
  refine PySem.W.set_plain (s := ⟨hp, g, d, t, os⟩) X I T.hs (PySem.W.osa_openX (s := ⟨hp, g, d, t + 1, os⟩) (r := none) SF X I T.ov T.ht fun b => ?_)
  show wpAny _ _ (storeInOwnDict (.ref x) (.ref C) (.str nm t) nm v b) _ _ _
  obtain ⟨n1, n2, n3, n4, n5, n6, n7, n8, n9, n10, n11⟩ := cd
  dsimp only at hh
  subst hh
  unfold storeInOwnDict ownDictForStores
  repeat (first | (with_reducible refine OEX.store_in_old hn hw hz ?_) | (with_reducible refine wpAny_loadPart_at hx ?_) | (with_reducible refine lc.at ?_) | wp_step)
  intro h' tk' n' sb
  exact hq h' tk' (fun c o hc e => (sb.2 c hc).trans e) n'
end

/-! ### the assignments of an own __init__ -/
def asg1 (sf : Str) : Stmt → Option (Str × Str)
  | .Assign [.Attribute (.Name a _) f _] (.Name p _) _ => if a = sf then some (f, p) else none
  | _ => none
def asgs (sf : Str) : List Stmt → Option (List (Str × Str))
  | [] => some []
  | st :: r => (asg1 sf st).bind fun q => (asgs sf r).map (q :: ·)
def putAll (m : Str → Option Value) : List (Str × Str) → (Str → Option Value) → Str → Option Value
  | [], m0 => m0
  | (f, p) :: r, m0 => putAll m r (fun y => if y = f then m p else m0 y)
/-- an exception half made: x's dict is od, it holds m0; the frame at L holds m; base stays -/
structure Half (base : Heap) (C x L : Addr) (fv : Array Value) (m : Str → Option Value) (od : Option Addr) (m0 : Str → Option Value) (h : Heap) : Prop where
  ob : h.get? x = some { cls := .ref C, dict := od, data := .fields fv }
  ns : h.Ns L m
  dc : match od with
    | none => ∀ y, m0 y = none
    | some dx => base.objs.size ≤ dx ∧ dx ≠ x ∧ dx ≠ L ∧ h.Ns1 dx m0
  kp : ∀ b o, base.get? b = some o → h.get? b = some o
section
variable {prog : Program} {w : World} {A : Around} {E : Value → Shared → Prop} {g : Array GenState} {d : Drawn} {os : OsState} {K : PySem.W.Frag} {B : String} {bmB : List Value} {C x L : Addr} {fv : Array Value} {m : Str → Option Value} {base : Heap} {env : Env} {sf : Str}
theorem asgs_ok (SF : StoreFacts B bmB "object.__setattr__" "object") (KB : K.In base) (hxb : base.objs.size ≤ x) (hLb : base.objs.size ≤ L) (hxL : x ≠ L) (hk : env.scope.kind = .function) (hL : env.locals = L) (hsf : env.kindOf sf = some .local) (hv : m sf = some (.ref x)) (hdb : (sf == ("__debug__" : Str)) = false) :
    ∀ (rest : List Stmt) (l : List (Str × Str)), asgs sf rest = some l → (∀ q ∈ l, XSt K C bmB q.1 ∧ env.kindOf q.2 = some .local ∧ (q.2 == ("__debug__" : Str)) = false ∧ ∃ u, m q.2 = some u) →
    ∀ (hp : Heap) (t : Nat) (od : Option Addr) (m0 : Str → Option Value) (nl : List Str), Half base C x L fv m od m0 hp → Within m0 nl → nl.length + l.length ≤ 1000 →
      wpAny (model prog w) A (execs rest env) (fun f s' => f = .next ∧ ∃ h' tk od', s' = ⟨h', g, d, tk, os⟩ ∧ Half base C x L fv m od' (putAll m l m0) h' ∧ (od' = none → l = [] ∧ od = none)) E ⟨hp, g, d, t, os⟩
  | [], l, hl, _, hp, t, od, m0, nl, Y, _, _ => by
    cases hl
    exact wpAny_execs_nil ⟨rfl, hp, t, od, rfl, Y, fun z => ⟨rfl, z⟩⟩
  | st :: rest, l, hl, ok, hp, t, od, m0, nl, Y, hw, hz => by
    unfold asgs at hl
    obtain ⟨⟨f, p⟩, h1, h2⟩ := Option.bind_eq_some_iff.mp hl
    obtain ⟨l2, h3, rfl⟩ := Option.map_eq_some_iff.mp h2
    unfold asg1 at h1
    split at h1
    · rename_i a p1 f' p2 q p3 p4
      split at h1
      · rename_i ea
        cases h1
        have ea2 := ea.symm
        subst ea2
        obtain ⟨T, kp, dp, u, hu⟩ := ok (f, p) List.mem_cons_self
        refine wpAny_execs_cons (plainObj_wpAny_Assign_Attribute ?_ (noswapA _ _ _ _ _))
        have K1 : K.In hp := KB.keeps Y.kp
        have lt1 : L < hp.objs.size := Y.ns.lt
        refine wpAny_Name (wpAny_loadName_local hk kp (hL ▸ Y.ns) hu ?_) dp
        refine wpAny_Name (wpAny_loadName_local hk hsf (hL ▸ Y.ns) hv ?_) hdb
        have step : ∀ (h' : Heap) (tk : Nat) (dx : Addr), Half base C x L fv m (some dx) (fun y => if y = f then m p else m0 y) h' → wpAny (model prog w) A (execs rest env) (fun f_1 s' => f_1 = Flow.next ∧ ∃ h' tk od', s' = ⟨h', g, d, tk, os⟩ ∧ Half base C x L fv m od' (putAll m ((f, p) :: l2) m0) h' ∧ (od' = none → (f, p) :: l2 = [] ∧ od = none)) E ⟨h', g, d, tk, os⟩ := by
          intro h' tk dx Y'
          have hw' : Within (fun y => if y = f then m p else m0 y) (f :: nl) := by
            rw [hu]
            exact Within.cons f u hw
          refine wpAny_mono (asgs_ok SF KB hxb hLb hxL hk hL hsf hv hdb rest l2 h3 (fun q hq => ok q (List.mem_cons_of_mem _ hq)) h' tk (some dx) _ (f :: nl) Y' hw' (by simp only [List.length_cons] at hz ⊢; omega)) (fun fl s' z => ?_) fun _ _ z => z
          obtain ⟨z1, h2, t2, od2, z2, z3, z4⟩ := z
          exact ⟨z1, h2, t2, od2, z2, z3, fun e => nomatch (z4 e).2⟩
        cases od with
        | none =>
          refine st_new SF T K1 Y.ob fun h' tk dx k1 k2 k3 k4 k5 => step h' tk dx ⟨k4, ?_, ⟨?_, k3, ?_, ?_⟩, fun b o e => k1 b o (fun z => ?_) (Y.kp b o e)⟩
          · exact Y.ns.at fun o e => k1 L o (Ne.symm hxL) e
          · exact Nat.le_trans (Nat.le_trans hLb (Nat.le_of_lt lt1)) k2
          · exact fun z => absurd (z ▸ k2) (Nat.not_le.mpr lt1)
          · have e0 : (fun y => if y = f then some u else none) = (fun y => if y = f then m p else m0 y) := by
              funext y
              rw [Y.dc y, hu]
            rw [← e0]
            exact k5
          · exact absurd (Heap.lt_size (z ▸ e)) (Nat.not_lt.mpr hxb)
        | some dx =>
          obtain ⟨q1, q2, q3, q4⟩ := Y.dc
          refine st_old SF T K1 Y.ob q4 hw (by omega) fun h' tk k1 k2 => step h' tk dx ⟨?_, ?_, ⟨q1, q2, q3, ?_⟩, fun b o e => k1 b o (fun z => ?_) (Y.kp b o e)⟩
          · exact k1 x _ (Ne.symm q2) Y.ob
          · exact Y.ns.at fun o e => k1 L o (Ne.symm q3) e
          · rw [hu]
            exact k2
          · exact absurd (Heap.lt_size (z ▸ e)) (Nat.not_lt.mpr q1)
      · cases h1
    · cases h1
end
end Mi

namespace Mi
open PySem L2 PySem.Spec PyProof.Rows

theorem scall_eq {o : Expr} {m : Str} {apos pos : Pos} {es : List Expr} {env : Env} (hf : fewForm es [] = true) (hl : (apos.endLine == pos.line) = true) :
    eval (.Call (.Attribute o m apos) es [] pos) env = (do
      let ov ← attributeBase o m env (eval o env)
      standAt apos.atName
      let (f, first) ← holding [ov] (getMethod ov m (do return (← importBound o env).getD true))
      callWith pos f first (backTo pos (starEach es env)) []) := by
  rw [eval]
  have e1 := form_eq hf env pos
  have e2 : methodCallPos true o env apos pos = pure pos := by
    unfold methodCallPos
    exact if_pos (by rw [hl, Bool.or_true])
  unfold methodCall calleeOf
  rw [e1, e2]
  simp only [pure_bind, if_true]
  rfl

/-- an own exception class whose __init__ says super().__init__(text), then lays its parameters -/
structure XInit (P : Program) (K : PySem.W.Frag) (mg : Str → Option Value) (C : Addr) (B newId initId : String) (bmB : List Value) (sf : Str) (l : List (Str × Str)) (fI cc cda : Addr) (fd : FuncData) (body : List Stmt) (scope : Scope) : Prop where
  fb : ∃ O, PySem.Mi5.XBase B O newId initId bmB
  kf : PySem.W.KxsFacts B initId
  so : StoreFacts B bmB "object.__setattr__" "object"
  ci : PySem.W.excInitIn K C bmB newId = true
  iC : PySem.W.findIn K (.ref C) "__init__" = some (some (.ref fI))
  tI : PySem.W.typeIn K (.ref fI) = some (.type "function")
  fo : ∃ o, K.lookup fI = some o ∧ o.data = .func fd
  fdb : fd.body = .stmts body
  fds : fd.scope = scope
  fdg : fd.globals = mainGlobals
  fdl : fd.builtins = builtinsNs
  fdc : fd.closure = [(("__class__" : Str), cc)]
  fdo : fd.code = .ref cda
  co : PySem.W.codeIn K (.ref cda) fd.qualname = true
  cf : ∃ (o : Obj) (vs : Array Value) (file : Str) (tf : Tok), K.lookup cda = some o ∧ o.data = .fields vs ∧ vs[2]? = some (.str file tf) ∧ ((P.main.file : Str) == file) = true
  ce : ∃ o, K.lookup cc = some o ∧ o.data = .cell (some (.ref C))
  mr : PySem.W.mroIn K C (.ref C) = some true
  su : PySem.W.ks_superIn K C C "__init__" = some (some (.builtin initId))
  sb : PySem.W.subIn K (.ref C) (.type B) = some true
  tp : PySem.W.nsIn K cStatics "thirdparty.any" = some none
  ms : mg "super" = none
  tps : (P.main.scope.names.lookup ("super" : Str)).isSome = false
  ar : ∃ ar : Arg, (fd.params.posonlyargs ++ fd.params.args).head? = some ar ∧ ar.arg = sf
  sk : scope.kind = .function
  sc : scope.isCoroutine = false
  sg : scope.isGenerator = false
  nc : ∀ y ∈ scope.names, y.2 ≠ .cell
  ns : scope.names.lookup ("super" : Str) = some .globalImplicit
  nk : scope.names.lookup ("__class__" : Str) = some .free
  nf : scope.names.lookup sf = some .local
  np : ∀ p ∈ l, scope.names.lookup p.2 = some .local ∧ (p.2 == ("__debug__" : Str)) = false
  nd : (sf == ("__debug__" : Str)) = false
  bd : ∀ us : List Value, us.length = l.length + 1 → bindArgs fd ⟨us, []⟩ = pure ((sf :: l.map (·.2)).zip us)
  un : (sf :: l.map (·.2)).Nodup
  st : ∀ p ∈ l, XSt K C bmB p.1
  bo : ∃ (p0 p1 ap cp ep q : Pos) (m : Str) (j : Nat) (rest : List Stmt), body = .Expr (.Call (.Attribute (.Call (.Name "super" p0) [] [] p1) "__init__" ap) [.Constant (.str m) j q] [] cp) ep :: rest ∧ (ap.endLine == cp.line) = true ∧ asgs sf rest = some l
  ll : l.length ≤ 900

theorem boot_super : bootBuiltins "super" = some (.type "super") := by kernel_rfl
theorem none_of_size {h : Heap} {a : Addr} (z : h.objs.size ≤ a) : h.get? a = none := by
  cases e : h.get? a with
  | none => rfl
  | some o => exact absurd (Heap.lt_size e) (Nat.not_lt.mpr z)
section
variable {P : Program} {w : World} {K : PySem.W.Frag} {mg : Str → Option Value} {C : Addr} {B newId initId : String} {bmB : List Value} {sf : Str} {l : List (Str × Str)} {fI cc cda : Addr} {fd : FuncData} {body : List Stmt} {scope : Scope}
/-- super().__init__(text) -/
theorem super_ok (T : XInit P K mg C B newId initId bmB sf l fI cc cda fd body scope) {A : Around} {E : Value → Shared → Prop} {base hp : Heap} {x t0 : Addr} {m : Str → Option Value} {g : Array GenState} {d : Drawn} {t : Nat} {os : OsState} {L : Addr} {p0 p1 ap cp q : Pos} {tx : Str} {j : Nat} {Q : Value → Shared → Prop}
    (KB : K.In base) (GB : Glb mg base) (Y : Half base C x L #[.ref t0, .none, .none, .none, .bool false, .none] m none (fun _ => none) hp) (hxb : base.objs.size ≤ x) (hLb : base.objs.size ≤ L) (hxL : x ≠ L) (hv : m sf = some (.ref x)) (hl : (ap.endLine == cp.line) = true)
    (hq : ∀ h' tk t1, Half base C x L #[.ref t1, .none, .none, .none, .bool false, .none] m none (fun _ => none) h' → Q .none ⟨h', g, d, tk, os⟩) :
    PySem.wpAt (model P w) A (.func body (callEnv fd L fI)) (eval (.Call (.Attribute (.Call (.Name "super" p0) [] [] p1) "__init__" ap) [.Constant (.str tx) j q] [] cp) (callEnv fd L fI)) Q E ⟨hp, g, d, t, os⟩ := by
  have KX : K.In hp := KB.keeps Y.kp
  obtain ⟨of, hof, hfd⟩ := T.fo
  obtain ⟨oc, vs, file, tf, hoc, hcd, hvs, hfile⟩ := T.cf
  obtain ⟨ol, hol, hcl⟩ := T.ce
  obtain ⟨ar, har, hsf⟩ := T.ar
  have hfd2 := T.fds
  have kd : ∀ y, (callEnv fd L fI).kindOf y = scope.names.lookup y := fun y => by rw [← T.fds]; rfl
  have hk : (callEnv fd L fI).scope.kind = .function := by
    show fd.scope.kind = _
    rw [T.fds]
    exact T.sk
  have GX := GB.keeps Y.kp
  obtain ⟨mb, hb1, hb2⟩ := GX.b
  obtain ⟨cd, hC1, _⟩ : ∃ cd, PySem.W.clsIn K C = some cd ∧ True := by
    have z := T.su
    unfold PySem.W.ks_superIn at z
    cases e : PySem.W.clsIn K C with
    | none => rw [e] at z; cases z
    | some cd => exact ⟨cd, rfl, trivial⟩
  have su := T.su
  unfold PySem.W.ks_superIn at su
  rw [hC1, Option.bind_some] at su
  obtain ⟨oD, hD1, hD2⟩ : ∃ oD, hp.get? C = some oD ∧ oD.data = .cls cd := by
    have z := hC1
    unfold PySem.W.clsIn at z
    split at z
    · rename_i ho
      cases z
      exact ⟨_, KX _ _ ho, rfl⟩
    · cases z
  have I : PySem.W.InstAt hp x { cls := .ref C, data := .fields #[.ref t0, .none, .none, .none, .bool false, .none] } C none := ⟨Y.ob, rfl, rfl, trivial⟩
  have hxC : x ≠ C := PySem.W.ks_ne KX I hC1
  refine ks_wpAt_MethodCall (pl := (do return (← importBound (.Call (.Name "super" p0) [] [] p1) (callEnv fd L fI)).getD true)) ?_ (scall_eq (es := [.Constant (.str tx) j q]) (by rfl) hl)
  refine ks_wpAt_super_base (env := callEnv fd L fI) (ar := ar) (of := of) (fd := fd) (cc := cda) (oc := oc) (vs := vs) (file := file) (tf := tf) ((kd _).trans T.ns) ((kd _).trans T.nk) (by decide) rfl (KX _ _ hof) hfd har T.fdo (KX _ _ hoc) hcd hvs hfile T.tps ?_
  refine PySem.W.ks_loadName_global hk ((kd _).trans T.ns) (Calls.loadGlobal_builtin (mg := mg) (mb := mb) ?_ T.ms ?_ ((hb2 _ (by decide)).trans boot_super) ⟨rfl, ?_⟩)
  · show hp.Ns fd.globals mg
    rw [T.fdg]
    exact GX.g
  · show hp.Ns fd.builtins mb
    rw [T.fdl]
    exact hb1
  refine wpAny_loadName_free (c := cc) hk ((kd _).trans T.nk) ?_ ⟨ol, KX _ _ hol, hcl⟩ ?_
  · show fd.closure.lookup _ = _
    rw [T.fdc]
    rfl
  rw [hsf]
  refine wpAny_loadName_local hk ((kd _).trans T.nf) Y.ns hv ?_
  refine ks_wpAny_isType_cls hD1 hD2 ⟨rfl, ?_⟩
  refine ks_wpAny_call_super hD1 hD2 Y.ob rfl (fun c e => by cases e) (PySem.W.looks_mroIn KX T.mr) (fun h2 e2 k2 => ?_)
  have K2 : K.In h2 := KX.keeps k2
  have I2 : PySem.W.InstAt h2 x { cls := .ref C, data := .fields #[.ref t0, .none, .none, .none, .bool false, .none] } C none := ⟨k2 _ _ Y.ob, rfl, rfl, trivial⟩
  refine PySem.W.kxs_getMethod T.kf e2 (PySem.W.looks_opaque K2 T.tp) (l₀ := cd.mro) ((PySem.W.looks_clsIn K2 hC1).andThen .now) rfl K2 su (I2.type.andThen (PySem.W.looks_subIn K2 T.sb)) hxC (by decide) ?_
  have k3 : ∀ b o, h2.get? b = some o → (h2.push (PySem.W.kxs_mw initId x)).get? b = some o := fun b o e => Heap.get?_push_of_some _ e
  have e3 : (h2.push (PySem.W.kxs_mw initId x)).get? h2.objs.size = some (PySem.W.kxs_mw initId x) := Heap.get?_push_at rfl rfl
  refine PySem.W.kxs_callWith (i := initId) (x := x) rfl (Calls.evalArgs_plain ?_)
  refine args_cons (e := .Constant (.str tx) j q) (rest := []) (wpAny_Constant_str (args_nil ⟨e3, ?_⟩)) rfl
  have ltx : x < h2.objs.size := Heap.lt_size (k2 _ _ Y.ob)
  have ltL : L < h2.objs.size := (Y.ns.keeps k2).lt
  have F3 : Fr base L (h2.push (PySem.W.kxs_mw initId x)) m := ⟨(Y.ns.keeps k2).keeps k3, fun b o e => k3 _ _ (k2 _ _ (Y.kp _ _ e)), hLb⟩
  have N3 : News base L (h2.push (PySem.W.kxs_mw initId x)) [(h2.objs.size, PySem.W.kxs_mw initId x), (x, PySem.W.excObj C t0 none .none)] := by
    intro p hp
    rcases List.mem_cons.mp hp with rfl | hp
    · exact ⟨e3, Nat.ne_of_gt ltL, none_of_size (Nat.le_trans hLb (Nat.le_of_lt ltL))⟩
    rcases List.mem_cons.mp hp with rfl | hp
    · exact ⟨k3 _ _ (k2 _ _ Y.ob), hxL, none_of_size hxb⟩
    · cases hp
  obtain ⟨On, fbO⟩ := T.fb
  refine PySem.Mi5.sup_call (st := ⟨h2.push (PySem.W.kxs_mw initId x), g, d, _, os⟩) (nw := fun o => [(h2.objs.size, PySem.W.kxs_mw initId x), (x, o)]) F3 KB N3 fbO T.ci List.mem_cons_self (.tail (Nat.ne_of_gt ltx) (.head fun _ z => nomatch z)) (by simp [sizeLine_eq]) fun t1 h4 F4 N4 _ => ?_
  exact hq h4 _ t1 ⟨(N4 (x, PySem.W.excObj C t1 none .none) (by simp)).1, F4.ns, fun _ => rfl, F4.keep⟩
end
end Mi

namespace Mi
open PySem L2 PySem.Spec PyProof.Rows

theorem putAll_not {m : Str → Option Value} {y : Str} : ∀ {l : List (Str × Str)} {m0 : Str → Option Value}, y ∉ l.map (·.1) → putAll m l m0 y = m0 y
  | [], _, _ => rfl
  | (f, p) :: l, m0, h => by
    rw [List.map_cons, List.mem_cons, not_or] at h
    show putAll m l _ y = _
    rw [putAll_not h.2]
    exact if_neg h.1
theorem zip_fst {α β : Type} : ∀ (ks : List α) (us : List β), List.Sublist ((ks.zip us).map (·.1)) ks
  | [], us => by simp
  | k :: ks, [] => by simp
  | k :: ks, u :: us => by
    rw [List.zip_cons_cons, List.map_cons]
    exact (zip_fst ks us).cons₂ k
theorem rev_lookup {ks : List Str} (nd : ks.Nodup) : ∀ {us : List Value} {i : Nat} {k : Str} {u : Value}, ks[i]? = some k → us[i]? = some u → (ks.zip us).reverse.lookup k = some u := by
  intro us i k u h1 h2
  have hm : (k, u) ∈ (ks.zip us).reverse := by
    rw [List.mem_reverse]
    refine List.mem_of_getElem? (i := i) ?_
    rw [List.getElem?_zip_eq_some]
    exact ⟨h1, h2⟩
  have nd2 : ((ks.zip us).reverse.map (·.1)).Nodup := by
    rw [List.map_reverse]
    refine (List.reverse_perm _).nodup_iff.mpr ?_
    exact nd.sublist (zip_fst ks us)
  revert hm nd2
  generalize (ks.zip us).reverse = r
  intro hm nd2
  induction r with
  | nil => cases hm
  | cons p r ih =>
    rw [List.lookup_cons]
    rcases List.mem_cons.mp hm with rfl | hm
    · simp
    · have : (k == p.1) = false := by
        rw [beq_eq_false_iff_ne]
        intro e
        rw [List.map_cons, List.nodup_cons] at nd2
        exact nd2.1 (e ▸ List.mem_map_of_mem (f := (·.1)) hm)
      rw [this]
      rw [List.map_cons, List.nodup_cons] at nd2
      exact ih hm nd2.2

theorem putAll_at {m : Str → Option Value} : ∀ {l : List (Str × Str)} {m0 : Str → Option Value} {us : List Value}, (l.map (·.1)).Nodup → (∀ (i : Nat) (q : Str × Str) (u : Value), l[i]? = some q → us[i]? = some u → m q.2 = some u) →
    ∀ (i : Nat) (f : Str) (u : Value), (l.map (·.1))[i]? = some f → us[i]? = some u → putAll m l m0 f = some u
  | [], _, _, _, _, i, f, u, h, _ => by simp at h
  | (f0, p0) :: l, m0, us, nd, hm, i, f, u, h1, h2 => by
    rw [List.map_cons, List.nodup_cons] at nd
    cases i with
    | zero =>
      have e : f0 = f := Option.some.inj h1
      subst e
      show putAll m l _ f0 = _
      rw [putAll_not nd.1, if_pos rfl]
      exact hm 0 (f0, p0) u rfl h2
    | succ i =>
      cases us with
      | nil => cases h2
      | cons u0 us => exact putAll_at (us := us) nd.2 (fun j q v a b => hm (j + 1) q v a b) i f u h1 h2
section
variable {P : Program} {w : World} {K : PySem.W.Frag} {mg : Str → Option Value} {C : Addr} {B newId initId : String} {bmB : List Value} {sf : Str} {l : List (Str × Str)} {fI cc cda : Addr} {fd : FuncData} {body : List Stmt} {scope : Scope}
theorem make_x (T : XInit P K mg C B newId initId bmB sf l fI cc cda fd body scope) (nl : (l.map (·.1)).Nodup) {A : Around} {E : Value → Shared → Prop} {hp : Heap} {g : Array GenState} {d : Drawn} {t : Nat} {os : OsState} {us : List Value} {Q : Value → Shared → Prop} {k : Nat} (hr : Room (k + 1) A)
    (KB : K.In hp) (GB : Glb mg hp) (lim : hp.NoLimit) (hlen : us.length = l.length)
    (hq : ∀ h' tk e od, Made hp C e (l.map (·.1)) us od h' → Q (.ref e) ⟨h', g, d, tk, os⟩) : wpAny (model P w) A (call (.ref C) us) Q E ⟨hp, g, d, t, os⟩ := by
  obtain ⟨nm, N', qn, bs, bm, hdct, sn, sub, ab, col, dd, k0, k1, k2, k3, k5, hC, hT⟩ := PySem.W.excInit_of KB T.ci
  obtain ⟨of, hof, hfd⟩ := T.fo
  obtain ⟨p0, p1, ap, cp, ep, q, tx, j, rest, hbody, hline, hasg⟩ := T.bo
  have hz : us.length ≤ sizeLine := by
    have := T.ll
    rw [hlen, sizeLine_eq]
    omega
  have kk : ∀ b o, hp.get? b = some o → ((hp.push (PySem.W.kdv_tup us)).push (HandSPX.excO C hp.objs.size)).get? b = some o := fun b o e => Heap.get?_push_of_some _ (Heap.get?_push_of_some _ e)
  have hget : ((hp.push (PySem.W.kdv_tup us)).push (HandSPX.excO C hp.objs.size)).get? (hp.objs.size + 1) = some (HandSPX.excO C hp.objs.size) := by heap_get
  obtain ⟨On, fbO⟩ := T.fb
  refine wpAny_call (PySem.Mi5.run_call fbO hT hC (PySem.W.looks_findIn KB T.iC) (fun self => PySem.W.bind_fn KB self T.tI) hz ?_)
  have hl2 : (Value.ref (hp.objs.size + 1) :: us).length = l.length + 1 := by rw [List.length_cons, hlen]
  refine ks_codeAny_call_defAt (fd := fd) (body := body) (binds := (sf :: l.map (·.2)).zip (.ref (hp.objs.size + 1) :: us)) (hr.make C us []).depth (kk _ _ (KB _ _ hof)) hfd (lim.keeps kk) ?_ T.fdb (BindsTo.of_eq (T.bd _ hl2)) ?_ ?_ (fun h1 n1 s1 => ?_) ?_ ?_ ?_
  · rw [T.fdo]
    exact PySem.W.codeRec_of (KB.keeps kk) T.co
  · rw [T.fds]
    exact T.nc
  · intro y hy
    rw [T.fds]
    rcases List.mem_cons.mp (List.of_mem_zip hy).1 with z | z
    · rw [z]
      exact T.nf
    · obtain ⟨p, hp1, hp2⟩ := List.mem_map.mp z
      rw [← hp2]
      exact (T.np p hp1).1
  · obtain ⟨L, hL⟩ : ∃ L, L = ((hp.push (PySem.W.kdv_tup us)).push (HandSPX.excO C hp.objs.size)).objs.size := ⟨_, rfl⟩
    have hLs : L = hp.objs.size + 2 := by rw [hL, Heap.size_push, Heap.size_push]
    rw [show ({ heap := (hp.push (PySem.W.kdv_tup us)).push (HandSPX.excO C hp.objs.size), gens := g, drawn := d, toks := t, os := os } : Shared).heap.objs.size = L from hL.symm] at n1 ⊢
    have Y : Half hp C (hp.objs.size + 1) L #[.ref hp.objs.size, .none, .none, .none, .bool false, .none] (fun y => ((sf :: l.map (·.2)).zip (Value.ref (hp.objs.size + 1) :: us)).reverse.lookup y) none (fun _ => none) h1 :=
      ⟨s1 _ _ hget, n1, fun _ => rfl, fun b o e => s1 _ _ (kk _ _ e)⟩
    have hxb : hp.objs.size ≤ hp.objs.size + 1 := Nat.le_succ _
    have hLb : hp.objs.size ≤ L := by omega
    have hxL : hp.objs.size + 1 ≠ L := by omega
    have hv : ((sf :: l.map (·.2)).zip (Value.ref (hp.objs.size + 1) :: us)).reverse.lookup sf = some (.ref (hp.objs.size + 1)) := rev_lookup T.un (i := 0) rfl rfl
    have hp' : ∀ (i : Nat) (q : Str × Str) (u : Value), l[i]? = some q → us[i]? = some u → ((sf :: l.map (·.2)).zip (Value.ref (hp.objs.size + 1) :: us)).reverse.lookup q.2 = some u := fun i q u e1 e2 =>
      rev_lookup T.un (i := i + 1) (by rw [List.getElem?_cons_succ, List.getElem?_map, e1]; rfl) (by rw [List.getElem?_cons_succ]; exact e2)
    have kd : ∀ y, (callEnv fd L fI).kindOf y = scope.names.lookup y := fun y => by rw [← T.fds]; rfl
    have hk : (callEnv fd L fI).scope.kind = .function := by
      show fd.scope.kind = _
      rw [T.fds]
      exact T.sk
    rw [hbody]
    refine ks_wpAt_execs_cons (ks_wpAt_Expr_any ?_ (by simp [interactive, hk]) rfl)
    rw [← hbody]
    refine super_ok T KB GB Y hxb hLb hxL hv hline fun h2 tk2 t2 Y2 => ?_
    refine wpAt_of_wpAny (wpAny_mono (asgs_ok (fv := #[.ref t2, .none, .none, .none, .bool false, .none]) T.so KB hxb hLb hxL hk rfl ((kd _).trans T.nf) hv T.nd rest l hasg (fun p hp2 => ?_) h2 _ none (fun _ => none) [] Y2 Within.nil ?_) (fun f s3 z => ?_) fun _ _ z => z)
    · obtain ⟨i, ei⟩ := List.mem_iff_getElem?.mp hp2
      have lt : i < us.length := by
        rw [hlen]
        exact (List.getElem?_eq_some_iff.mp ei).1
      exact ⟨T.st p hp2, (kd _).trans (T.np p hp2).1, (T.np p hp2).2, _, hp' i p _ ei (List.getElem?_eq_getElem lt)⟩
    · have := T.ll
      simp only [List.length_nil]
      omega
    · obtain ⟨rfl, h3, tk3, od, rfl, Y3, hno⟩ := z
      refine ⟨rfl, hq h3 tk3 (hp.objs.size + 1) od ⟨⟨_, Y3.ob⟩, hxb, Y3.kp, ?_⟩⟩
      have dc := Y3.dc
      cases od with
      | none =>
        have e := (hno rfl).1
        show l.map (·.1) = []
        rw [e]
        rfl
      | some dx => exact ⟨dc.1, dc.2.1, _, dc.2.2.2, putAll_at nl hp', fun y hy => putAll_not hy⟩
  · rw [T.fds]
    exact T.sc
  · rw [T.fds]
    exact T.sg
  · rw [T.fds]
    exact T.sk
end

theorem xmk_of {P : Program} {w : World} {K : PySem.W.Frag} {mg : Str → Option Value} {C : Addr} {B newId initId : String} {bmB : List Value} {sf : Str} {l : List (Str × Str)} {fI cc cda : Addr} {fd : FuncData} {body : List Stmt} {scope : Scope} (T : XInit P K mg C B newId initId bmB sf l fI cc cda fd body scope) (nl : (l.map (·.1)).Nodup) : XMk P w K mg C (l.map (·.1)) := by
  rintro A E ⟨hp, g, d, t, os⟩ us Q k hr KB GB lim hl hq
  exact make_x T nl hr KB GB lim (by rw [hl, List.length_map]) fun h' tk e od M => hq h' tk e od M

/-! ### raise C(e, ..) -/
def dsOf : List W → Option (List D) := pureL
def excM (x : Str) (fs : List Str) (as : List W) (S : Store) : R W := match pureL as with
  | some ds => if ds.length = fs.length then .exc x (fs.zip ds) S else .bad
  | none => .bad
section
variable {g : Gx} {G : GTab} {ow : Own} {X : Cx} {c : Ctx} {wx : WX}
theorem zip_repf {F : Addr → Prop} {H : Hp} : ∀ {fs : List Str} {vs : List V} {ds : List D}, Reps g F H vs ds → RepF g F H (fs.zip vs) (fs.zip ds)
  | [], _, _, _ => .nil
  | f :: fs, _, _, .nil => .nil
  | f :: fs, _, _, .cons a r => .cons a (zip_repf r)
theorem zip_look {fs : List Str} (nd : fs.Nodup) : ∀ {vs : List V} {i : Nat} {f : Str} {v : V}, fs[i]? = some f → vs[i]? = some v → (fs.zip vs).lookup f = some v := by
  intro vs i f v h1 h2
  induction fs generalizing vs i with
  | nil => cases h1
  | cons k fs ih =>
    cases vs with
    | nil => cases h2
    | cons u vs =>
      rw [List.zip_cons_cons, List.lookup_cons]
      cases i with
      | zero =>
        cases h1
        cases h2
        simp
      | succ i =>
        rw [List.nodup_cons] at nd
        have : (f == k) = false := by
          rw [beq_eq_false_iff_ne]
          rintro rfl
          exact nd.1 (List.mem_of_getElem? h1)
        rw [this]
        exact ih nd.2 h1 h2
theorem zip_lookn {fs : List Str} {vs : List V} {y : Str} (h : y ∉ fs) : (fs.zip vs).lookup y = none := by
  cases e : (fs.zip vs).lookup y with
  | none => rfl
  | some v => exact absurd (List.of_mem_zip (PySem.mem_of_lookup e)).1 h
theorem vals_at {vs : List V} {us : List Value} (r : Vals vs us) {i : Nat} {v : V} (h : vs[i]? = some v) : ∃ u, us[i]? = some u ∧ RelV v u := r.get h
theorem pmk_x (o : COk g G ow X c wx) {x : Str} {fs : List Str} {p pos : Pos} {es : List Expr} {k : Nat} {ma : EnvM → Store → R (List W)} (hx : ow.xmk x = some fs) (nd : fs.Nodup) (hc : c.calm = true) (hck : c.k = k + 1) (hg : isGlob c x = true) (hp : plainName x = true) (hs : noStar es = true)
    (h0 : es = [] → ∀ env S, ma env S = .ok [] S) (ha : PA X es (tA g wx ma)) :
    PMk X (.Call (.Name x p) es [] pos) (fun σ H Q => tE g wx (fun env S => (ma env S).bind fun as S1 => excM x fs as S1) σ H (fun _ _ => False) ∧ ∀ cls d H', wx cls d σ H' → Q cls d H') := by
  obtain ⟨e1, T⟩ := (o.own hc).xm x fs hx
  rintro pins s σ H Q I ⟨⟨ρ, F, S, env, L, E, P⟩, hQ⟩
  have hr : Room (k + 1) X.A := hck ▸ o.rm hc
  refine wpAny_Call_Name_kw (ld_glob I (o.glo x hg) e1 ?_ (plainName_ok hp).1)
  refine callw_ok (first := []) (kws := []) (mk := fun _ S => .ok [] S) (m := fun as _ S1 => excM x fs as S1) T.kp hs rfl h0 ha pk0_ok I L E P fun us ws vs zs s2 H2 ρ2 F2 S2 as bs I2 r1 rz z L2 ra rb P2 => ?_
  unfold excM at P2
  split at P2
  · rename_i ds hds
    split at P2
    · rename_i hlen
      rw [pureL_eq hds] at ra
      have rd := ws_reps ra
      have lvs : vs.length = fs.length := by rw [reps_len rd, hlen]
      have lus : us.length = fs.length := by rw [← Paired.length r1, lvs]
      obtain ⟨mb, hb1, hb2⟩ := I2.mod.blt
      have bk := I2.bk
      refine T.mak X.A X.xe s2 us _ k hr I2.kIn ⟨I2.mod.glob.keeps bk, mb, hb1.keeps bk, hb2⟩ (I2.mod.nolimit.keeps bk) lus fun h' tk e od M => ?_
      obtain ⟨t1, ob⟩ := M.ob
      have ne : s2.heap.get? e = none := none_of_size M.be
      have na : H2 e = none := I2.hok.fresh M.be
      have dc := M.dc
      cases od with
      | none =>
        have hfs : fs = [] := dc
        subst hfs
        refine ⟨e, _, _, s2, H2, .ref (g.ca x), none, rfl, I2, M.kp, ne, ob, ⟨rfl, rfl⟩, rfl, rfl, na, rfl, I2.bare, raises_own T.sb T.ty, hQ _ _ _ (P2 none ρ2 F2 H2 Gr.refl L2 ?_)⟩
        show List.zip [] ds = []
        rfl
      | some dx =>
        obtain ⟨q1, q2, mA, q3, q4, q5⟩ := dc
        obtain ⟨Gh, g1, g2⟩ := restrict h' fun b => decide (b ≠ e)
        have gk : ∀ b, b ≠ e → Gh.get? b = h'.get? b := fun b hb => g1 b (decide_eq_true hb)
        have ge : Gh.get? e = none := g2 e (by simp)
        have up : ∀ b o, s2.heap.get? b = some o → Gh.get? b = some o := fun b o y => by
          rw [gk b (fun z => by rw [z, ne] at y; cases y)]
          exact M.kp b o y
        have hdx : H2 dx = none := I2.hok.fresh q1
        have J := I2.laidN (a := dx) (o := .xd (fs.zip vs)) (h' := Gh) (t' := tk) up (none_of_size q1) hdx ⟨mA, q3.at fun o y => (gk dx q2).trans y, fun f => ?_⟩
        · refine ⟨e, _, _, _, _, .ref (g.ca x), some dx, rfl, J, fun b o y => ?_, ge, ob, ⟨rfl, rfl⟩, rfl, rfl, ?_, rfl, I2.bare, raises_own T.sb T.ty, hQ _ _ _ (P2 (some dx) ρ2 (addF F2 dx) _ (gr_frz L2 hdx) (rl_frz L2 hdx) ?_)⟩
          · have nb : b ≠ e := fun z => by rw [z, ge] at y; cases y
            exact (gk b nb).symm.trans y
          · rw [upd_ne (Ne.symm q2)]
            exact na
          · exact ⟨_, .inr rfl, upd_same, zip_repf (rd.mono (fz_new L2 hdx))⟩
        · by_cases hf : f ∈ fs
          · obtain ⟨i, ei⟩ := List.mem_iff_getElem?.mp hf
            have lt : i < vs.length := by rw [lvs]; exact (List.getElem?_eq_some_iff.mp ei).1
            obtain ⟨u, hu, ru⟩ := vals_at r1 (List.getElem?_eq_getElem lt)
            rw [zip_look nd ei (List.getElem?_eq_getElem lt), q4 i f u ei hu]
            exact ru
          · rw [zip_lookn hf, q5 f hf]
            exact True.intro
    · exact P2.elim
  · exact P2.elim
/-- raise C(e, ..) -/
theorem raise_ok (o : COk g G ow X c wx) {x : Str} {fs : List Str} {p pos rpos : Pos} {es : List Expr} {k : Nat} {ma : EnvM → Store → R (List W)} (hx : ow.xmk x = some fs) (nd : fs.Nodup) (hc : c.calm = true) (hck : c.k = k + 1) (hg : isGlob c x = true) (hp : plainName x = true) (hs : noStar es = true)
    (h0 : es = [] → ∀ env S, ma env S = .ok [] S) (ha : PA X es (tA g wx ma)) :
    PS X (.Raise (some (.Call (.Name x p) es [] pos)) none rpos) (tS g wx fun env S => RS.ofR env ((ma env S).bind fun as S1 => excM x fs as S1) fun _ _ => .bad) := by
  refine ps_mono (ps_raise (o.calm hc) o.tk (pmk_x o hx nd hc hck hg hp hs h0 ha)) ?_
  rintro D σ H ⟨ρ, F, S, env, L, E, P⟩
  refine ⟨⟨ρ, F, S, env, L, E, PostS.ofR E P fun w S1 v ρ1 F1 H1 q z L1 r1 P1 => P1⟩, fun _ _ _ h => h⟩
end
end Mi

namespace Mi
open PySem L2 PySem.Spec PyProof.Rows

/-! ### e.f of a held exception -/
section
variable {g : Gx} {G : GTab} {ow : Own} {X : Cx} {c : Ctx} {wx : WX}
/-- the place of an error's field, in its class -/
def fldX (ow : Own) (f : Str) (w : W) (S : Store) : R W := match w with
  | .x cn fs => if ow.xflds.contains (cn, f) then match fs.lookup f with
        | some x => .ok (.d x) S
        | none => .bad
      else .bad
  | w => fldW ow f w S
theorem repf_look {F : Addr → Prop} {H : Hp} {f : Str} : ∀ {fs : List (Str × V)} {gs : List (Str × D)} {x : D}, RepF g F H fs gs → gs.lookup f = some x → ∃ v, fs.lookup f = some v ∧ Rep g F H v x
  | _, _, _, .nil, h => by cases h
  | (k, v) :: fs, _, x, .cons (x := y) a r, h => by
    rw [List.lookup_cons] at h ⊢
    cases q : f == k with
    | true => rw [q] at h; cases h; exact ⟨v, rfl, a⟩
    | false => rw [q] at h; exact repf_look r h
theorem fldX_ok (o : COk g G ow X c wx) {e : Expr} {m : EnvM → Store → R W} {f : Str} {pos : Pos} (hb : notBase e = true) (h : PE X e (tE g wx m)) : PE X (.Attribute e f pos) (tE g wx fun env S => (m env S).bind (fldX ow f)) := by
  refine ⟨fun pins s σ H Q I ⟨ρ, F, S, env, L, E, P⟩ => ?_⟩
  by_cases hm : ∃ cn fs S1, m env S = .ok (.x cn fs) S1
  · obtain ⟨cn, fs, S1, hm⟩ := hm
    dsimp only at P
    rw [hm] at P
    change Post g wx σ (rpW g) ρ S.length F H Q (fldX ow f (.x cn fs) S1) at P
    unfold fldX at P
    dsimp only at P
    split at P
    · rename_i hin
      · split at P
        · rename_i x hl
          refine attr_of (base_eq hb f X.env) (thn (h.run pins s σ H (fun v H1 => ∃ y, g.xa = some y ∧ v = .ref y.a ∧ ∃ (dd : Addr) (us : List (Str × V)) (u : V), y.d = some dd ∧ y.c = cn ∧ H1 dd = some (.xd us) ∧ us.lookup f = some u ∧ Q u H1) I ⟨ρ, F, S, env, L, E, ?_⟩) fun u s1 ⟨v, H1, I1, rv, y, hy, ev, dd, us, u1, e1, e2, e3, e4, q⟩ => ?_)
          · rw [hm]
            rintro v ρ1 F1 H1 z L1 ⟨y, hy, ev, er, rfl, rfl⟩
            cases ed : y.d with
            | none =>
              rw [ed] at er
              have er : y.fs = [] := er
              rw [er] at hl
              cases hl
            | some dd =>
              rw [ed] at er
              obtain ⟨us, k1, k2, k3⟩ := er
              obtain ⟨u1, k4, k5⟩ := repf_look k3 hl
              exact ⟨y, hy, ev, dd, us, u1, ed, rfl, k2, k4, P u1 ρ1 F1 H1 z L1 k5⟩
          · subst ev
            obtain rfl : u = Value.ref y.a := rv
            obtain ⟨hx, oe, hpn, hz, vs, hd⟩ := o.held y hy
            have T := o.ct.xc y.c hx
            rw [← o.K] at T
            obtain ⟨ha, _⟩ := I1.pin (y.a, oe) (List.mem_append_left _ hpn)
            obtain ⟨mA, hns, hr⟩ := (show ObjOk X.prog X.w H1 s1.heap dd (.xd us) from I1.hok dd _ e3)
            obtain ⟨od, ho, hlk⟩ := lookIn_ns hns
            obtain ⟨u2, hu, ru⟩ := RelO.some_of (v := u1) (o := mA f) (by rw [← e4]; exact hr f)
            have J : PySem.W.InstAt s1.heap y.a oe (g.ca y.c) (some od) := ⟨ha, hz.1, by unfold PySem.W.notCls; rw [hd] <;> rfl, by rw [hz.2, e1]; exact ho⟩
            have hn : PySem.W.findIn X.K (.ref (g.ca y.c)) f = some none := by
              rw [e2, o.K]
              exact o.ct.xf cn f (List.contains_iff_mem.mp hin)
            exact HandSPX.exc_get I1.kIn J T.ga T.gg T.sb (PySem.W.findObj_own T.hd hn rfl (by rw [hlk, hu])) (handed_of ru) ⟨u1, H1, I1.tok _, ru, q⟩
        · exact P.elim
    · exact P.elim
  · refine (fld_ok o hb h).run pins s σ H Q I ⟨ρ, F, S, env, L, E, ?_⟩
    dsimp only at P ⊢
    cases e : m env S with
    | bad => rw [e] at P; exact P
    | exc cc fs S1 => rw [e] at P; exact P
    | ok w S1 =>
      rw [e] at P
      cases w with
      | x => exact absurd ⟨_, _, S1, e⟩ hm
      | d x => exact P
      | o n => exact P
end

/-! ### isinstance -/
section
variable {g : Gx} {G : GTab} {ow : Own} {X : Cx} {c : Ctx} {wx : WX}
def kdOf (G : GTab) (ow : Own) (c : Ctx) (x : Str) : Option Kd := if isGlob c x && plainName x then (if ow.clss.contains x then some (.c x) else match G.lookup x with
    | some (.bt T) => some (.b T)
    | _ => none) else none
def kdsOf (G : GTab) (ow : Own) (c : Ctx) : List Expr → Option (List Kd)
  | [] => some []
  | .Name x _ :: r => (kdOf G ow c x).bind fun k => (kdsOf G ow c r).map (k :: ·)
  | _ => none
def tyD (ow : Own) : D → Option Kd
  | .non => some (.b "NoneType")
  | .bl _ => some (.b "bool")
  | .int _ => some (.b "int")
  | .str _ => some (.b "str")
  | .tup _ => some (.b "tuple")
  | .lst _ => some (.b "list")
  | .scr _ => some (.b "list")
  | .ins cn _ => if ow.ins.contains cn then some (.c cn) else none
def tyW (ow : Own) (S : Store) : W → Option Kd
  | .d x => tyD ow x
  | .o n => match S[n]? with
    | some (.lst _) => some (.b "list")
    | some (.ins cn _) => if ow.ins.contains cn then some (.c cn) else none
    | _ => none
  | .x cn _ => if ow.xcs.contains cn then some (.c cn) else none
def isaAny (ow : Own) (k : Kd) : List Kd → Option Bool
  | [] => some false
  | q :: r => match ow.isa k q with
    | some true => some true
    | some false => isaAny ow k r
    | none => none
def isiM (ow : Own) (ks : List Kd) (w : W) (S : Store) : R W := match tyW ow S w with
  | some k => match isaAny ow k ks with
    | some b => .ok (.d (.bl b)) S
    | none => .bad
  | none => .bad
theorem isaAny_ok (T : ClsT g X.mg ow) {k : Kd} : ∀ {ks : List Kd} {b : Bool}, isaAny ow k ks = some b → PySem.W.kitAny g.K (k.val g) (ks.map (Kd.val g)) = some b
  | [], b, h => h
  | q :: r, b, h => by
    unfold isaAny at h
    split at h
    · rename_i e
      cases h
      exact kitAny_cons (T.isa _ _ _ e) (fun z => nomatch z) fun _ => rfl
    · rename_i e
      exact kitAny_cons (T.isa _ _ _ e) (fun _ => isaAny_ok T h) fun z => nomatch z
    · cases h
theorem kit_W (o : COk g G ow X c wx) {pins : List (Addr × Obj)} {σ : L2.St} {H : Hp} {s : Shared} {ρ : Nat → Addr} {F : Addr → Prop} {S : Store} {w : W} {v : V} {u : Value} {k : Kd} (I : Inv X pins σ H s) (L : Rl g ρ F H S) (rv : RelV v u) (r : RepW g ρ S.length F H v w) (h : tyW ow S w = some k) :
    ∃ P : Heap → Prop, PySem.W.KitX X.K u (k.val g) P ∧ P s.heap ∧ u ≠ .builtin "__main__.__loader__#opaque" := by
  have own : ∀ {a dx : Addr} {cn : Str} {fs : List (Str × V)}, H a = some (.ins (g.ca cn) dx fs) → ow.ins.contains cn = true → TyX X.K H (.ref a) (.ref (g.ca cn)) := fun e hc => by
    have T := o.ct.ins _ (List.contains_iff_mem.mp hc)
    rw [← o.K] at T
    exact .base (.ins e T.cl T.ha T.hn T.ht T.hm)
  have tup : ∀ {a : Addr} {vs : List V}, SqT X.K H a vs → TyX X.K H (.ref a) (.type "tuple") := fun {a vs} q => by
    rcases q with q | ⟨ob, _, _, e, ec, _⟩
    · rcases q with q | ⟨ob, q⟩
      · exact .base (.tup q)
      · exact .fTuple q
    · exact .kTuple e ec
  have lst : ∀ {a : Addr} {vs : List V}, SqL X.K H a vs → TyX X.K H (.ref a) (.type "list") := fun {a vs} q => by
    rcases q with q | ⟨ob, _, _, e, ec, _⟩
    · rcases q with q | ⟨ob, q⟩
      · exact .base (.lst q)
      · exact .base (.frz q)
    · exact .kList e ec
  cases w with
  | d x =>
    have h : tyD ow x = some k := h
    cases r with
    | non => cases h; exact kit_of I rv (.base .non)
    | bl b => cases h; exact kit_of I rv (.base (.bl b))
    | int i => cases h; exact kit_of I rv (.base (.int i))
    | str y => cases h; exact kit_of I rv (.base (.str y))
    | tup f e q => cases h; exact kit_of I rv (.base (.tup e))
    | tupK e q => cases h; exact kit_of I rv (tup (o.K ▸ e _))
    | lst f e q => cases h; exact kit_of I rv (.base (.lst e))
    | scr f e => cases h; exact kit_of I rv (lst (o.K ▸ e))
    | @ins _ _ cn _ gs f e q =>
      have h : (if ow.ins.contains cn then some (Kd.c cn) else none) = some k := h
      split at h
      · rename_i hc
        cases h
        exact kit_of I rv (own e hc)
      · cases h
  | o n =>
    have ev := r.2
    subst ev
    unfold tyW at h
    dsimp only at h
    split at h
    · rename_i e
      cases h
      obtain ⟨vs, h1, _⟩ := L.at_ n _ e
      exact kit_of I rv (.base (.lst h1))
    · rename_i cn fs e
      split at h
      · rename_i hc
        cases h
        obtain ⟨dx, vs, h1, _⟩ := L.at_ n _ e
        exact kit_of I rv (own h1 hc)
      · cases h
    · cases h
  | x =>
    obtain ⟨y, hy, ev, er, rfl, rfl⟩ := r
    subst ev
    obtain rfl : u = Value.ref y.a := rv
    obtain ⟨hx, oe, hpn, hz, vs, hd⟩ := o.held y hy
    unfold tyW at h
    dsimp only at h
    split at h
    · cases h
      have T := o.ct.xc y.c hx
      rw [← o.K] at T
      obtain ⟨ha, _⟩ := I.pin (y.a, oe) (List.mem_append_left _ hpn)
      have nc : PySem.W.notCls oe = true := by unfold PySem.W.notCls; rw [hd] <;> rfl
      cases ed : y.d with
      | none => exact ⟨_, PySem.W.kitx_exc (ox := oe) (od := none) T.hc T.ga T.gg T.sb T.ha T.hn T.ht T.hm, ⟨ha, hz.1, nc, by rw [hz.2, ed]; trivial⟩, fun z => nomatch z⟩
      | some dd =>
        rw [ed] at er
        obtain ⟨us, k1, k2, k3⟩ := er
        obtain ⟨mA, hns, _⟩ := (show ObjOk X.prog X.w H s.heap dd (.xd us) from I.hok dd _ k2)
        obtain ⟨od, ho, _⟩ := lookIn_ns hns
        exact ⟨_, PySem.W.kitx_exc (ox := oe) (od := some od) T.hc T.ga T.gg T.sb T.ha T.hn T.ht T.hm, ⟨ha, hz.1, nc, by rw [hz.2, ed]; exact ho⟩, fun z => nomatch z⟩
    · cases h
/-- a class's name, read -/
theorem kd_load (o : COk g G ow X c wx) {x : Str} {k : Kd} (h : kdOf G ow c x = some k) {E : Value → Shared → Prop} {pins : List (Addr × Obj)} {s : Shared} {σ : L2.St} {H : Hp} {pos : Pos} {Q : Value → Shared → Prop} (I : Inv X pins σ H s) (q : Q (k.val g) s) : wpAny (model X.prog X.w) X.A (eval (.Name x pos) X.env) Q E s := by
  unfold kdOf at h
  split at h
  · rename_i hg
    rw [Bool.and_eq_true] at hg
    obtain ⟨p1, p2, p3⟩ := plainName_ok hg.2
    split at h
    · rename_i hc
      cases h
      exact ld_glob I (o.glo x hg.1) (o.ct.nm x (List.contains_iff_mem.mp hc)) q p1
    · split at h
      · rename_i T e
        cases h
        obtain ⟨q1, q2⟩ := o.bt x T e
        exact ld_blt I (o.glo x hg.1) q1 q2 q p3 p1
      · cases h
  · cases h
theorem isi1_ok (o : COk g G ow X c wx) {f : Str} {e : Expr} {x : Str} {p q pos : Pos} {k : Kd} {m : EnvM → Store → R W} (hf : G.lookup f = some (.bf "isinstance")) (hg : isGlob c f = true) (hp : plainName f = true) (hk : kdOf G ow c x = some k) (hs : isStar e = false) (he : PE X e (tE g wx m)) :
    PE X (.Call (.Name f p) [e, .Name x q] [] pos) (tE g wx fun env S => (m env S).bind fun w S1 => isiM ow [k] w S1) := by
  obtain ⟨f1, f2⟩ := o.bf f _ hf
  obtain ⟨p1, p2, p3⟩ := plainName_ok hp
  refine ⟨fun pins s σ H Q I ⟨ρ, F, S, env, L, E, P⟩ => ?_⟩
  refine wpAny_Call_Name_kw (ld_blt I (o.glo f hg) f1 f2 ?_ p3 p1)
  refine callWith_builtin1 (args_cons (thn (he.run pins s σ H (fun v H1 => ∃ ρ1 F1 S1 w, Rl g ρ1 F1 H1 S1 ∧ RepW g ρ1 S1.length F1 H1 v w ∧ Post g wx σ (rpW g) ρ1 S1.length F1 H1 Q (isiM ow [k] w S1)) I ⟨ρ, F, S, env, L, E, Post.seq P fun w S1 v ρ1 F1 H1 _ z L1 r1 P1 => ⟨ρ1, F1, S1, w, L1, r1, P1⟩⟩)
    fun u s1 ⟨v, H1, I1, rv, ρ1, F1, S1, w, L1, r1, P1⟩ => args_cons (kd_load o hk I1 (args_nil ?_)) rfl) (star_cons hs _ _)) (star_cons hs _ _) rfl
  unfold isiM at P1
  split at P1
  · rename_i k1 hk1
    split at P1
    · rename_i b hb
      obtain ⟨Pk, Z, pz, ne⟩ := kit_W o I1 L1 rv r1 hk1
      have e1 : PySem.W.kitOne X.K (k1.val g) (k.val g) = some b := by
        rw [o.K]
        unfold isaAny at hb
        split at hb
        · rename_i e; cases hb; exact o.ct.isa _ _ _ e
        · rename_i e; cases hb; exact o.ct.isa _ _ _ e
        · cases hb
      exact PySem.W.kia_one Z I1.kIn pz e1 ne fun tk => ⟨.bl b, H1, I1.tok tk, rfl, P1.val L1 (.bl b)⟩
    · exact P1.elim
  · exact P1.elim
end
end Mi

namespace Mi
open PySem L2 PySem.Spec PyProof.Rows

/-! ### isinstance(x, (A, B, ..)) -/
def Kd.vv (g : Gx) : Kd → V
  | .b T => .ty T
  | .c n => .ref (g.ca n)
section
variable {g : Gx} {G : GTab} {ow : Own} {X : Cx} {c : Ctx} {wx : WX}
theorem Kd.rel (k : Kd) : RelV (k.vv g) (k.val g) := by cases k <;> rfl
theorem pe_kd (o : COk g G ow X c wx) {x : Str} {k : Kd} {p : Pos} (h : kdOf G ow c x = some k) : PE X (.Name x p) (fun σ H Q => Q (k.vv g) H) :=
  ⟨fun pins s σ H Q I q => kd_load o h I ⟨k.vv g, H, I, k.rel, q⟩⟩
theorem pa_kds (o : COk g G ow X c wx) : ∀ {es : List Expr} {ks : List Kd}, kdsOf G ow c es = some ks → PA X es (fun σ H Q => Q (ks.map (Kd.vv g)) H)
  | [], ks, h => by
    cases h
    exact pa_nil
  | e :: es, ks, h => by
    cases e with
    | Name x p =>
      simp only [kdsOf] at h
      obtain ⟨k, h1, h2⟩ := Option.bind_eq_some_iff.mp h
      obtain ⟨ks2, h3, rfl⟩ := Option.map_eq_some_iff.mp h2
      exact pa_mono (pa_cons (pe_kd o h1) (pa_kds o h3)) fun σ H Q q => q
    | _ => simp [kdsOf] at h
theorem any_kit (o : COk g G ow X c wx) {k : Kd} {b : Bool} : ∀ {ks : List Kd}, isaAny ow k ks = some b → PySem.W.kitAny X.K (k.val g) (ks.map (Kd.val g)) = some b
  | [], h => h
  | q :: r, h => by
    unfold isaAny at h
    rw [List.map_cons]
    unfold PySem.W.kitAny
    split at h
    · rename_i e
      cases h
      rw [o.K, o.ct.isa _ _ _ e]
    · rename_i e
      have z := o.ct.isa _ _ _ e
      rw [← o.K] at z
      rw [z]
      exact any_kit o h
    · cases h
theorem vals_kds (g : Gx) : ∀ {ks : List Kd} {us : List Value}, Vals (ks.map (Kd.vv g)) us → us = ks.map (Kd.val g)
  | [], _, h => by cases h; rfl
  | k :: r, _, h => by
    cases h with
    | cons a t =>
      rw [List.map_cons, vals_kds g t]
      congr 1
      cases k <;> exact a
theorem isiT_ok (o : COk g G ow X c wx) {f : Str} {e : Expr} {es : List Expr} {j : Nat} {p q pos : Pos} {ks : List Kd} {m : EnvM → Store → R W} (hf : G.lookup f = some (.bf "isinstance")) (hg : isGlob c f = true) (hp : plainName f = true) (hk : kdsOf G ow c es = some ks) (hl : ks.length ≤ 1000) (hs : isStar e = false) (he : PE X e (tE g wx m)) :
    PE X (.Call (.Name f p) [e, .Tuple es j q] [] pos) (tE g wx fun env S => (m env S).bind fun w S1 => isiM ow ks w S1) := by
  obtain ⟨f1, f2⟩ := o.bf f _ hf
  obtain ⟨p1, p2, p3⟩ := plainName_ok hp
  refine ⟨fun pins s σ H Q I ⟨ρ, F, S, env, L, E, P⟩ => ?_⟩
  refine wpAny_Call_Name_kw (ld_blt I (o.glo f hg) f1 f2 ?_ p3 p1)
  have tp := pe_tup (x1 := j) (pos := q) (pa_kds o hk)
  refine callWith_builtin1 (args_cons (thn (he.run pins s σ H (fun v H1 => ∃ ρ1 F1 S1 w, Rl g ρ1 F1 H1 S1 ∧ RepW g ρ1 S1.length F1 H1 v w ∧ Post g wx σ (rpW g) ρ1 S1.length F1 H1 Q (isiM ow ks w S1)) I ⟨ρ, F, S, env, L, E, Post.seq P fun w S1 v ρ1 F1 H1 _ z L1 r1 P1 => ⟨ρ1, F1, S1, w, L1, r1, P1⟩⟩)
    fun u s1 ⟨v, H1, I1, rv, ρ1, F1, S1, w, L1, r1, P1⟩ => args_cons (thn (tp.run pins s1 σ H1 (fun v2 H2 => ∃ t, v2 = .ref t ∧ H1 t = none ∧ H2 = upd H1 t (.tup (ks.map (Kd.vv g)))) I1 ⟨by rw [List.length_map]; exact Nat.le_trans hl (by decide), fun t ht => ⟨t, rfl, ht, rfl⟩⟩) fun u2 s2 ⟨v2, H2, I2, rv2, t, e1, e2, e3⟩ => args_nil ?_) rfl) (star_cons hs _ _)) (star_cons hs _ _) rfl
  subst e1 e3
  obtain rfl : u2 = Value.ref t := rv2
  have L2 := rl_frz (o := .tup (ks.map (Kd.vv g))) L1 e2
  have zz := gr_frz (o := .tup (ks.map (Kd.vv g))) L1 e2
  have r2 := r1.mono zz
  have P2 := Post.step zz P1
  unfold isiM at P2
  split at P2
  · rename_i k1 hk1
    split at P2
    · rename_i b hb
      obtain ⟨Pk, Z, pz, ne⟩ := kit_W o I2 L2 rv r2 hk1
      obtain ⟨_, its, hv, obj, i1, i2, nn, i3⟩ := (show ObjOk X.prog X.w _ s2.heap t (.tup (ks.map (Kd.vv g))) from I2.hok t _ upd_same)
      obtain ⟨oc, od, odt, os⟩ := obj
      dsimp only at i2 i3
      subst i2 i3
      have hv := vals_kds g hv
      subst hv
      exact PySem.W.kia_tup Z I2.kIn pz i1 (any_kit o hb) ne fun tk => ⟨.bl b, _, I2.tok tk, rfl, P2.val L2 (.bl b)⟩
    · exact P2.elim
  · exact P2.elim
end
end Mi

namespace Mi
open PySem L2 PySem.Spec PyProof.Rows

/-! ### calls of built-in functions and classes -/
section
variable {g : Gx} {G : GTab} {ow : Own} {X : Cx} {c : Ctx} {wx : WX}
theorem rws_of {m : List W → Store → R W} {ma : EnvM → Store → R (List W)} : ∀ σ H Q, tE g wx (fun env S => (ma env S).bind m) σ H Q → tCB (rWs g m) (tA g wx ma) σ H Q := by
  rintro σ H Q ⟨ρ, F, S, env, L, E, P⟩
  exact ⟨ρ, F, S, env, L, E, Post.seq P fun as S1 vs ρ1 F1 H1 _ z L1 r1 P1 => ⟨wx, σ, ρ1, F1, S1, as, L1, r1, P1⟩⟩
theorem callbf_ok (o : COk g G ow X c wx) {f : Str} {id : String} {p pos : Pos} {e : Expr} {es : List Expr} {ma : EnvM → Store → R (List W)} (hf : G.lookup f = some (.bf id)) (hg : isGlob c f = true) (hp : plainName f = true) (hs : noStar (e :: es) = true) (ha : PA X (e :: es) (tA g wx ma)) :
    PE X (.Call (.Name f p) (e :: es) [] pos) (tE g wx fun env S => (ma env S).bind (callB c.calm id)) := by
  obtain ⟨f1, f2⟩ := o.bf f _ hf
  obtain ⟨p1, p2, p3⟩ := plainName_ok hp
  simp only [noStar, List.all_cons, Bool.and_eq_true, Bool.not_eq_true'] at hs
  exact pe_mono (pe_callB (callB_ok o.K o.calm id) (o.glo f hg) f1 f2 ha p3 p1 (star_cons hs.1 _ _) (noStar_any (by simpa [noStar] using hs.2) _ _)) rws_of
theorem callbt_ok (o : COk g G ow X c wx) (box : Bool) {f : Str} {T : String} {p pos : Pos} {e : Expr} {es : List Expr} {ma : EnvM → Store → R (List W)} (hf : G.lookup f = some (.bt T)) (hg : isGlob c f = true) (hp : plainName f = true) (hs : noStar (e :: es) = true) (ha : PA X (e :: es) (tA g wx ma)) :
    PE X (.Call (.Name f p) (e :: es) [] pos) (tE g wx fun env S => (ma env S).bind (if box then boxTy T else callTy T)) := by
  obtain ⟨f1, f2⟩ := o.bt f _ hf
  obtain ⟨p1, p2, p3⟩ := plainName_ok hp
  simp only [noStar, List.all_cons, Bool.and_eq_true, Bool.not_eq_true'] at hs
  have h2 := noStar_any (es := es) (by simpa [noStar] using hs.2) X.env pos
  cases box with
  | true => exact pe_mono (pe_callTy (boxTy_ok o.K T) (o.glo f hg) f1 f2 ha p3 p1 (star_cons hs.1 _ _) h2) rws_of
  | false => exact pe_mono (pe_callTy (callTy_ok o.K T) (o.glo f hg) f1 f2 ha p3 p1 (star_cons hs.1 _ _) h2) rws_of

/-! ### methods of lists -/
def mtName (m : Str) : Option String := if m = ("append" : Str) then some "list.append" else if m = ("extend" : Str) then some "list.extend" else if m = ("pop" : Str) then some "list.pop" else if m = ("remove" : Str) then some "list.remove" else none
theorem mtName_ok {m : Str} {id : String} (h : mtName m = some id) : Slot "list" m id ∧ typeOf (.builtin id) = pure (.type "method_descriptor") := by
  unfold mtName at h
  split at h
  · subst m; cases h; exact ⟨PySem.F.slot_list_append, PySem.F.type_list_append⟩
  split at h
  · subst m; cases h; exact ⟨PySem.F.slot_list_extend, PySem.F.type_list_extend⟩
  split at h
  · subst m; cases h; exact ⟨PySem.F.slot_list_pop, PySem.F.type_list_pop⟩
  split at h
  · subst m; cases h; exact ⟨PySem.F.slot_list_remove, PySem.F.type_list_remove⟩
  · cases h
def isLst (S : Store) : W → Bool
  | .o n => match S[n]? with
    | some (.lst _) => true
    | _ => false
  | _ => false
theorem few_nil {es : List Expr} (h : fewForm es [] = true) (env : Env) (pos : Pos) : ((backTo pos (starEach es env)).all (fun x => !x.1) && (backToKw pos (keywordEach [] env)).all (fun x => x.1.isSome)
      && decide (es.length + ([] : List Keyword).length + (if ([] : List Keyword).isEmpty then 0 else 1) < 30)) = true := by
  simp only [fewForm, Bool.and_eq_true] at h
  rw [noStar_all h.1.1, (kw_all (kws := []) rfl env pos).1]
  simpa using h.2
theorem isLst_V {ρ : Nat → Addr} {F : Addr → Prop} {H : Hp} {S : Store} {w : W} {v : V} (L : Rl g ρ F H S) (r : RepW g ρ S.length F H v w) (h : isLst S w = true) : ∃ a vs, v = .ref a ∧ H a = some (.lst vs) := by
  cases w with
  | o n =>
    unfold isLst at h
    dsimp only at h
    split at h
    · rename_i ws e
      obtain ⟨vs, h1, _⟩ := L.at_ n _ e
      exact ⟨_, vs, r.2, h1⟩
    · cases h
  | d x => cases h
  | x => cases h
theorem lmeth_ok (o : COk g G ow X c wx) {e : Expr} {m : Str} {id : String} {apos pos : Pos} {es : List Expr} {me : EnvM → Store → R W} {ma : EnvM → Store → R (List W)} (hm : mtName m = some id) (hb : notBase e = true) (hf : fewForm es [] = true) (hl : (apos.endLine == pos.line) = true)
    (h0 : es = [] → ∀ env S, ma env S = .ok [] S) (he : PE X e (tE g wx me)) (ha : PA X es (tA g wx ma)) :
    PE X (.Call (.Attribute e m apos) es [] pos) (tE g wx fun env S => (me env S).bind fun w S0 => if isLst S0 w then (ma env S0).bind fun as S1 => mtW id w as S1 else .bad) := by
  obtain ⟨sl, ty⟩ := mtName_ok hm
  have hun : X.A.units + 200 < cLine := o.un
  cases es with
  | nil =>
    refine pe_mono (pe_bm0 PySem.F.plainAttrs_list sl ty (mt_ok hun o.K id) he (base_eq hb m X.env) hl) ?_
    rintro σ H Q ⟨ρ, F, S, env, L, E, P⟩
    refine ⟨ρ, F, S, env, L, E, Post.seq P fun w S1 v ρ1 F1 H1 _ z L1 r1 P1 => ?_⟩
    split at P1
    · rename_i hi
      obtain ⟨a, vs, rfl, h1⟩ := isLst_V L1 r1 hi
      rw [h0 rfl] at P1
      exact ⟨.inl ⟨rfl, vs, SqL.of h1⟩, wx, σ, ρ1, F1, S1, w, [], L1, r1, .nil, P1⟩
    · exact P1.elim
  | cons e1 es =>
    have hs := hf
    simp only [fewForm, Bool.and_eq_true, noStar, List.all_cons, Bool.not_eq_true'] at hs
    refine pe_mono (pe_bm PySem.F.plainAttrs_list sl ty (mt_ok hun o.K id) he ha (base_eq hb m X.env) (few_nil hf X.env pos) hl (star_cons hs.1.1.1 _ _) (noStar_any (by simpa [noStar] using hs.1.1.2) _ _)) ?_
    rintro σ H Q ⟨ρ, F, S, env, L, E, P⟩
    refine ⟨ρ, F, S, env, L, E, Post.seq P fun w S1 v ρ1 F1 H1 _ z L1 r1 P1 => ?_⟩
    split at P1
    · rename_i hi
      obtain ⟨a, vs, rfl, h1⟩ := isLst_V L1 r1 hi
      refine ⟨.inl ⟨rfl, vs, SqL.of h1⟩, ρ1, F1, S1, env, L1, E.mono z, Post.seq P1 fun as S2 us ρ2 F2 H2 _ z2 L2 r2 P2 => ?_⟩
      exact ⟨wx, σ, ρ2, F2, S2, w, as, L2, r1.mono z2, r2, P2⟩
    · exact P1.elim
end

/-! ### try -/
/-- statements, by a run of the same kind -/
abbrev RunS := Ctx → List Stmt → EnvM → Store → RS
def suitC (c : Ctx) : Ctx := { c with calm := false }
/-- the slot of a clause's name -/
def asSlot (c : Ctx) (n : Option Str) : Option (Option Nat) := match n with
  | none => some none
  | some n => match kindOf c n with
    | some .local => (slotOf c n).map some
    | _ => none
def hdlM (G : GTab) (ow : Own) (r : RunS) (c : Ctx) : List ExceptHandler → Str → List (Str × D) → EnvM → Store → RS
  | [], cn, fs, env, S => .exc cn fs env S
  | .ExceptHandler (some (.Name x _)) n su _ :: hs, cn, fs, env, S => match kdOf G ow c x, asSlot c n with
    | some k, some i => match ow.exm cn k with
      | some true => if ow.xcs.contains cn then ((r (suitC c) su (match i with | some i => env.set i (some (.x cn fs)) | none => env) S).nox).unname i else .bad
      | some false => hdlM G ow r c hs cn fs env S
      | none => .bad
    | _, _ => .bad
  | _ :: _, _, _, _, _ => .bad
/-- the clauses' forms -/
def hdsC (G : GTab) (ow : Own) (c : Ctx) : List ExceptHandler → Bool
  | [] => true
  | .ExceptHandler (some (.Name x _)) n (_ :: _) _ :: hs => (kdOf G ow c x).isSome && (asSlot c n).isSome && hdsC G ow c hs
  | _ => false
def tryM (G : GTab) (ow : Own) (r : RunS) (c : Ctx) (body : List Stmt) (hs : List ExceptHandler) (env : EnvM) (S : Store) : RS := match r c body env S with
  | .exc cn fs env' S' => hdlM G ow r c hs cn fs env' S'
  | q => q
section
variable {G : GTab} {ow : Own}
structure SSv (G : GTab) (ow : Own) (r : RunS) : Prop where
  s : ∀ (g : Gx) (X : Cx) (c : Ctx) (wx : WX) (ss : List Stmt), COk g G ow X c wx → PSs X ss (tS g wx (r c ss))
variable {g : Gx} {X : Cx} {c : Ctx} {wx : WX}
theorem cok_try (o : COk g G ow X c wx) (hc : c.calm = true) {pn : List (Addr × Obj)} {xe : Value → Shared → Prop} {Wi : WX} (tk : Takes (X.tr pn xe) Wi) (po : PassesOwn (model X.prog X.w) X.A X.env xe) : COk g G ow (X.tr pn xe) c Wi :=
  ⟨o.rm, o.sl, o.gd, o.own, o.ct, o.xn, fun y hy => absurd (hy.symm.trans (o.xn hc)) (fun z => nomatch z), fun _ _ => po, o.top, o.K, o.N, o.nd, o.vis, o.loc, o.glo, o.cf, o.calm, o.un, tk, o.cst, o.bf, o.bt⟩
theorem kd_names (o : COk g G ow X c wx) {x : Str} {k : Kd} (h : kdOf G ow c x = some k) : Names X x (k.val g) := by
  unfold kdOf at h
  split at h
  · rename_i hg
    rw [Bool.and_eq_true] at hg
    obtain ⟨p1, p2, p3⟩ := plainName_ok hg.2
    split at h
    · rename_i hc
      cases h
      exact ⟨o.glo x hg.1, p1, .inl (o.ct.nm x (List.contains_iff_mem.mp hc))⟩
    · split at h
      · rename_i T e
        cases h
        obtain ⟨q1, q2⟩ := o.bt x T e
        exact ⟨o.glo x hg.1, p1, .inr ⟨q1, q2, p3⟩⟩
      · cases h
  · cases h
/-- a suite, whatever exception it holds -/
def suitT (g : Gx) (ow : Own) (r : RunS) (c : Ctx) (su : List Stmt) : Suit := fun a cls d D τ H => ∃ cn fs, cls = .ref (g.ca cn) ∧ cn ∈ ow.xcs ∧ tS (g.hold (some ⟨a, cn, d, fs⟩)) (fun _ _ _ _ => False) (r (suitC c) su) D τ H
theorem suit_ok {r : RunS} (hr : SSv G ow r) (o : COk g G ow X c wx) (hc : c.calm = true) (su : List Stmt) : SuitOk X su (suitT g ow r c su) := by
  intro a oe cls d pn hz hf
  refine ⟨fun pins s σ H D I ⟨cn, fs, e1, hx, q⟩ => ?_⟩
  subst e1
  exact (hr.s _ _ _ _ su (cok_suite o (o.xn hc) hx hz hf)).run pins s σ H D I q
theorem hds_ok {r : RunS} (hr : SSv G ow r) (o : COk g G ow X c wx) (hc : c.calm = true) (ht : c.top = true) : ∀ {hs : List ExceptHandler}, hdsC G ow c hs = true → ∃ l, ClsOk X hs l ∧
    ∀ D cn fs env S ρ n F H, PostS g wx ρ n F H D (hdlM G ow r c hs cn fs env S) → ∀ d σ' ρ' F' H', Gr ρ n F H ρ' S.length F' H' → Rl g ρ' F' H' S → RepEnv g ρ' S.length F' H' σ' env → ExcR g F' H' fs d → wCl X.K wx D l (.ref (g.ca cn)) d σ' H'
  | [], _ => ⟨[], .nil, fun D cn fs env S ρ n F H P d σ' ρ' F' H' z L E x => P d σ' ρ' F' H' z L E x⟩
  | h :: hs, hh => by
    unfold hdsC at hh
    split at hh
    · rename_i heq; cases heq
    · rename_i x np n b0 su hp hs' heq
      cases heq
      rw [Bool.and_eq_true, Bool.and_eq_true] at hh
      obtain ⟨⟨h1, h2⟩, h3⟩ := hh
      obtain ⟨k, hk⟩ := Option.isSome_iff_exists.mp h1
      obtain ⟨i, hi⟩ := Option.isSome_iff_exists.mp h2
      obtain ⟨l, hl, hw⟩ := hds_ok hr o hc ht h3
      refine ⟨(k.val g, i, suitT g ow r c (b0 :: su)) :: l, ?_, ?_⟩
      · have nm := kd_names o hk
        have so := suit_ok hr o hc (b0 :: su)
        cases n with
        | none =>
          cases hi
          exact .bare nm so hl
        | some n =>
          unfold asSlot at hi
          dsimp only at hi
          split at hi
          · rename_i hkn
            obtain ⟨j, hj, rfl⟩ := Option.map_eq_some_iff.mp hi
            obtain ⟨q1, q2⟩ := slot_ok o hj
            obtain ⟨_, _, hsc⟩ := o.top ht
            refine .named nm (o.N ▸ o.nd) q1 ?_ so hl
            show X.env.scope.names.lookup n = _
            rw [hsc]
            exact hkn
          · cases hi
      · intro D cn fs env S ρ n1 F H P d σ' ρ' F' H' z L E xr
        unfold hdlM at P
        rw [hk, hi] at P
        dsimp only at P
        split at P
        · rename_i hm
          split at P
          · rename_i hx
            refine ⟨true, o.K ▸ o.ct.exm cn k true hm, fun _ a ha => ?_, fun z => nomatch z⟩
            have hg := o.xn hc
            have P2 := (PostS.step z P).unhold (y := some ⟨a, cn, d, fs⟩) hg
            have L2 := rl_hold (some ⟨a, cn, d, fs⟩) L (rl_nox hg L)
            have E2 := env_hold (some ⟨a, cn, d, fs⟩) E (env_nox hg E)
            refine ⟨cn, fs, rfl, List.contains_iff_mem.mp hx, ρ', F', S, _, L2, ?_, P2⟩
            cases i with
            | none => exact E2
            | some i => exact set_env E2 ⟨_, rfl, rfl, xr.hold _, rfl, rfl⟩
          · exact P.elim
        · rename_i hm
          exact ⟨false, o.K ▸ o.ct.exm cn k false hm, fun z => absurd z Bool.false_ne_true, fun _ => hw D cn fs env S ρ n1 F H P d σ' ρ' F' H' z L E xr⟩
        · exact P.elim
    · cases hh
theorem try_ok {r : RunS} (hr : SSv G ow r) (o : COk g G ow X c wx) (hc : c.calm = true) (ht : c.top = true) {body : List Stmt} {h0 : ExceptHandler} {hs : List ExceptHandler} {pos : Pos} (hh : hdsC G ow c (h0 :: hs) = true) :
    PS X (.Try body (h0 :: hs) [] [] pos) (tS g wx (tryM G ow r c body (h0 :: hs))) := by
  obtain ⟨l, hl, hw⟩ := hds_ok hr o hc ht hh
  obtain ⟨t1, t2, _⟩ := o.top ht
  refine ps_mono (ps_try (tb := fun Wi => tS g Wi (r c body)) t1 t2 o.tk (fun Wi pn xe tk po => hr.s g _ c Wi body (cok_try o hc tk po)) hl) ?_
  rintro D σ H ⟨ρ, F, S, env, L, E, P⟩
  refine ⟨ρ, F, S, env, L, E, ?_⟩
  unfold tryM at P
  cases e : r c body env S with
  | exc cn fs env' S' =>
    rw [e] at P
    exact hw D cn fs env' S' ρ S.length F H P
  | next e1 S1 => rw [e] at P; exact P
  | ret w1 S1 => rw [e] at P; exact P
  | brk e1 S1 => rw [e] at P; exact P
  | cont e1 S1 => rw [e] at P; exact P
  | bad => rw [e] at P; exact P
end
end Mi

namespace Mi
open PySem L2 PySem.Spec PyProof.Rows

/-! ### a def's end: the cells that it made go, but for what it returns -/
def pureF : List (Str × W) → Option (List (Str × D))
  | [] => some []
  | (k, .d x) :: r => (pureF r).map ((k, x) :: ·)
  | _ :: _ => none
theorem pureF_eq : ∀ {ws : List (Str × W)} {ds : List (Str × D)}, pureF ws = some ds → ws = ds.map fun p => (p.1, W.d p.2)
  | [], _, h => by cases h; rfl
  | (k, .d x) :: r, ds, h => by
    unfold pureF at h
    cases e : pureF r with
    | none => rw [e] at h; cases h
    | some es =>
      rw [e] at h
      cases h
      rw [pureF_eq e]
      rfl
  | (k, .o _) :: _, _, h => by cases h
  | (k, .x _ _) :: _, _, h => by cases h
/-- a cell as data -/
def cellD : Cell → Option D
  | .lst ws => (pureL ws).map D.lst
  | .ins c fs => (pureF fs).map (D.ins c)
  | .dead => none
def finW (keep : Bool) (n : Nat) (w : W) (S : Store) : R W := match cutTo n S with
  | none => .bad
  | some S1 => match w with
    | .d x => .ok (.d x) S1
    | .x _ _ => .bad
    | .o i => if i < n then .ok (.o i) S1 else match S[i]? with
      | none => .bad
      | some cl => if keep then (if cl.below n then .ok (.o n) (S1 ++ [cl]) else .bad) else match cellD cl with
        | some x => .ok (.d x) S1
        | none => match frzW 6 (.o i) S with
          | some (x, S2) => match cutTo n S2 with
            | some S3 => .ok (.d x) S3
            | none => .bad
          | none => .bad
def finM (keep : Bool) (n : Nat) : RS → R W
  | .ret w S => if n ≤ S.length then finW keep n w S else .bad
  | .next _ S => if n ≤ S.length then finW keep n (.d .non) S else .bad
  | .exc c fs _ S => if n ≤ S.length then match cutTo n S with
      | some S1 => .exc c fs S1
      | none => .bad
    else .bad
  | _ => .bad
section
variable {g : Gx} {ρ : Nat → Addr} {F : Addr → Prop} {H : Hp} {S : Store}
theorem cellD_rep {i : Nat} {cl : Cell} {x : D} (L : Rl g ρ F H S) (e : S[i]? = some cl) (h : cellD cl = some x) : Rep g (addF F (ρ i)) H (.ref (ρ i)) x := by
  have r := L.at_ i cl e
  cases cl with
  | lst ws =>
    obtain ⟨ds, h1, rfl⟩ := Option.map_eq_some_iff.mp h
    obtain ⟨vs, h2, h3⟩ := r
    rw [pureL_eq h1] at h3
    exact .lst (.inr rfl) h2 ((ws_reps h3).mono fz_add)
  | ins c fs =>
    obtain ⟨ds, h1, rfl⟩ := Option.map_eq_some_iff.mp h
    obtain ⟨dx, vs, h2, h3⟩ := r
    rw [pureF_eq h1] at h3
    exact .ins (.inr rfl) h2 ((wf_repf h3).mono fz_add)
  | dead => cases h
/-- one cell is kept, at place n -/
theorem rl_move {n i : Nat} {S1 : Store} {cl : Cell} (L : Rl g ρ F H S) (hn : n ≤ S.length) (hc : cutTo n S = some S1) (e : S[i]? = some cl) (hi : n ≤ i) (hb : cl.below n = true) :
    Rl g (fun j => if j = n then ρ i else ρ j) F H (S1 ++ [cl]) ∧ ∀ j, j < n → (if j = n then ρ i else ρ j) = ρ j := by
  obtain ⟨L1, hl⟩ := rl_cut L hn hc
  have lt : i < S.length := (List.getElem?_eq_some_iff.mp e).1
  have keep : ∀ j, j < n → (if j = n then ρ i else ρ j) = ρ j := fun j hj => if_neg (by omega)
  have z : Gr ρ S1.length F H (fun j => if j = n then ρ i else ρ j) (S1 ++ [cl]).length F H := ⟨Fz.refl F H, fun j hj => keep j (by omega), by rw [List.length_append]; omega⟩
  have len : (S1 ++ [cl]).length = n + 1 := by rw [List.length_append, hl]; rfl
  have dif : ∀ j, j < n → ρ j ≠ ρ i := fun j hj q => by
    have := L.inj j i (by omega) lt q
    omega
  refine ⟨⟨fun j c q => ?_, fun j k hj hk q => ?_, fun j c q lv => ?_, fun j hj => ?_, L.fth⟩, keep⟩
  · by_cases h : j < n
    · rw [List.getElem?_append_left (by omega)] at q
      rw [keep j h]
      exact (L1.at_ j c q).mono z rfl
    · rw [List.getElem?_append_right (by omega)] at q
      have hj : j = n := by
        have := (List.getElem?_eq_some_iff.mp q).1
        simp only [List.length_cons, List.length_nil] at this
        omega
      subst hj
      rw [hl, Nat.sub_self] at q
      cases q
      rw [if_pos rfl]
      have r := (L.at_ i cl e).cut hb
      rw [← hl] at r
      have z' : Gr ρ S1.length F H (fun k => if k = j then ρ i else ρ k) (S1 ++ [cl]).length F H := z
      exact r.mono z' rfl
  · rw [len] at hj hk
    by_cases h1 : j = n
    · by_cases h2 : k = n
      · omega
      · rw [if_pos h1, if_neg h2] at q
        exact absurd q.symm (dif k (by omega))
    · by_cases h2 : k = n
      · rw [if_neg h1, if_pos h2] at q
        exact absurd q (dif j (by omega))
      · rw [if_neg h1, if_neg h2] at q
        exact L.inj j k (by omega) (by omega) q
  · have hj : j < (S1 ++ [cl]).length := (List.getElem?_eq_some_iff.mp q).1
    rw [len] at hj
    by_cases h1 : j = n
    · subst h1
      rw [List.getElem?_append_right (by omega), hl, Nat.sub_self] at q
      cases q
      rw [if_pos rfl]; exact L.nf i cl e lv
    · rw [if_neg h1]
      rw [List.getElem?_append_left (by omega)] at q
      exact L1.nf j c q lv
  · rw [len] at hj
    by_cases h1 : j = n
    · rw [if_pos h1]; exact L.there i lt
    · rw [if_neg h1]; exact L.there j (by omega)
theorem finW_ok {wx : WX} {σ : L2.St} {Q : VK} {ρ0 : Nat → Addr} {n : Nat} {F0 : Addr → Prop} {H0 : Hp} {keep : Bool} {w : W} {v : V} (z : Gr ρ0 n F0 H0 ρ S.length F H) (L : Rl g ρ F H S) (r : RepW g ρ S.length F H v w) (P : Post g wx σ (rpW g) ρ0 n F0 H0 Q (finW keep n w S)) : Q v H := by
  unfold finW at P
  split at P
  · exact P.elim
  · rename_i S1 hc
    obtain ⟨L1, hl⟩ := rl_cut L z.le hc
    have z1 : Gr ρ0 n F0 H0 ρ S1.length F H := ⟨z.fz, z.pl, by omega⟩
    split at P
    · exact P v ρ F H z1 L1 r
    · exact P.elim
    · rename_i i
      split at P
      · rename_i hi
        exact P v ρ F H z1 L1 ⟨by omega, r.2⟩
      · rename_i hi
        split at P
        · exact P.elim
        · rename_i cl e
          split at P
          · split at P
            · rename_i hb
              obtain ⟨L2, kp⟩ := rl_move L z.le hc e (by omega) hb
              refine P v _ F H ⟨z.fz, fun j hj => (kp j hj).trans (z.pl j hj), by rw [List.length_append]; omega⟩ L2 ⟨by rw [List.length_append, hl]; exact Nat.lt_succ_self _, ?_⟩
              show v = .ref (if n = n then ρ i else ρ n)
              rw [if_pos rfl]
              exact r.2
            · exact P.elim
          · split at P
            · rename_i x hx
              have ev := r.2
              subst ev
              have rr := cellD_rep L e hx
              have lt : i < S.length := (List.getElem?_eq_some_iff.mp e).1
              refine P _ ρ (addF F (ρ i)) H ⟨z.fz.trans fz_add, z.pl, by omega⟩ (rl_add L1 (fun j hj q => ?_) (L.there i lt)) rr
              have := L.inj j i (by omega) lt q
              omega
            · split at P
              · rename_i x S2 hx
                split at P
                · rename_i S3 hc3
                  obtain ⟨F2, z2, L2, l2, q⟩ := frzW_ok 6 (.o i) S x S2 F v hx L r
                  obtain ⟨L3, hl3⟩ := rl_cut L2 (by rw [l2]; exact z.le) hc3
                  exact P v ρ F2 H ⟨z.fz.trans z2, z.pl, by omega⟩ L3 q
                · exact P.elim
              · exact P.elim
end

/-! ### a def, called -/
/-- the slots at the entry -/
def startM (N : List Str) (ws : List W) : EnvM := ws.map some ++ List.replicate (N.length - ws.length) none
theorem start_env {g : Gx} {ρ : Nat → Addr} {n : Nat} {F : Addr → Prop} {H : Hp} {N : List Str} {vs : List V} {ws : List W} (r : RepWs g ρ n F H vs ws) : RepEnv g ρ n F H (start N vs) (startM N ws) := by
  have hl := paired_len r
  refine ⟨by unfold L2.start startM; simp [hl], fun i w e => ?_⟩
  unfold startM at e
  by_cases hi : i < ws.length
  · rw [List.getElem?_append_left (by simpa using hi), List.getElem?_map] at e
    have e1 : ws[i]? = some w := by
      cases q : ws[i]? with
      | none => rw [q] at e; cases e
      | some w' => rw [q] at e; cases e; rfl
    obtain ⟨v, hv, rv⟩ := paired_get r e1
    have lt : i < vs.length := (List.getElem?_eq_some_iff.mp hv).1
    refine ⟨v, ?_, rv⟩
    unfold L2.start
    rw [List.getElem?_append_left (by simpa using lt), List.getElem?_map, hv]
    rfl
  · rw [List.getElem?_append_right (by simpa using hi), List.getElem?_replicate] at e
    split at e <;> cases e
/-- how the parameters come by their words -/
abbrev BndM := List W → List (Str × W) → Option (List W)
def BndOk (g : Gx) (P : Program) (w : World) (K : PySem.W.Frag) (mg : Str → Option Value) (base : Heap) (fd : FuncData) (ps : List Str) (bm : BndM) : Prop :=
  ∀ (A : Around) (outer : List Env) (s : Shared) (H : Hp) (E : XK) (us : List Value) (vs : List V) (ks : List Str) (ws : List Value) (zs : List V) (ρ : Nat → Addr) (F : Addr → Prop) (S : Store) (as bs pw : List W), Env0 P w K mg base A outer s H → Vals vs us → Vals zs ws → Rl g ρ F H S → RepWs g ρ S.length F H vs as → RepWs g ρ S.length F H zs bs →
    bm as (ks.zip bs) = some pw → StX.Bnd (L2.CX P w) P w K mg base fd ⟨us, ks.zip ws⟩ ps A outer s H E (fun xs H2 => ∃ F2, Gr ρ S.length F H ρ S.length F2 H2 ∧ Rl g ρ F2 H2 S ∧ RepWs g ρ S.length F2 H2 xs pw)
/-- the context of a def's body -/
def fnCtx (N : List Str) (scope : Scope) (box : List Str) (k : Nat) : Ctx := ⟨N, scope, true, true, box, k⟩
def callM (bm : BndM) (keep : Bool) (r : RunS) (N : List Str) (scope : Scope) (box : List Str) (k : Nat) (body : List Stmt) (as : List W) (kws : List (Str × W)) (S : Store) : R W := match bm as kws with
  | some pw => finM keep S.length (r (fnCtx N scope box k) body (startM N pw) S)
  | none => .bad
/-- what a module's names are -/
structure GOk (g : Gx) (G : GTab) (ow : Own) (mg : Str → Option Value) : Prop where
  xa : g.xa = none
  ct : ClsT g mg ow
  cst : ∀ x d, G.lookup x = some (.cst d) → ∃ u v, mg x = some u ∧ RelV v u ∧ ∀ F H, Rep g F H v d
  bf : ∀ x id, G.lookup x = some (.bf id) → mg x = none ∧ bootBuiltins x = some (.builtin id)
  bt : ∀ x T, G.lookup x = some (.bt T) → mg x = none ∧ bootBuiltins x = some (.type T)
section
variable {g : Gx} {G : GTab} {ow : Own} {P : Program} {w : World} {mg : Str → Option Value} {base : Heap} {k : Nat} {f : Addr} {name qual : Str} {params : Arguments} {body : List Stmt} {scope : Scope} {dV kV doc pm cdv ct oc : Value} {an od : Option Addr} {osl : Array (Option Value)} {N ps : List Str}
theorem cok_fn (go : GOk g G ow mg) (oo : OwnOk g P w g.K mg base k (ownNames G) ow) (S : FnScope N ps scope) {A : Around} {outer : List Env} {s : Shared} {H : Hp} {E : XK} {box : List Str} (hr1 : Room (k + 1) A) (hg : A.guards = some []) :
    COk g G ow (cxOf (L2.CX P w) P w g.K mg base N qual scope f cdv A outer s H E) (fnCtx N scope box k) (fun c d _ H => E c d H) := by
  have sc : (cxOf (L2.CX P w) P w g.K mg base N qual scope f cdv A outer s H E).env.scope = scope := rfl
  have hr : Room k (A.deeper (envOfC qual scope s.heap.objs.size f cdv)) := hr1.deeper _
  refine ⟨fun _ => hr, fun _ => ?_, hg, fun _ => oo, go.ct, fun _ => go.xa, fun y hy => absurd (hy.symm.trans go.xa) (fun z => nomatch z), fun _ _ => passes_of rfl, fun _ => ⟨rfl, rfl, rfl⟩, rfl, rfl, S.nd, fun x kd h hv => ?_, fun x kd h hl => ?_, fun x h => ?_, fun x kd h hl => ?_, fun _ => rfl, ?_, takes_of rfl rfl rfl rfl, go.cst, go.bf, go.bt⟩
  · have := hr1.un
    show A.units + 3 + 16 * k + 210 < cLine
    omega
  · have h : scope.names.lookup x = some kd := h
    cases kd with
    | «local» => exact .inl h
    | cell => exact .inr (.inl h)
    | free => exact .inr (.inr h)
    | _ => cases hv
  · have h : scope.names.lookup x = some kd := h
    rcases hl with rfl | rfl
    · exact ⟨.inl h, .inl rfl⟩
    · exact ⟨.inr h, .inl rfl⟩
  · unfold isGlob at h
    split at h
    · rename_i q
      exact q
    · cases h
  · have h : scope.names.lookup x = some kd := h
    rcases hl with rfl | rfl
    · exact .inl h
    · exact .inr h
  · have := hr.un
    show (A.deeper (envOfC qual scope s.heap.objs.size f cdv)).units + 200 < cLine
    omega
theorem fn_sound {bm : BndM} {keep : Bool} {r : RunS} {box : List Str} (go : GOk g G ow mg) (oo : OwnOk g P w g.K mg base k (ownNames G) ow) (hr : SSv G ow r) (lk : g.K.lookup f = some ⟨oc, od, .func (PySem.W.fnOf name qual params body scope dV kV doc pm an cdv ct), osl⟩) (hcd : PySem.W.codeIn g.K cdv qual = true) (S : FnScope N ps scope)
    (hb : BndOk g P w g.K mg base (PySem.W.fnOf name qual params body scope dV kV doc pm an cdv ct) ps bm) : FnM g P w g.K mg base (k + 1) f (callM bm keep r N scope box k body) := by
  rintro A outer s H us vs ks ws zs Q E rm hg e0 rv rz ⟨ρ, F, St, as, bs, L, ra, rb, Pp⟩
  unfold callM at Pp
  split at Pp
  · rename_i pw hpw
    refine StX.run_bnd lk hcd S rm e0 (hb A outer s H E us vs ks ws zs ρ F St as bs pw e0 rv rz L ra rb hpw) fun s2 H2 xs ⟨F2, z2, L2, r2⟩ rm2 => ?_
    refine ⟨_, hr.s g _ (fnCtx N scope box k) _ body (cok_fn go oo S rm hg), ρ, F2, St, startM N pw, L2, start_env r2, ?_⟩
    have P2 := Pp.step z2
    cases e : r (fnCtx N scope box k) body (startM N pw) St with
    | ret w1 S1 =>
      rw [e] at P2
      unfold finM at P2
      dsimp only at P2
      split at P2
      · exact fun v ρ1 F1 H1 z L1 r1 => finW_ok z L1 r1 P2
      · exact P2.elim
    | next e1 S1 =>
      rw [e] at P2
      unfold finM at P2
      dsimp only at P2
      split at P2
      · exact fun σ1 ρ1 F1 H1 z L1 _ => finW_ok (v := V.non) z L1 (show RepW g ρ1 S1.length F1 H1 .non (.d .non) from .non) P2
      · exact P2.elim
    | exc c fs e1 S1 =>
      rw [e] at P2
      unfold finM at P2
      dsimp only at P2
      split at P2
      · rename_i hle
        split at P2
        · rename_i S3 hc
          intro d σ1 ρ1 F1 H1 z L1 _ x
          obtain ⟨L3, hl⟩ := rl_cut L1 hle hc
          exact P2 d ρ1 F1 H1 ⟨z.fz, z.pl, by omega⟩ L3 x
        · exact P2.elim
      · exact P2.elim
    | brk e1 S1 => rw [e] at P2; exact P2.elim
    | cont e1 S1 => rw [e] at P2; exact P2.elim
    | bad => rw [e] at P2; exact P2.elim
  · exact Pp.elim
/-- every parameter is given by its place -/
def bndPlain (n : Nat) : BndM := fun as kws => if kws.isEmpty && decide (as.length = n) then some as else none
theorem bndPlain_ok {fd : FuncData} (h : ∀ us : List Value, us.length = ps.length → bindArgs fd ⟨us, []⟩ = pure (ps.zip us)) : BndOk g P w g.K mg base fd ps (bndPlain ps.length) := by
  intro A outer s H E us vs ks ws zs ρ F S as bs pw e0 rv rz L ra rb hp
  unfold bndPlain at hp
  split at hp
  · rename_i hc
    cases hp
    rw [Bool.and_eq_true, decide_eq_true_eq] at hc
    have lv : vs.length = ps.length := by rw [paired_len ra, hc.2]
    have lu : us.length = ps.length := by rw [← Paired.length rv, lv]
    have hk : ks.zip ws = [] := by
      have e : (ks.zip bs).length = 0 := by
        have := hc.1
        cases q : ks.zip bs with
        | nil => rfl
        | cons a b => rw [q] at this; cases this
      have l2 : ws.length = bs.length := by rw [← Paired.length rz, paired_len rb]
      have e2 : (ks.zip ws).length = 0 := by rw [List.length_zip] at e ⊢; omega
      exact List.length_eq_zero_iff.mp e2
    intro A' Ex Q' hq
    rw [hk, h us lu]
    exact wpAny_pure (hq s H vs us e0 (Un.refl) rfl (fun _ _ z => z) rv lv ⟨F, Gr.refl, L, ra⟩)
  · cases hp
end
end Mi

namespace Mi
open PySem L2 PySem.Spec PyProof.Rows

/-! ### a class, called -/
def makeM (keep : Bool) (cn : Str) (mi : List W → List (Str × W) → Store → R W) (as : List W) (kws : List (Str × W)) (S : Store) : R W := match mi (.o S.length :: as) kws (S ++ [.ins cn []]) with
  | .ok (.d .non) S1 => if S.length ≤ S1.length then finW keep S.length (.o S.length) S1 else .bad
  | .exc c fs S1 => if S.length ≤ S1.length then match cutTo S.length S1 with
      | some S2 => .exc c fs S2
      | none => .bad
    else .bad
  | _ => .bad
section
variable {g : Gx} {P : Program} {w : World} {mg : Str → Option Value} {base : Heap} {k : Nat} {f : Addr}
theorem und_guards {A : Around} {C : Addr} {us : List Value} {kw : List (Str × Value)} (h : A.guards = some []) : (A.under (.builtin "type.__call__" ⟨.ref C :: us, kw⟩)).guards = some [] := by
  first
    | exact h
    | (simp only [Around.under, h]; rfl)
    | simpa [Around.under, Code.isGuard, guardIds] using h
theorem cls_sound {keep : Bool} {cn : Str} {mi : List W → List (Str × W) → Store → R W} (M : Mk g.K (g.ca cn) f) (F : FnM g P w g.K mg base k f mi) : FnM g P w g.K mg base (k + 1) (g.ca cn) (makeM keep cn mi) := by
  rintro A outer s H us vs ks ws zs Q E rm hg e0 rv rz ⟨ρ, F0, S, as, bs, L, ra, rb, Pp⟩
  have KX : g.K.In s.heap := e0.mod.kin.keeps fun b o e => (e0.bs b o e).1
  obtain ⟨dx, hdx⟩ : ∃ dx, dx = s.heap.objs.size := ⟨_, rfl⟩
  have n1 : H s.heap.objs.size = none := e0.hok.fresh (Nat.le_refl _)
  have a1 : (s.heap.push PySem.W.emptyDict).get? s.heap.objs.size = some PySem.W.emptyDict := Heap.get?_push_size s.heap rfl
  have a2 : ((s.heap.push PySem.W.emptyDict).push (PySem.W.instObj (g.ca cn) s.heap.objs.size)).get? (s.heap.objs.size + 1) = some (PySem.W.instObj (g.ca cn) s.heap.objs.size) := by
    have q := Heap.get?_push_size (s.heap.push PySem.W.emptyDict) (o := PySem.W.instObj (g.ca cn) s.heap.objs.size) rfl
    rw [Heap.size_push] at q
    exact q
  have a3 : (s.heap.push PySem.W.emptyDict).Ns s.heap.objs.size (fun _ => none) := ⟨_, #[], _, a1, rfl, (fun e he => absurd he (by simp)), fun _ => rfl⟩
  have ne : s.heap.objs.size ≠ s.heap.objs.size + 1 := Nat.ne_of_lt (Nat.lt_succ_self _)
  have E1 : Env0 P w g.K mg base A outer { s with heap := s.heap.push PySem.W.emptyDict } (upd H s.heap.objs.size (.own (s.heap.objs.size + 1))) := StX.env0_laid e0 ⟨_, a1⟩
  have sz : (s.heap.push PySem.W.emptyDict).objs.size = s.heap.objs.size + 1 := Heap.size_push _ _
  have n2 : (upd H s.heap.objs.size (.own (s.heap.objs.size + 1))) (s.heap.objs.size + 1) = none := by
    rw [upd_ne (Ne.symm ne)]
    exact e0.hok.fresh (Nat.le_succ _)
  have E2 : Env0 P w g.K mg base A outer { s with heap := (s.heap.push PySem.W.emptyDict).push (PySem.W.instObj (g.ca cn) s.heap.objs.size) } (upd (upd H s.heap.objs.size (.own (s.heap.objs.size + 1))) (s.heap.objs.size + 1) (.ins (g.ca cn) s.heap.objs.size [])) := by
    have q := StX.env0_laid (o := PySem.W.instObj (g.ca cn) s.heap.objs.size) (u := .ins (g.ca cn) s.heap.objs.size []) E1 (by
      show ObjOk P w (upd _ (s.heap.push PySem.W.emptyDict).objs.size _) _ (s.heap.push PySem.W.emptyDict).objs.size _
      rw [sz]
      refine ⟨by rw [upd_ne ne, upd_same], Nat.zero_le _, ne, a2, fun _ => none, (Heap.Ns1.of_empty a3).at fun o q => Heap.get?_push_of_some _ q, fun _ => True.intro, fun y hy => absurd rfl hy⟩)
    have e : ({ s with heap := s.heap.push PySem.W.emptyDict } : Shared).heap.objs.size = s.heap.objs.size + 1 := sz
    rw [e] at q
    exact q
  have un : Un (frs outer) [] H (upd (upd H s.heap.objs.size (.own (s.heap.objs.size + 1))) (s.heap.objs.size + 1) (.ins (g.ca cn) s.heap.objs.size [])) s.heap ((s.heap.push PySem.W.emptyDict).push (PySem.W.instObj (g.ca cn) s.heap.objs.size)) :=
    (Un.laid (fun _ _ q => Heap.get?_push_of_some _ q) (Nat.le_refl _) n1).trans (Un.laid (fun _ _ q => Heap.get?_push_of_some _ q) (Nat.le_of_eq sz) n2)
  have kk : ∀ b o, s.heap.get? b = some o → ((s.heap.push PySem.W.emptyDict).push (PySem.W.instObj (g.ca cn) s.heap.objs.size)).get? b = some o := fun b o e => Heap.get?_push_of_some _ (Heap.get?_push_of_some _ e)
  have La := rl_frz (o := .own (s.heap.objs.size + 1)) L n1
  have za := gr_frz (o := .own (s.heap.objs.size + 1)) L n1
  have zb := gr_cell (o := .ins (g.ca cn) s.heap.objs.size []) (c := .ins cn []) La n2
  have Lb := rl_cell (o := .ins (g.ca cn) s.heap.objs.size []) (c := .ins cn []) La n2 ⟨_, [], upd_same, .nil⟩
  have zz := za.trans zb
  refine make_map (f := f) KX M.makes M.init (beq_iff_eq.mp M.fn) (codeAny_mono (F _ outer _ _ (.ref (s.heap.objs.size + 1) :: us) (.ref (s.heap.objs.size + 1) :: vs) ks ws zs (fun v H' => v = .non ∧ Q (.ref (s.heap.objs.size + 1)) H') E (rm.make _ us _) (und_guards hg) (E2.make _ us _) (Paired.cons (show RelV (V.ref _) (Value.ref _) from rfl) rv) rz
    ⟨_, _, S ++ [.ins cn []], .o S.length :: as, bs, Lb, .cons ⟨by simp, by rw [addR_eq]⟩ (RepWs.mono zz ra), RepWs.mono zz rb, ?_⟩) fun r s' q => ?_)
  · unfold makeM at Pp
    cases e : mi (.o S.length :: as) (ks.zip bs) (S ++ [.ins cn []]) with
    | bad => rw [e] at Pp; exact Pp.elim
    | exc c fs S1 =>
      rw [e] at Pp
      dsimp only at Pp
      split at Pp
      · rename_i hle
        split at Pp
        · rename_i S2 hc
          intro d ρ1 F1 H1 z L1 x
          obtain ⟨L3, hl⟩ := rl_cut L1 hle hc
          have z3 := zz.trans z
          exact Pp d ρ1 F1 H1 ⟨z3.fz, z3.pl, by omega⟩ L3 x
        · exact Pp.elim
      · exact Pp.elim
    | ok w1 S1 =>
      rw [e] at Pp
      cases w1 with
      | x => exact Pp.elim
      | o i => exact Pp.elim
      | d x =>
        cases x with
        | non =>
          dsimp only at Pp
          split at Pp
          · rename_i hle
            intro v ρ1 F1 H1 z L1 r1
            cases r1
            have z3 := zz.trans z
            have lt : S.length < S1.length := by
              have := z.le
              simp only [List.length_append, List.length_cons, List.length_nil] at this
              omega
            refine ⟨rfl, finW_ok (w := .o S.length) ⟨z3.fz, z3.pl, hle⟩ L1 ⟨lt, ?_⟩ Pp⟩
            rw [z.pl S.length (by simp), addR_eq]
          · exact Pp.elim
        | _ => exact Pp.elim
  · cases r with
    | error er => exact StX.cxUp outer s H { s with heap := (s.heap.push PySem.W.emptyDict).push (PySem.W.instObj (g.ca cn) s.heap.objs.size) } _ E er s' un kk rfl q
    | ok fl =>
      cases fl with
      | ret u =>
        obtain ⟨v, H', os, bare, un2, hok, rv2, ev, q2⟩ := q
        subst ev
        obtain rfl : u = Value.none := rv2
        exact ⟨rfl, .ref (s.heap.objs.size + 1), H', os, bare, un.trans un2, hok, rfl, q2⟩
      | next => exact False.elim q
      | brk => exact False.elim q
      | cont => exact False.elim q
end
end Mi

namespace Mi
open PySem L2 PySem.Spec PyProof.Rows

/-! ### == and != by an own __eq__ -/
def eqR (neg : Bool) (r : R W) : R W := match r with
  | .ok (.d (.bl b)) S => .ok (.d (.bl (if neg then !b else b))) S
  | _ => .bad
def cmpX0 (ow : Own) (calm : Bool) (op : CmpOp) (x y : W) (S : Store) : R W := match op with
  | .Eq => match mtOwn ow "__eq__" x S with
    | some cn => match calm, tyW ow S y with
      | true, some k => if ow.nf cn k then eqR false (ow.mt cn "__eq__" [x, y] [] S) else .bad
      | _, _ => .bad
    | none => cmpW op x y S
  | .NotEq => match mtOwn ow "__eq__" x S with
    | some cn => match calm, tyW ow S y with
      | true, some k => if ow.nf cn k && ow.ins.contains cn then eqR true (ow.mt cn "__eq__" [x, y] [] S) else .bad
      | _, _ => .bad
    | none => cmpW op x y S
  | op => cmpW op x y S
section
variable {prog : Program} {w : World} {A : Around} {E : Value → Shared → Prop} {s : Shared} {K : PySem.W.Frag} {x C f : Addr} {ox : Obj} {od : Option Obj} {b tb : Value}
open PySem.W in
/-- x != b, the class has no own __ne__: object's asks the own __eq__ -/
theorem ne_own {Q : Value → Shared → Prop} (hu : A.units + 2 < cLine) (X : K.In s.heap) (I : InstAt s.heap x ox C od) (hb : Looks (model prog w) s.heap (typeOf b) tb) (hn : notFirst K C tb = true) (hne : findIn K (.ref C) "__ne__" = some (some (.builtin "object.__ne__"))) (hm : mroIn K C (.type "object") = some true)
    (hs : findIn K (.ref C) "__eq__" = some (some (.ref f))) (hf : isFn K (.ref f) = true)
    (h : wpAny (model prog w) A.in1 (call (.ref f) [.ref x, b]) (fun v s' => ∃ k, v = .bool k ∧ Q (.bool (!k)) s') E s) : wpAny (model prog w) A (richCompare .NotEq (.ref x) b) Q E s := by
  have SN := F.cmp_object.ne
  have sub : Looks (model prog w) s.heap (isInstance (.ref x) (.type "object")) true := I.type.andThen (looks_mroIn X hm)
  have call1 : wpAny (model prog w) A (call (.builtin "object.__ne__") [.ref x, b]) (fun v s' => ∃ k, v = .bool k ∧ Q (.bool k) s') E s := by
    refine wpAny_call (codeAny_call_builtin SN.plain F.cmpEntry_ne (@check_slot (model prog w) _ _ s "object.__ne__" "object" "__ne__" (.ref x) [b] [] _ F.cmpKind_ne F.cmpSplit_ne sub (F.cmpArgs_ne (.ref x) b) ?_))
    unfold Builtin.«object.__ne__»
    refine wpAny_bind (wpAny_of_eq (a := ((Value.ref x : Value), [b])) (by first | rfl | (simp only [slotArgs]; rfl)) ?_)
    refine wpAny_bind (wpAny_cRoomFor (by show A.units + 1 < cLine; omega) ?_)
    refine wpAny_bind (ifBound_K X I hs hf (wpAny_mono h (fun v s2 hv => ?_) fun _ _ e => e))
    obtain ⟨k, rfl, q⟩ := hv
    refine wpAny_bind (wpAny_truthy_bool ?_)
    exact wpAny_pure ⟨_, rfl, q⟩
  have one : wpAny (model prog w) A (tryCompare (.ref x) (cmpInfo .NotEq).2.1 b) (fun r s' => ∃ v, r = some v ∧ Q v s') E s := by
    unfold tryCompare
    refine wpAny_bind ?_
    simp only [callSpecialIfBound?, bindSpecialIfBound?]
    refine wpAny_holding (wpAny_bind (wpAny_bind (wpAny_bind (I.type.here ((looks_findIn X hne).here ?_)))))
    refine wpAny_bind (wpAny_askSetting (wpAny_ite ?_))
    have fin : ∀ {Q2 : Option Value → Shared → Prop}, (∀ k s1, Q (.bool k) s1 → Q2 (some (.bool k)) s1) → wpAny (model prog w) A (call (.builtin "object.__ne__") ([.ref x] ++ [b]) >>= fun v => pure (some v)) Q2 E s := fun {Q2} hq =>
      wpAny_bind (wpAny_mono call1 (fun v s1 z => by
        obtain ⟨k, rfl, q⟩ := z
        exact wpAny_pure (hq k s1 q)) fun _ _ z => z)
    split
    · exact wpAny_bind (wpAny_of_eq (SN.bind (.ref x)) (wpAny_pure (by exact fin fun k s1 q => wpAny_pure ⟨_, rfl, q⟩)))
    · exact wpAny_tryCatch (wpAny_bind (wpAny_of_eq (SN.bind (.ref x)) (wpAny_pure (by exact fin fun k s1 q => wpAny_pure ⟨_, rfl, q⟩))))
  unfold richCompare
  simp only [oneThing_ref]
  refine wpAny_holding (wpAny_bind (wpAny_cRoomFor (by omega) ?_))
  refine wpAny_bind (I.type.here (wpAny_bind (hb.here ?_)))
  split
  · rename_i q
    have e : subIn K tb (.ref C) = some false := by
      rcases Bool.or_eq_true_iff.mp hn with e | e
      · rw [beq_iff_eq.mp e] at q
        simp at q
      · exact beq_iff_eq.mp e
    refine wpAny_bind ((looks_subIn X e).here ?_)
    simp only [Bool.false_eq_true, if_false]
    refine wpAny_bind (wpAny_mono one (fun r s' z => ?_) fun _ _ e => e)
    obtain ⟨v, rfl, hq⟩ := z
    exact wpAny_pure hq
  · refine wpAny_bind (wpAny_pure ?_)
    simp only [Bool.false_eq_true, if_false]
    refine wpAny_bind (wpAny_mono one (fun r s' z => ?_) fun _ _ e => e)
    obtain ⟨v, rfl, hq⟩ := z
    exact wpAny_pure hq
end
section
variable {g : Gx} {G : GTab} {ow : Own} {X : Cx} {c : Ctx} {wx : WX}
theorem room_in (o : COk g G ow X c wx) (hc : c.calm = true) : Room c.k X.A.in1 := by
  have h := o.rm hc
  have q := o.sl hc
  refine ⟨h.hd, ?_, ?_⟩
  · have := h.dp
    show X.A.depth + 3 * c.k + 5 < recursionLimit
    omega
  · show X.A.units + 1 + 16 * c.k + 200 < cLine
    omega
/-- the own __eq__ is called, in a place that has room -/
theorem run_eq {A : Around} (hr : Room c.k A) (hg : A.guards = some []) (hfr : A.frames = X.A.frames) {cn : Str} {f : Addr} (F : FnM g X.prog X.w X.K X.mg X.base c.k f (ow.mt cn "__eq__")) {pins : List (Addr × Obj)} {σ : L2.St} {H : Hp} {s : Shared} {a : Addr} {y : V} {u : Value} {neg : Bool} {Q : VK} (I : Inv X pins σ H s) (ry : RelV y u)
    {ρ : Nat → Addr} {F0 : Addr → Prop} {S : Store} {wa wb : W} (L : Rl g ρ F0 H S) (r1 : RepW g ρ S.length F0 H (.ref a) wa) (r2 : RepW g ρ S.length F0 H y wb) {wx2 : WX} {σ2 : L2.St} (P : Post g wx2 σ2 (rpW g) ρ S.length F0 H Q (eqR neg (ow.mt cn "__eq__" [wa, wb] [] S))) :
    wpAny (model X.prog X.w) A (call (.ref f) [.ref a, u]) (fun v s' => ∃ k, v = .bool k ∧ EP X pins σ Q (.bool (if neg then !k else k)) s') X.xe s := by
  have e0 := I.env0
  have E0 : Env0 X.prog X.w X.K X.mg X.base A X.stack s H := ⟨by rw [hfr]; exact e0.frames, e0.mod, e0.bs, e0.bsz, e0.funs, e0.frf, e0.hok, e0.bare⟩
  refine wpAny_call (codeAny_mono (F A X.stack s H [.ref a, u] [.ref a, y] [] [] [] (fun v H' => ∃ k, v = .bl k ∧ Q (.bl (if neg then !k else k)) H') (fun _ _ _ => False) hr hg E0 (.cons (show RelV (V.ref a) (Value.ref a) from rfl) (.cons ry .nil)) .nil
    ⟨ρ, F0, S, [wa, wb], [], L, .cons r1 (.cons r2 .nil), .nil, ?_⟩) fun r s' q => ?_)
  · show Post g _ [] (rpW g) ρ S.length F0 H _ (ow.mt cn "__eq__" [wa, wb] [] S)
    unfold eqR at P
    split at P
    · rename_i k S1 e
      rw [e]
      intro v ρ1 F1 H1 z L1 rv
      cases rv
      exact ⟨k, rfl, P _ ρ1 F1 H1 z L1 (.bl _)⟩
    · exact P.elim
  · cases r with
    | error er =>
      obtain ⟨_, _, _, _, _, _, _, _, _, _, _, _, z⟩ := q
      exact z.elim
    | ok fl =>
      cases fl with
      | ret u1 =>
        obtain ⟨v1, H1, I1, rv1, k, ev, q1⟩ := I.after q
        subst ev
        obtain rfl : u1 = Value.bool k := rv1
        exact ⟨k, rfl, .bl _, H1, I1, rfl, q1⟩
      | next => exact False.elim q
      | brk => exact False.elim q
      | cont => exact False.elim q
theorem cmpX0_ok (o : COk g G ow X c wx) (op : CmpOp) : OpR X (compareOp op) (rW g (cmpX0 ow c.calm op)) := by
  have old := cmp_ok (g := g) (X := X) (by have := o.un; omega) o.K op
  have hu := o.un
  have inst : ∀ {ρ : Nat → Addr} {F : Addr → Prop} {H : Hp} {S : Store} {a : W} {x : V} {cn : Str}, Rl g ρ F H S → RepW g ρ S.length F H x a → mtOwn ow "__eq__" a S = some cn → ∃ p dx fs, x = .ref p ∧ H p = some (.ins (g.ca cn) dx fs) ∧ (cn, ("__eq__" : Str)) ∈ ow.mts := fun {ρ F H S a x cn} L r h => by
    unfold mtOwn at h
    split at h
    · rename_i cn' gs hfs
      split at h
      · rename_i hcc
        cases h
        rw [Bool.and_eq_true] at hcc
        obtain ⟨p, dx, fs, rfl, h1, _⟩ := fields_at L r hfs
        exact ⟨p, dx, fs, rfl, h1, List.contains_iff_mem.mp hcc.1⟩
      · cases h
    · cases h
  cases op with
  | Eq =>
    rintro pins s σ H x y v u Q I rx ry ⟨wx', σ', ρ, F, S, a, b, L, r1, r2, P⟩
    unfold cmpX0 at P
    dsimp only at P
    split at P
    · rename_i cn hm
      obtain ⟨p, dx, fs, rfl, hp, hin⟩ := inst L r1 hm
      split at P
      · rename_i k hcalm hk
        split at P
        · rename_i hnf
          obtain ⟨f, M, FM⟩ := (o.own hcalm).mt cn "__eq__" hin
          obtain ⟨mA, J, _⟩ := ins_get I.hok hp
          obtain ⟨od, J, _⟩ := J.look
          obtain ⟨Pk, Z, pz, _⟩ := kit_W o I L ry r2 hk
          obtain ⟨mm, hF⟩ := I.fr
          obtain rfl : v = Value.ref p := rx
          refine PySem.W.cmp_K (op := .Eq) (by omega) hF I.ok.mod.kin J (Z.ty _ _ I.kIn pz) (by rw [o.K]; exact o.ct.nf cn k hnf) M.at_ M.fn (wpAny_mono (run_eq (o.rm hcalm) o.gd rfl FM I ry L r1 r2 P) (fun v s' z => ?_) fun _ _ z => z)
          obtain ⟨kk, rfl, q⟩ := z
          exact q
        · exact P.elim
      · exact P.elim
    · exact old pins s σ H x y v u Q I rx ry ⟨wx', σ', ρ, F, S, a, b, L, r1, r2, P⟩
  | NotEq =>
    rintro pins s σ H x y v u Q I rx ry ⟨wx', σ', ρ, F, S, a, b, L, r1, r2, P⟩
    unfold cmpX0 at P
    dsimp only at P
    split at P
    · rename_i cn hm
      obtain ⟨p, dx, fs, rfl, hp, hin⟩ := inst L r1 hm
      split at P
      · rename_i k hcalm hk
        split at P
        · rename_i hnf
          rw [Bool.and_eq_true] at hnf
          obtain ⟨f, M, FM⟩ := (o.own hcalm).mt cn "__eq__" hin
          obtain ⟨mA, J, _⟩ := ins_get I.hok hp
          obtain ⟨od, J, _⟩ := J.look
          obtain ⟨Pk, Z, pz, _⟩ := kit_W o I L ry r2 hk
          have T := o.ct.ins cn (List.contains_iff_mem.mp hnf.2)
          rw [← o.K] at T
          obtain rfl : v = Value.ref p := rx
          refine ne_own (by omega) I.kIn J (Z.ty _ _ I.kIn pz) (by rw [o.K]; exact o.ct.nf cn k hnf.1) T.ne T.hm M.at_ M.fn (wpAny_mono (run_eq (neg := true) (room_in o hcalm) o.gd rfl FM I ry L r1 r2 P) (fun v s' z => ?_) fun _ _ z => z)
          obtain ⟨kk, rfl, q⟩ := z
          exact ⟨kk, rfl, q⟩
        · exact P.elim
      · exact P.elim
    · exact old pins s σ H x y v u Q I rx ry ⟨wx', σ', ρ, F, S, a, b, L, r1, r2, P⟩
  | _ => exact old
end
end Mi

namespace Mi
open PySem L2 PySem.Spec PyProof.Rows

/-! ### repr of data -/
def reprM (as : List W) (S : Store) : R W := match as with
  | [w] => match asD S w with
    | some x => if x.plain && x.py.showable && !x.py.hasDict && decide (x.py.depth ≤ 60) && decide (x.py.shown.length ≤ 100000) then .ok (.d (.str x.py.shown)) S else .bad
    | none => .bad
  | _ => .bad
section
variable {g : Gx} {G : GTab} {ow : Own} {X : Cx} {c : Ctx} {wx : WX}
theorem repr_ok (o : COk g G ow X c wx) : CallR X (.builtin "repr") (rWs g reprM) := by
  rintro pins s σ H xs us Q I r ⟨wx', σ', ρ, F, S, as, L, rs, P⟩
  unfold reprM at P
  split at P
  · rename_i w
    split at P
    · rename_i x hx
      split at P
      · rename_i hh
        simp only [Bool.and_eq_true, Bool.not_eq_true', decide_eq_true_eq] at hh
        obtain ⟨⟨⟨⟨h1, h2⟩, h3⟩, h4⟩, h5⟩ := hh
        obtain ⟨v, rfl, rv⟩ := one_ws rs
        obtain ⟨u, hu⟩ : ∃ u, us = [u] := by
          cases r with
          | cons a b => cases b; exact ⟨_, rfl⟩
        subst hu
        have ru : RelV v u := by
          cases r with
          | cons a b => exact a
        have dp : Dp X.K H v x.py := o.K ▸ asD_dp L rv hx h1
        obtain ⟨ads, rd⟩ := Dp.reads I x.py v u dp ru
        have hun := o.un
        have big : x.py.shown.length ≤ sizeLine := Nat.le_trans h5 (by decide)
        have fin : ∀ (h' : Heap) (tu : Tok) (tk : Nat), (∀ b ob, s.heap.get? b = some ob → h'.get? b = some ob) → EP X pins σ Q (.str x.py.shown tu) { s with heap := h', toks := tk } := fun h' tu tk k =>
          ⟨.str x.py.shown, H, I.kept k, ⟨_, rfl⟩, P.val L (.str _)⟩
        cases u with
        | ref a => exact repr_of_reads' rd h2 (fun e => by rw [h3] at e; cases e) o.gd (by omega) (fun _ _ e => e) (fun h' tu tk k => fin h' tu tk k) big
        | none =>
          generalize x.py = y at *
          cases rd
          exact PySem.P.repr_of_none (fin s.heap _ _ fun _ _ e => e)
        | bool b =>
          generalize x.py = y at *
          cases rd
          exact PySem.P.repr_of_bool (fin s.heap _ _ fun _ _ e => e)
        | int i t =>
          generalize x.py = y at *
          cases rd
          exact PySem.P.repr_of_int (by simpa [PyData.showable] using h2) (fin s.heap _ _ fun _ _ e => e)
        | str z t =>
          generalize x.py = y at *
          cases rd
          exact PySem.P.repr_of_str (fin s.heap _ _ fun _ _ e => e) big
        | _ => cases rd
      · exact P.elim
    · exact P.elim
  · exact P.elim
theorem callrepr_ok (o : COk g G ow X c wx) {f : Str} {p pos : Pos} {e : Expr} {es : List Expr} {ma : EnvM → Store → R (List W)} (hf : G.lookup f = some (.bf "repr")) (hg : isGlob c f = true) (hp : plainName f = true) (hs : noStar (e :: es) = true) (ha : PA X (e :: es) (tA g wx ma)) :
    PE X (.Call (.Name f p) (e :: es) [] pos) (tE g wx fun env S => (ma env S).bind reprM) := by
  obtain ⟨f1, f2⟩ := o.bf f _ hf
  obtain ⟨p1, p2, p3⟩ := plainName_ok hp
  simp only [noStar, List.all_cons, Bool.and_eq_true, Bool.not_eq_true'] at hs
  exact pe_mono (pe_callB (repr_ok o) (o.glo f hg) f1 f2 ha p3 p1 (star_cons hs.1 _ _) (noStar_any (by simpa [noStar] using hs.2) _ _)) rws_of
end
end Mi

namespace Mi
open PySem L2 PySem.Spec PyProof.Rows

/-! ### len(set(texts)) -/
def met (acc : List Str) (x : Str) : List Str := if acc.any (· == x) then acc else acc ++ [x]
def mets (xs : List Str) : List Str := xs.foldl met []
theorem met_any (acc : List Str) (x k : Str) : (met acc x).any (· == k) = (acc.any (· == k) || decide (k = x)) := by
  unfold met
  split
  · rename_i h
    by_cases e : k = x
    · subst e
      rw [h, decide_eq_true rfl]
      rfl
    · rw [decide_eq_false e, Bool.or_false]
  · rw [List.any_append, List.any_cons, List.any_nil, Bool.or_false]
    congr 1
    by_cases e : k = x
    · subst e
      simp
    · rw [decide_eq_false e]
      exact beq_eq_false_iff_ne.mpr fun z => e z.symm
theorem met_len (acc : List Str) (x : Str) : (met acc x).length = if acc.any (· == x) then acc.length else acc.length + 1 := by
  unfold met
  split <;> simp
theorem mets_le (xs : List Str) : (mets xs).length ≤ xs.length := by
  have : ∀ (l : List Str) (acc : List Str), (l.foldl met acc).length ≤ acc.length + l.length := by
    intro l
    induction l with
    | nil => intro acc; simp
    | cons x l ih =>
      intro acc
      have := ih (met acc x)
      have h2 : (met acc x).length ≤ acc.length + 1 := by
        rw [met_len]
        split <;> omega
      simp only [List.foldl_cons, List.length_cons]
      omega
  simpa [mets] using this xs []
theorem mets_take {xs : List Str} {i : Nat} {x : Str} (h : xs[i]? = some x) : mets (xs.take (i + 1)) = met (mets (xs.take i)) x := by
  unfold mets
  rw [List.take_add_one, h]
  simp [List.foldl_append]
section
variable {prog : Program} {w : World} {A : Around} {R : Result → Shared → Prop} {I : Addr} {fp wr : List Addr} {G : Array GenState → Array GenState → Prop} {n : Nat} {Pv : Nat → Value → Prop} {St : Nat → Shared → Prop}
abbrev TxS (prog : Program) (w : World) (h : Heap) (a : Addr) (l : List Str) : Prop := h.SetOf (PySem.strKind prog w) a (fun k => l.any (· == k)) l.length
theorem txs_at {h h2 : Heap} {a : Addr} {l : List Str} (x : TxS prog w h a l) (k : ∀ o, h.get? a = some o → h2.get? a = some o) : TxS prog w h2 a l := by
  obtain ⟨o, es, ep, t, ho, rest⟩ := x
  exact ⟨o, es, ep, t, k o ho, rest⟩
theorem fill_strs (Wk : WalksS prog w A.in1 I fp wr G n Pv St) (Sa : Addr) (out : Sa ∉ fp) (xs : List Str) (hx : xs.length = n) (hv : ∀ i v, Pv i v → ∃ t x, xs[i]? = some x ∧ v = .str x t) (room : n + 1 < scanBound) :
    ∀ (k i : Nat) (s : Shared), n - i = k → i ≤ n → St i s → TxS prog w s.heap Sa (mets (xs.take i)) →
      (∀ s2, Moved (Sa :: wr) G s s2 → TxS prog w s2.heap Sa (mets xs) → R (.ok (.ret .none)) s2) → codeAny (model prog w) A (.builtin "set.update.loop" ⟨[.ref Sa, .ref I], []⟩) R s := by
  have nw : Sa ∉ wr := fun z => out (Wk.sub _ z)
  have up : ∀ b ∈ wr, b ∈ Sa :: wr := fun b z => List.mem_cons_of_mem _ z
  intro k
  induction k with
  | zero =>
    intro i s e1 e2 hst hT hR
    have ei : i = n := by omega
    refine codeAny_builtin PyProof.Rows.F.entry_set_update_loop ?_
    rw [Around.under_plainId PyProof.Rows.F.plain_set_update_loop _]
    refine wpAny_bind (Wk.done s _ _ (ei ▸ hst) fun s2 mv => wpAny_pure (hR s2 (mv.mono up) ?_))
    have hT2 : TxS prog w s.heap Sa (mets xs) := by
      rw [ei, ← hx, List.take_length] at hT
      exact hT
    exact txs_at hT2 fun o z => mv.heap Sa _ nw z
  | succ k ih =>
    intro i s e1 e2 hst hT hR
    have lt : i < n := by omega
    refine codeAny_builtin PyProof.Rows.F.entry_set_update_loop ?_
    rw [Around.under_plainId PyProof.Rows.F.plain_set_update_loop _]
    refine wpAny_bind (Wk.item i s _ _ lt hst fun v s2 hP st2 mv => ?_)
    obtain ⟨t, x, hxi, rfl⟩ := hv i v hP
    have T2 : TxS prog w s2.heap Sa (mets (xs.take i)) := txs_at hT fun o z => mv.heap Sa _ nw z
    show wpAny _ A.in1 (holding [Value.str x t] (setAdd Sa (.str x t)) >>= _) _ _ s2
    refine wpAny_bind (wpAny_holding ?_)
    unfold setAdd
    refine wpAny_holding (wpAny_bind ((PySem.strKind prog w).pyHash (k := x) (strKind_is _ _ _ _) ?_))
    have rm : (mets (xs.take i)).length + 1 < scanBound := by
      have := mets_le (xs.take i)
      rw [List.length_take] at this
      omega
    refine wpAny_setAddHashed_of (knd := PySem.strKind prog w) (s := { s2 with toks := s2.toks + 1 }) (strKind_is _ _ _ _) rfl T2 rm fun h3 sb T3 => ?_
    have T4 : TxS prog w h3 Sa (mets (xs.take (i + 1))) := by
      rw [mets_take hxi]
      exact SetOf_congr T3 (fun k2 => (met_any _ _ _).symm) (met_len _ _).symm
    refine wpAny_pure ⟨plainId_quiet PyProof.Rows.F.plain_set_update_loop _, ih (i + 1) _ (by omega) lt (Wk.frame _ s2 _ _ st2 (Nat.le_succ _) fun b z o e => ?_) T4 fun s5 mv5 T5 => hR s5 (Moved.trans Wk.gtrans ((mv.mono up).then_heap (Nat.le_succ _) fun b o z e => ?_) mv5) T5⟩
    · have nb : b ≠ Sa := fun q => out (q ▸ z)
      rw [sb.2 b nb]
      exact e
    · have nb : b ≠ Sa := fun q => z (q ▸ List.mem_cons_self)
      rw [sb.2 b nb]
      exact e
end
section
variable {prog : Program} {w : World} {A : Around} {E : Value → Shared → Prop} {s : Shared}
abbrev set0 (b : Bool) : Obj := { cls := .type "set", dict := none, data := .set #[] 0 (.fresh 0 0 b) }
theorem set_strs {la : Addr} {its : Array Value} {xs : List Str} {Q : Value → Shared → Prop} (hd : A.handled = none) (hl : s.heap.IsList la its) (hi : StrsAre its.toList xs) (room : xs.length + 1 < scanBound)
    (h : ∀ (h2 : Heap) (tk : Nat), TxS prog w h2 s.heap.objs.size (mets xs) → (∀ b o, b < s.heap.objs.size → s.heap.get? b = some o → h2.get? b = some o) → Q (.ref s.heap.objs.size) { s with heap := h2, toks := tk }) :
    wpAny (model prog w) A (call (.type "set") [.ref la]) Q E s := by
  obtain ⟨c1, t1, mro1⟩ := PySem.F.called_set.mro
  have made1 := PySem.F.called_set.made
  have sub1 := PySem.F.called_set.sub
  refine wpAny_call (codeAny_of_tree ?_)
  show wpAny _ _ (callAny (.type "set") _) _ _ _
  refine wpAny_pure ⟨Code.quiet_builtin _ (by decide +kernel), codeAny_builtin PySem.F.entry_type_call ?_⟩
  rw [Around.under_plain (weight_type_call_type "set" [.ref la] []) rfl]
  have nt1 := PySem.F.called_set.notType
  have cc1 := PySem.F.called_set.canCreate
  have ct1 := PySem.F.typeCall_set_1 (.ref la)
  repeat (any_goals (first | assumption | wp_step))
  refine codeAny_mono (code_set_new_1 (.ref la) (E := E) (Q₁ := fun ob s1 => ∃ b : Bool, ob = .ref s.heap.objs.size ∧ s1 = { s with heap := s.heap.push (set0 b) }) fun b => ⟨b, rfl, rfl⟩) fun r1 s1 q1 => ?_
  cases r1 with
  | error e => exact q1
  | ok f1 =>
    cases f1 with
    | ret ob =>
      obtain ⟨b, rfl, rfl⟩ := q1
      have gS : (s.heap.push (set0 b)).get? s.heap.objs.size = some (set0 b) := Heap.get?_push_size _ rfl
      have tS : Shared.TypeIs { s with heap := s.heap.push (set0 b) } (.ref s.heap.objs.size) "set" := ⟨_, gS, rfl⟩
      have li1 := PySem.F.called_set.init.lookup
      have bi1 := PySem.F.called_set.init.bind (.ref s.heap.objs.size)
      repeat (any_goals (first | assumption | wp_step))
      refine codeAny_mono (codeAny_call_builtin (R := wants (fun r s2 => r = .none ∧ ∃ h2 tk, s2 = { s with heap := h2, toks := tk } ∧ TxS prog w h2 s.heap.objs.size (mets xs) ∧ (∀ b o, b < s.heap.objs.size → s.heap.get? b = some o → h2.get? b = some o)) E) PySem.F.called_set.init.plain PySem.F.entry_set_init (check_set_init_1 tS ?_)) fun r2 s2 q2 => ?_
      · obtain ⟨ol, go, co, nl, do_⟩ := hl
        obtain ⟨o1, o2, o3, o4⟩ := ol
        simp only at co do_
        subst co do_
        have go1 : (s.heap.push (set0 b)).get? la = some { cls := .type "list", dict := o2, data := .seq its nl, slots := o4 } := Heap.get?_push_of_some _ go
        have sl1 := PySem.F.sub_list_set
        have sl2 := PySem.F.sub_list_frozenset
        have nd1 : (Value.type "list" == Value.type "dict") = false := by decide
        have hl1 : (s.heap.push (set0 b)).IsList la its := ⟨_, go1, rfl, nl, rfl⟩
        unfold Builtin.«set.__init__» noKeywords Builtin.Frozenset.updateFrom
        generalize ePI : pyIter = PI
        wp_walk
        subst ePI
        refine wpAny_pyIter_list hl1 (wpAny_bind (wpAny_runValue ?_))
        have lt : la < s.heap.objs.size := Heap.lt_size go
        have hd3 : A.in1.in1.in1.handled = none := by simp [hd]
        have ne1 : la ≠ (s.heap.push (set0 b)).objs.size := by
          rw [Heap.size_push]
          exact Nat.ne_of_lt (Nat.lt_succ_of_lt lt)
        have out1 : s.heap.objs.size ∉ [(s.heap.push (set0 b)).objs.size, la] := by
          rw [Heap.size_push]
          simp only [List.mem_cons, List.not_mem_nil, or_false, not_or]
          exact ⟨Nat.ne_of_lt (Nat.lt_succ_self _), Nat.ne_of_gt lt⟩
        have hx : xs.length = its.size := by rw [← StrsAre.len_eq hi, Array.length_toList]
        refine fill_strs ((Walks.list hd3 _ la ne1 its).toS) s.heap.objs.size out1 xs hx (fun i v hv => ?_) (by omega) (its.size - 0) 0 _ (by omega) (Nat.zero_le _) ⟨⟨_, Heap.get?_push_size _ rfl, rfl, rfl⟩, hl1.push _⟩ ?_ ?_
        · obtain ⟨t, e⟩ := SS.strs_at hi i v (by rw [Array.getElem?_toList]; exact hv)
          have li : i < xs.length := by
            rw [hx]
            exact (Array.getElem?_eq_some_iff.mp hv).1
          refine ⟨t, xs[i], List.getElem?_eq_getElem li, ?_⟩
          rw [e, List.getD_eq_getElem?_getD, List.getElem?_eq_getElem li]
          rfl
        · have g2 : ((s.heap.push (set0 b)).push { cls := .type "list_iterator", data := .fields #[.ref la, .int 0 0] }).get? s.heap.objs.size = some (set0 b) := Heap.get?_push_of_some _ gS
          exact SetOf_congr ((setObjOf_fresh (knd := PySem.strKind prog w) b).setOf g2 (by unfold scanBound; omega)) (fun _ => rfl) rfl
        · intro s3 mv T3
          obtain ⟨h3, g3, d3, tk3, os3⟩ := s3
          have a1 : g3 = s.gens := mv.gens
          have a2 : d3 = s.drawn := mv.drawn
          have a3 : os3 = s.os := mv.os
          subst a1 a2 a3
          show wpAny _ _ _ _ _ _
          refine wpAny_pure ?_
          show wpAny _ _ (ret Value.none) _ _ _
          refine wpAny_pure ⟨rfl, h3, tk3, rfl, T3, fun bb o lb e => ?_⟩
          refine mv.heap bb o ?_ (Heap.get?_push_of_some _ (Heap.get?_push_of_some _ e))
          simp only [List.mem_cons, List.not_mem_nil, or_false, not_or]
          refine ⟨Nat.ne_of_lt lb, ?_⟩
          rw [Heap.size_push]
          exact Nat.ne_of_lt (Nat.lt_succ_of_lt lb)
      · cases r2 with
        | error e => exact q2
        | ok f2 =>
          cases f2 with
          | ret r =>
            obtain ⟨rfl, h2, tk, rfl, T2, k2⟩ := q2
            repeat (any_goals (first | assumption | wp_step))
            exact h _ _ T2 k2
          | _ => exact q2.elim
    | _ => exact q1.elim
end
def strsOf : List D → Option (List Str)
  | [] => some []
  | .str x :: r => (strsOf r).map (x :: ·)
  | _ :: _ => none
def lenSetM (w : W) (S : Store) : R W := match asD S w with
  | some (.lst ds) => match strsOf ds with
    | some xs => if xs.length ≤ 1000 then .ok (.d (.int (mets xs).length)) S else .bad
    | none => .bad
  | _ => .bad
section
variable {g : Gx} {G : GTab} {ow : Own} {X : Cx} {c : Ctx} {wx : WX}
theorem strs_V {F : Addr → Prop} {H : Hp} : ∀ {vs : List V} {ds : List D} {xs : List Str}, Reps g F H vs ds → strsOf ds = some xs → vs = xs.map V.str
  | _, _, _, .nil, h => by cases h; rfl
  | _, .str x :: ds, xs, .cons a r, h => by
    unfold strsOf at h
    obtain ⟨ys, h1, rfl⟩ := Option.map_eq_some_iff.mp h
    cases a
    rw [strs_V r h1]
    rfl
  | _, .non :: _, _, _, h => by cases h
  | _, .bl _ :: _, _, _, h => by cases h
  | _, .int _ :: _, _, _, h => by cases h
  | _, .tup _ :: _, _, _, h => by cases h
  | _, .lst _ :: _, _, _, h => by cases h
  | _, .scr _ :: _, _, _, h => by cases h
  | _, .ins _ _ :: _, _, _, h => by cases h
theorem lenset_ok (o : COk g G ow X c wx) {f1 f2 : Str} {a : Expr} {p p2 q pos : Pos} {m : EnvM → Store → R W} (h1 : G.lookup f1 = some (.bf "len")) (h2 : G.lookup f2 = some (.bt "set")) (g1 : isGlob c f1 = true) (g2 : isGlob c f2 = true) (n1 : plainName f1 = true) (n2 : plainName f2 = true) (hc : c.calm = true) (hs : isStar a = false) (ha : PE X a (tE g wx m)) :
    PE X (.Call (.Name f1 p) [.Call (.Name f2 p2) [a] [] q] [] pos) (tE g wx fun env S => (m env S).bind lenSetM) := by
  obtain ⟨b1, b2⟩ := o.bf f1 _ h1
  obtain ⟨d1, d2⟩ := o.bt f2 _ h2
  obtain ⟨x1, x2, x3⟩ := plainName_ok n1
  obtain ⟨y1, y2, y3⟩ := plainName_ok n2
  refine ⟨fun pins s σ H Q I ⟨ρ, F, S, env, L, E, P⟩ => ?_⟩
  refine wpAny_Call_Name_kw (ld_blt I (o.glo f1 g1) b1 b2 ?_ x3 x1)
  refine callWith_builtin1 (args_cons ?_ rfl) rfl rfl
  refine wpAny_Call_Name_kw (ld_blt I (o.glo f2 g2) d1 d2 ?_ y3 y1)
  refine callWith_type1 (args_cons (thn (ha.run pins s σ H (fun v H1 => ∃ (l : Addr) (xs : List Str), v = .ref l ∧ SqL X.K H1 l (xs.map V.str) ∧ xs.length ≤ 1000 ∧ Q (.int (mets xs).length) H1) I ⟨ρ, F, S, env, L, E, Post.seq P fun w S1 v ρ1 F1 H1 _ z L1 r1 P1 => ?_⟩) fun u s1 ⟨v, H1, I1, rv, l, xs, ev, hq, hz, q1⟩ => args_nil ?_) (star_cons hs _ _)) (star_cons hs _ _) rfl
  · unfold lenSetM at P1
    split at P1
    · rename_i ds hd
      split at P1
      · rename_i xs hx
        split at P1
        · rename_i hz
          obtain ⟨l, vs, rfl, hl, rr⟩ := asD_lst L1 r1 hd
          refine ⟨l, xs, rfl, ?_, hz, P1.val L1 (.int _)⟩
          rw [← strs_V rr hx]
          exact SqL.of hl
        · exact P1.elim
      · exact P1.elim
    · exact P1.elim
  · subst ev
    obtain rfl : u = Value.ref l := rv
    obtain ⟨its, r, pl, hz2⟩ := I1.list hq
    refine set_strs (I1.ok.hd (o.calm hc)) pl.isList (by simpa using strsAre_of r) (by unfold scanBound; omega) fun h3 tk T3 k3 => args_nil ?_
    obtain ⟨ob, es, ep, t, ho, hex, hd, _, _, _, hf, hn⟩ := T3
    have I2 : Inv X pins σ H1 { s1 with heap := h3, toks := tk } := I1.kept fun b ob e => k3 b ob (Heap.lt_size e) e
    have ml := mets_le xs
    exact call_len_set ho hex hd hf (by rw [hn] <;> omega) ⟨.int (mets xs).length, H1, I2.tok _, ⟨_, by rw [hn]⟩, q1⟩
end
end Mi

/-! == and != of lists and tuples, item by item, both answers -/
namespace GQ2
open PySem PySem.SeqAt GQ
open AutoSeq1 (wpAny_loadPart')
open MeetsSeq MeetsSeq2 MeetsSeq3 SeqRoads2

section
variable {prog : Program} {w : World} {A : Around} {R : Result → Shared → Prop}
def Two (l b : Addr) (N : Nat) (items items2 : Array Value) (s : Shared) : Prop := ∃ (n n2 : Nat), s.heap.get? l = some { cls := .type "list", data := .seq items n } ∧ s.heap.get? b = some { cls := .type "list", data := .seq items2 n2 } ∧ items.size = N ∧ items2.size = N
/-- at each turn the two lists are read anew: N items each -/
def ListB (prog : Program) (w : World) (A : Around) (E : Value → Shared → Prop) (l b : Addr) (N : Nat) (I : Nat → Shared → Prop) (J : Shared → Prop) : Prop :=
  ∀ i s, I i s → ∃ (items items2 : Array Value), Two l b N items items2 s ∧
    ∀ (h1 : i < items.size) (h2 : i < items2.size), wpAny (model prog w) A.in1 (eqBool items[i] items2[i]) (fun r s' => (r = true ∧ I (i + 1) s') ∨ (r = false ∧ J s' ∧ ∃ it it2, Two l b N it it2 s')) E s

theorem eq_loopB (l b : Addr) (N : Nat) (I : Nat → Shared → Prop) (J : Shared → Prop) (hl : ListB prog w A (fun e s' => R (.error e) s') l b N I J)
    (fin : ∀ s, I N s → R (.ok (.ret (.bool true))) s) (fin2 : ∀ s, J s → R (.ok (.ret (.bool false))) s) (k : Nat) :
    ∀ i : Nat, N - i = k → i ≤ N → ∀ s, I i s →
      wpAny (model prog w) A.in1 (Builtin.«list.__eq__.loop» ⟨[.ref l, .ref b, rawInt i, rawInt 2], []⟩) (FinOf prog w A R) (fun e s' => R (.error e) s') s := by
  induction k with
  | zero =>
    intro i hk hi s h
    obtain ⟨items, items2, ⟨n, n2, hl1, hb1, hs1, hs2⟩, _⟩ := hl _ _ h
    have hi' : i = N := by omega
    have hR : R (.ok (.ret (.bool true))) s := fin s (hi' ▸ h)
    obtain ⟨hp, g, d, tk, os⟩ := s
    wp_walk using wpAny_loadPart' hl1, wpAny_loadPart' hb1
    have hi1 : items[((i : Nat) : Int).toNat]? = none := by simp; omega
    have hi2 : items2[((i : Nat) : Int).toNat]? = none := by simp; omega
    rw [hi1, hi2]
    wp_walk using wpAny_loadPart' hl1, wpAny_loadPart' hb1
    show R (.ok (.ret (.bool (items.size == items2.size)))) _
    rw [hs1, hs2]
    simpa using hR
  | succ k ih =>
    intro i hk hi s h
    obtain ⟨items, items2, ⟨n, n2, hl1, hb1, hs1, hs2⟩, turn⟩ := hl _ _ h
    have hlt : i < items.size := by omega
    have hlt2 : i < items2.size := by omega
    have ht := turn hlt hlt2
    obtain ⟨hp, g, d, tk, os⟩ := s
    wp_walk using wpAny_loadPart' hl1, wpAny_loadPart' hb1
    have hi1 : items[((i : Nat) : Int).toNat]? = some items[i] := by simp [hlt]
    have hi2 : items2[((i : Nat) : Int).toNat]? = some items2[i] := by simp [hlt2]
    have hc : ((i : Int) + 1) = ((i + 1 : Nat) : Int) := by omega
    rw [hi1, hi2]
    refine wpAny_bind (wpAny_mono ht (fun r s2 h2 => ?_) fun _ _ x => x)
    rcases h2 with ⟨hr, h2⟩ | ⟨hr, h2, it, it2, n3, n4, hl3, hb3, hs3, hs4⟩
    · subst hr
      have hrec := ih (i + 1) (by omega) (by omega) s2 h2
      obtain ⟨hp2, g2, d2, tk2, os2⟩ := s2
      wp_walk
      rw [hc]
      exact ⟨plainId_quiet plain_eq_loop _, codeAny_builtin entry_eq_loop (by
        rw [Around.under_plainId plain_eq_loop _]
        exact hrec)⟩
    · subst hr
      have hR := fin2 s2 h2
      have hlt3 : i < it.size := by omega
      have hlt4 : i < it2.size := by omega
      have hi3 : it[((i : Nat) : Int).toNat]? = some it[i] := by simp [hlt3]
      have hi4 : it2[((i : Nat) : Int).toNat]? = some it2[i] := by simp [hlt4]
      obtain ⟨hp2, g2, d2, tk2, os2⟩ := s2
      wp_walk using wpAny_loadPart' hl3, wpAny_loadPart' hb3
      rw [hi3, hi4]
      wp_walk
      exact hR

theorem list_eqB (l b : Addr) (N : Nat) (I : Nat → Shared → Prop) (J : Shared → Prop) (hl : ListB prog w A (fun e s' => R (.error e) s') l b N I J)
    (fin : ∀ s, I N s → R (.ok (.ret (.bool true))) s) (fin2 : ∀ s, J s → R (.ok (.ret (.bool false))) s) {s : Shared} (h : I 0 s) :
    wpAny (model prog w) A.in1 (Builtin.«list.__eq__» ⟨[.ref l, .ref b], []⟩) (FinOf prog w A R) (fun e s' => R (.error e) s') s := by
  obtain ⟨items, items2, ⟨n, n2, hl1, hb1, hs1, hs2⟩, _⟩ := hl _ _ h
  have hrec := eq_loopB (A := A) (R := R) l b N I J hl fin fin2 _ 0 rfl (Nat.zero_le _) s h
  obtain ⟨hp, g, d, tk, os⟩ := s
  have f3 := AutoSeq1.sub_list_list
  have hne : ¬ (items.size != items2.size) = true := by simp [hs1, hs2]
  wp_walk using wpAny_loadPart' hl1, wpAny_loadPart' hb1
  exact ⟨plainId_quiet plain_eq_loop _, codeAny_builtin entry_eq_loop (by
    rw [Around.under_plainId plain_eq_loop _]
    exact hrec)⟩

theorem tuple_eqB (l b : Addr) (items items2 : Array Value) (n n2 : Nat) (dd dd2 : Option Addr) (sl sl2 : Array (Option Value)) (I : Nat → Shared → Prop) (J : Shared → Prop)
    (turn : ∀ i (h1 : i < items.size) (h2 : i < items2.size) s, I i s → wpAny (model prog w) A.in1 (eqBool items[i] items2[i]) (fun r s' => (r = true ∧ I (i + 1) s') ∨ (r = false ∧ J s')) (fun e s' => R (.error e) s') s)
    (fin : ∀ s, I (min items.size items2.size) s → R (.ok (.ret (.bool (items.size == items2.size)))) s) (fin2 : ∀ s, J s → R (.ok (.ret (.bool false))) s) {s : Shared} (hl1 : s.heap.get? l = some { cls := .type "tuple", dict := dd, data := .seq items n, slots := sl }) (hb1 : s.heap.get? b = some { cls := .type "tuple", dict := dd2, data := .seq items2 n2, slots := sl2 }) (h : I 0 s) :
    wpAny (model prog w) A.in1 (Builtin.«tuple.__eq__» ⟨[.ref l, .ref b], []⟩) (FinOf prog w A R) (fun e s' => R (.error e) s') s := by
  have f2 := AutoSeq1.sub_tuple_tuple
  have hZ : (items.toList.zip items2.toList).length = min items.size items2.size := by simp
  have h0 := h
  obtain ⟨hp, g, d, tk, os⟩ := s
  wp_walk using wpAny_loadPart' hl1, wpAny_loadPart' hb1, wpAny_forIn_list _ (fun rest b s' => b.1 = none ∧ ∃ i, rest = (items.toList.zip items2.toList).drop i ∧ i ≤ min items.size items2.size ∧ I i s') _
  case turn =>
    rintro ⟨y, x⟩ rest b s' ⟨hb', i, hz, hi, hI⟩
    have hlt : i < (items.toList.zip items2.toList).length := by
      rcases Nat.lt_or_ge i (items.toList.zip items2.toList).length with h' | h'
      · exact h'
      · rw [List.drop_of_length_le h'] at hz; cases hz
    have h1 : i < items.size := by omega
    have h2 : i < items2.size := by omega
    rw [List.drop_eq_getElem_cons hlt] at hz
    injection hz with hyx hrest
    have hy : y = items[i] := by have := congrArg Prod.fst hyx; simpa using this
    have hx : x = items2[i] := by have := congrArg Prod.snd hyx; simpa using this
    subst hy hx
    refine wpAny_bind (wpAny_mono (turn i h1 h2 s' hI) (fun r s2 q2 => ?_) fun _ _ x => x)
    rcases q2 with ⟨hr, q2⟩ | ⟨hr, q2⟩
    · subst hr
      wp_walk
      exact ⟨rfl, i + 1, hrest, by omega, q2⟩
    · subst hr
      have hR := fin2 s2 q2
      wp_walk
      exact hR
  case fin =>
    rintro ⟨b1, b2⟩ s' ⟨hb', i, hz, hi, hI⟩
    simp only at hb'
    subst hb'
    have hge : min items.size items2.size ≤ i := by
      rcases Nat.lt_or_ge i (items.toList.zip items2.toList).length with h' | h'
      · rw [List.drop_eq_getElem_cons h'] at hz; cases hz
      · exact hZ ▸ h'
    have hi' : i = min items.size items2.size := by omega
    have hR := fin s' (hi' ▸ hI)
    wp_walk
    exact hR
  case h =>
    exact ⟨rfl, 0, rfl, Nat.zero_le _, h0⟩

theorem ne_loopB (l b : Addr) (N : Nat) (I : Nat → Shared → Prop) (J : Shared → Prop) (hl : ListB prog w A (fun e s' => R (.error e) s') l b N I J)
    (fin : ∀ s, I N s → R (.ok (.ret (.bool false))) s) (fin2 : ∀ s, J s → R (.ok (.ret (.bool true))) s) (k : Nat) :
    ∀ i : Nat, N - i = k → i ≤ N → ∀ s, I i s →
      wpAny (model prog w) A.in1 (Builtin.«list.__eq__.loop» ⟨[.ref l, .ref b, rawInt i, rawInt 3], []⟩) (FinOf prog w A R) (fun e s' => R (.error e) s') s := by
  induction k with
  | zero =>
    intro i hk hi s h
    obtain ⟨items, items2, ⟨n, n2, hl1, hb1, hs1, hs2⟩, _⟩ := hl _ _ h
    have hi' : i = N := by omega
    have hR : R (.ok (.ret (.bool false))) s := fin s (hi' ▸ h)
    obtain ⟨hp, g, d, tk, os⟩ := s
    wp_walk using wpAny_loadPart' hl1, wpAny_loadPart' hb1
    have hi1 : items[((i : Nat) : Int).toNat]? = none := by simp; omega
    have hi2 : items2[((i : Nat) : Int).toNat]? = none := by simp; omega
    rw [hi1, hi2]
    wp_walk using wpAny_loadPart' hl1, wpAny_loadPart' hb1
    show R (.ok (.ret (.bool (items.size != items2.size)))) _
    rw [hs1, hs2]
    simpa using hR
  | succ k ih =>
    intro i hk hi s h
    obtain ⟨items, items2, ⟨n, n2, hl1, hb1, hs1, hs2⟩, turn⟩ := hl _ _ h
    have hlt : i < items.size := by omega
    have hlt2 : i < items2.size := by omega
    have ht := turn hlt hlt2
    obtain ⟨hp, g, d, tk, os⟩ := s
    wp_walk using wpAny_loadPart' hl1, wpAny_loadPart' hb1
    have hi1 : items[((i : Nat) : Int).toNat]? = some items[i] := by simp [hlt]
    have hi2 : items2[((i : Nat) : Int).toNat]? = some items2[i] := by simp [hlt2]
    have hc : ((i : Int) + 1) = ((i + 1 : Nat) : Int) := by omega
    rw [hi1, hi2]
    refine wpAny_bind (wpAny_mono ht (fun r s2 h2 => ?_) fun _ _ x => x)
    rcases h2 with ⟨hr, h2⟩ | ⟨hr, h2, it, it2, n3, n4, hl3, hb3, hs3, hs4⟩
    · subst hr
      have hrec := ih (i + 1) (by omega) (by omega) s2 h2
      obtain ⟨hp2, g2, d2, tk2, os2⟩ := s2
      wp_walk
      rw [hc]
      exact ⟨plainId_quiet plain_eq_loop _, codeAny_builtin entry_eq_loop (by
        rw [Around.under_plainId plain_eq_loop _]
        exact hrec)⟩
    · subst hr
      have hR := fin2 s2 h2
      have hlt3 : i < it.size := by omega
      have hlt4 : i < it2.size := by omega
      have hi3 : it[((i : Nat) : Int).toNat]? = some it[i] := by simp [hlt3]
      have hi4 : it2[((i : Nat) : Int).toNat]? = some it2[i] := by simp [hlt4]
      obtain ⟨hp2, g2, d2, tk2, os2⟩ := s2
      wp_walk using wpAny_loadPart' hl3, wpAny_loadPart' hb3
      rw [hi3, hi4]
      wp_walk
      exact hR

theorem list_neB (l b : Addr) (N : Nat) (I : Nat → Shared → Prop) (J : Shared → Prop) (hl : ListB prog w A (fun e s' => R (.error e) s') l b N I J)
    (fin : ∀ s, I N s → R (.ok (.ret (.bool false))) s) (fin2 : ∀ s, J s → R (.ok (.ret (.bool true))) s) {s : Shared} (h : I 0 s) :
    wpAny (model prog w) A.in1 (Builtin.«list.__ne__» ⟨[.ref l, .ref b], []⟩) (FinOf prog w A R) (fun e s' => R (.error e) s') s := by
  obtain ⟨items, items2, ⟨n, n2, hl1, hb1, hs1, hs2⟩, _⟩ := hl _ _ h
  have hrec := ne_loopB (A := A) (R := R) l b N I J hl fin fin2 _ 0 rfl (Nat.zero_le _) s h
  obtain ⟨hp, g, d, tk, os⟩ := s
  have f3 := AutoSeq1.sub_list_list
  have hne : ¬ (items.size != items2.size) = true := by simp [hs1, hs2]
  wp_walk using wpAny_loadPart' hl1, wpAny_loadPart' hb1
  exact ⟨plainId_quiet plain_eq_loop _, codeAny_builtin entry_eq_loop (by
    rw [Around.under_plainId plain_eq_loop _]
    exact hrec)⟩

theorem tuple_neB (l b : Addr) (items items2 : Array Value) (n n2 : Nat) (dd dd2 : Option Addr) (sl sl2 : Array (Option Value)) (I : Nat → Shared → Prop) (J : Shared → Prop)
    (turn : ∀ i (h1 : i < items.size) (h2 : i < items2.size) s, I i s → wpAny (model prog w) A.in1 (eqBool items[i] items2[i]) (fun r s' => (r = true ∧ I (i + 1) s') ∨ (r = false ∧ J s')) (fun e s' => R (.error e) s') s)
    (fin : ∀ s, I (min items.size items2.size) s → R (.ok (.ret (.bool (items.size != items2.size)))) s) (fin2 : ∀ s, J s → R (.ok (.ret (.bool true))) s) {s : Shared} (hl1 : s.heap.get? l = some { cls := .type "tuple", dict := dd, data := .seq items n, slots := sl }) (hb1 : s.heap.get? b = some { cls := .type "tuple", dict := dd2, data := .seq items2 n2, slots := sl2 }) (h : I 0 s) :
    wpAny (model prog w) A.in1 (Builtin.«tuple.__ne__» ⟨[.ref l, .ref b], []⟩) (FinOf prog w A R) (fun e s' => R (.error e) s') s := by
  have f2 := AutoSeq1.sub_tuple_tuple
  have hZ : (items.toList.zip items2.toList).length = min items.size items2.size := by simp
  have h0 := h
  obtain ⟨hp, g, d, tk, os⟩ := s
  wp_walk using wpAny_loadPart' hl1, wpAny_loadPart' hb1, wpAny_forIn_list _ (fun rest b s' => b.1 = none ∧ ∃ i, rest = (items.toList.zip items2.toList).drop i ∧ i ≤ min items.size items2.size ∧ I i s') _
  case turn =>
    rintro ⟨y, x⟩ rest b s' ⟨hb', i, hz, hi, hI⟩
    have hlt : i < (items.toList.zip items2.toList).length := by
      rcases Nat.lt_or_ge i (items.toList.zip items2.toList).length with h' | h'
      · exact h'
      · rw [List.drop_of_length_le h'] at hz; cases hz
    have h1 : i < items.size := by omega
    have h2 : i < items2.size := by omega
    rw [List.drop_eq_getElem_cons hlt] at hz
    injection hz with hyx hrest
    have hy : y = items[i] := by have := congrArg Prod.fst hyx; simpa using this
    have hx : x = items2[i] := by have := congrArg Prod.snd hyx; simpa using this
    subst hy hx
    refine wpAny_bind (wpAny_mono (turn i h1 h2 s' hI) (fun r s2 q2 => ?_) fun _ _ x => x)
    rcases q2 with ⟨hr, q2⟩ | ⟨hr, q2⟩
    · subst hr
      wp_walk
      exact ⟨rfl, i + 1, hrest, by omega, q2⟩
    · subst hr
      have hR := fin2 s2 q2
      wp_walk
      exact hR
  case fin =>
    rintro ⟨b1, b2⟩ s' ⟨hb', i, hz, hi, hI⟩
    simp only at hb'
    subst hb'
    have hge : min items.size items2.size ≤ i := by
      rcases Nat.lt_or_ge i (items.toList.zip items2.toList).length with h' | h'
      · rw [List.drop_eq_getElem_cons h'] at hz; cases hz
      · exact hZ ▸ h'
    have hi' : i = min items.size items2.size := by omega
    have hR := fin s' (hi' ▸ hI)
    wp_walk
    exact hR
  case h =>
    exact ⟨rfl, 0, rfl, Nat.zero_le _, h0⟩

theorem rc_list_eqB {l b : Addr} {N : Nat} {E : Value → Shared → Prop} {s : Shared} {Q : Value → Shared → Prop} (hu : A.units < cLine) (I : Nat → Shared → Prop) (J : Shared → Prop) (hl : ListB prog w A E l b N I J)
    (fin : ∀ s, I N s → Q (.bool true) s) (fin2 : ∀ s, J s → Q (.bool false) s) (h : I 0 s) : wpAny (model prog w) A (richCompare .Eq (.ref l) (.ref b)) Q E s := by
  obtain ⟨items, items2, ⟨n, n2, hl1, hb1, _, _⟩, _⟩ := hl _ _ h
  refine wpAny_richCompare_same_room (op := .Eq) ⟨_, hl1, rfl⟩ ⟨_, hb1, rfl⟩ F.slot_list_eq (call_here F.slot_list_eq ⟨_, hl1, rfl⟩ F.entry_list_eq (F.args_list_eq_2 _ _) ?_) hu
  exact list_eqB (R := wants (fun v s' => v ≠ .notImplemented ∧ Q v s') E) l b N I J hl (fun s' q => ⟨(fun x => nomatch x), fin s' q⟩) (fun s' q => ⟨(fun x => nomatch x), fin2 s' q⟩) h
theorem rc_list_eqL {l b : Addr} {items items2 : Array Value} {n n2 : Nat} {E : Value → Shared → Prop} {s : Shared} {Q : Value → Shared → Prop} (hu : A.units < cLine) (hl1 : s.heap.get? l = some { cls := .type "list", data := .seq items n }) (hb1 : s.heap.get? b = some { cls := .type "list", data := .seq items2 n2 }) (hsz : items.size ≠ items2.size)
    (h : Q (.bool false) s) : wpAny (model prog w) A (richCompare .Eq (.ref l) (.ref b)) Q E s := by
  refine wpAny_richCompare_same_room (op := .Eq) ⟨_, hl1, rfl⟩ ⟨_, hb1, rfl⟩ F.slot_list_eq (call_here F.slot_list_eq ⟨_, hl1, rfl⟩ F.entry_list_eq (F.args_list_eq_2 _ _) ?_) hu
  have f3 := AutoSeq1.sub_list_list
  have hne : (items.size != items2.size) = true := by simp [hsz]
  have hR : wants (fun v s' => v ≠ .notImplemented ∧ Q v s') E (.ok (.ret (.bool false))) s := ⟨(fun x => nomatch x), h⟩
  obtain ⟨hp, g, d, tk, os⟩ := s
  wp_walk using wpAny_loadPart' hl1, wpAny_loadPart' hb1
  exact hR
theorem rc_tup_eqB {l b : Addr} {items items2 : Array Value} {E : Value → Shared → Prop} {s : Shared} {Q : Value → Shared → Prop} (hu : A.units < cLine) (I : Nat → Shared → Prop) (J : Shared → Prop)
    (hl : s.heap.IsTuple l items) (hb : s.heap.IsTuple b items2)
    (turn : ∀ i (h1 : i < items.size) (h2 : i < items2.size) s, I i s → wpAny (model prog w) A.in1 (eqBool items[i] items2[i]) (fun r s' => (r = true ∧ I (i + 1) s') ∨ (r = false ∧ J s')) E s)
    (fin : ∀ s, I (min items.size items2.size) s → Q (.bool (items.size == items2.size)) s) (fin2 : ∀ s, J s → Q (.bool false) s) (h : I 0 s) : wpAny (model prog w) A (richCompare .Eq (.ref l) (.ref b)) Q E s := by
  obtain ⟨⟨cls, dd, data, sl⟩, ho, hc, n, hd⟩ := id hl
  obtain ⟨⟨cls2, dd2, data2, sl2⟩, ho2, hc2, n2, hd2⟩ := id hb
  simp only at hc hd hc2 hd2
  subst hc hd hc2 hd2
  refine wpAny_richCompare_same_room (op := .Eq) ⟨_, ho, rfl⟩ ⟨_, ho2, rfl⟩ F.slot_tuple_eq (call_here F.slot_tuple_eq ⟨_, ho, rfl⟩ F.entry_tuple_eq (F.args_tuple_eq_2 _ _) ?_) hu
  exact tuple_eqB (R := wants (fun v s' => v ≠ .notImplemented ∧ Q v s') E) l b items items2 n n2 dd dd2 sl sl2 I J turn (fun s' q => ⟨(fun x => nomatch x), fin s' q⟩) (fun s' q => ⟨(fun x => nomatch x), fin2 s' q⟩) ho ho2 h

theorem rc_list_neB {l b : Addr} {N : Nat} {E : Value → Shared → Prop} {s : Shared} {Q : Value → Shared → Prop} (hu : A.units < cLine) (I : Nat → Shared → Prop) (J : Shared → Prop) (hl : ListB prog w A E l b N I J)
    (fin : ∀ s, I N s → Q (.bool false) s) (fin2 : ∀ s, J s → Q (.bool true) s) (h : I 0 s) : wpAny (model prog w) A (richCompare .NotEq (.ref l) (.ref b)) Q E s := by
  obtain ⟨items, items2, ⟨n, n2, hl1, hb1, _, _⟩, _⟩ := hl _ _ h
  refine wpAny_richCompare_same_room (op := .NotEq) ⟨_, hl1, rfl⟩ ⟨_, hb1, rfl⟩ F.slot_list_ne (call_here F.slot_list_ne ⟨_, hl1, rfl⟩ F.entry_list_ne (F.args_list_ne_2 _ _) ?_) hu
  exact list_neB (R := wants (fun v s' => v ≠ .notImplemented ∧ Q v s') E) l b N I J hl (fun s' q => ⟨(fun x => nomatch x), fin s' q⟩) (fun s' q => ⟨(fun x => nomatch x), fin2 s' q⟩) h
theorem rc_list_neL {l b : Addr} {items items2 : Array Value} {n n2 : Nat} {E : Value → Shared → Prop} {s : Shared} {Q : Value → Shared → Prop} (hu : A.units < cLine) (hl1 : s.heap.get? l = some { cls := .type "list", data := .seq items n }) (hb1 : s.heap.get? b = some { cls := .type "list", data := .seq items2 n2 }) (hsz : items.size ≠ items2.size)
    (h : Q (.bool true) s) : wpAny (model prog w) A (richCompare .NotEq (.ref l) (.ref b)) Q E s := by
  refine wpAny_richCompare_same_room (op := .NotEq) ⟨_, hl1, rfl⟩ ⟨_, hb1, rfl⟩ F.slot_list_ne (call_here F.slot_list_ne ⟨_, hl1, rfl⟩ F.entry_list_ne (F.args_list_ne_2 _ _) ?_) hu
  have f3 := AutoSeq1.sub_list_list
  have hne : (items.size != items2.size) = true := by simp [hsz]
  have hR : wants (fun v s' => v ≠ .notImplemented ∧ Q v s') E (.ok (.ret (.bool true))) s := ⟨(fun x => nomatch x), h⟩
  obtain ⟨hp, g, d, tk, os⟩ := s
  wp_walk using wpAny_loadPart' hl1, wpAny_loadPart' hb1
  exact hR
theorem rc_tup_neB {l b : Addr} {items items2 : Array Value} {E : Value → Shared → Prop} {s : Shared} {Q : Value → Shared → Prop} (hu : A.units < cLine) (I : Nat → Shared → Prop) (J : Shared → Prop)
    (hl : s.heap.IsTuple l items) (hb : s.heap.IsTuple b items2)
    (turn : ∀ i (h1 : i < items.size) (h2 : i < items2.size) s, I i s → wpAny (model prog w) A.in1 (eqBool items[i] items2[i]) (fun r s' => (r = true ∧ I (i + 1) s') ∨ (r = false ∧ J s')) E s)
    (fin : ∀ s, I (min items.size items2.size) s → Q (.bool (items.size != items2.size)) s) (fin2 : ∀ s, J s → Q (.bool true) s) (h : I 0 s) : wpAny (model prog w) A (richCompare .NotEq (.ref l) (.ref b)) Q E s := by
  obtain ⟨⟨cls, dd, data, sl⟩, ho, hc, n, hd⟩ := id hl
  obtain ⟨⟨cls2, dd2, data2, sl2⟩, ho2, hc2, n2, hd2⟩ := id hb
  simp only at hc hd hc2 hd2
  subst hc hd hc2 hd2
  refine wpAny_richCompare_same_room (op := .NotEq) ⟨_, ho, rfl⟩ ⟨_, ho2, rfl⟩ F.slot_tuple_ne (call_here F.slot_tuple_ne ⟨_, ho, rfl⟩ F.entry_tuple_ne (F.args_tuple_ne_2 _ _) ?_) hu
  exact tuple_neB (R := wants (fun v s' => v ≠ .notImplemented ∧ Q v s') E) l b items items2 n n2 dd dd2 sl sl2 I J turn (fun s' q => ⟨(fun x => nomatch x), fin s' q⟩) (fun s' q => ⟨(fun x => nomatch x), fin2 s' q⟩) ho ho2 h
end
end GQ2

namespace Mi
open PySem L2 PySem.Spec PyProof.Rows

/-! ### == of what holds objects with an own __eq__ -/
mutual
/-- may both be one object? -/
def sim : D → D → Bool
  | .non, y => match y with
    | .non => true
    | _ => false
  | .bl a, y => match y with
    | .bl b => a == b
    | _ => false
  | .int a, y => match y with
    | .int b => decide (a = b)
    | _ => false
  | .str a, y => match y with
    | .str b => decide (a = b)
    | _ => false
  | .tup xs, y => match y with
    | .tup ys => simL xs ys
    | .non | .bl _ | .int _ | .str _ => false
    | _ => true
  | .lst xs, y => match y with
    | .lst ys => simL xs ys
    | .non | .bl _ | .int _ | .str _ => false
    | _ => true
  | .ins _ fs, y => match y with
    | .ins _ gs => simF fs gs
    | .non | .bl _ | .int _ | .str _ => false
    | _ => true
  | .scr _, y => match y with
    | .non | .bl _ | .int _ | .str _ => false
    | _ => true
def simL : List D → List D → Bool
  | [], ys => match ys with
    | [] => true
    | _ => false
  | x :: xs, ys => match ys with
    | y :: ys => sim x y && simL xs ys
    | [] => false
def simF : List (Str × D) → List (Str × D) → Bool
  | [], ys => match ys with
    | [] => true
    | _ => false
  | (k, x) :: xs, ys => match ys with
    | (j, y) :: ys => decide (k = j) && sim x y && simF xs ys
    | [] => false
end
section
variable {g : Gx} {X : Cx} {pins : List (Addr × Obj)} {σ : L2.St} {H : Hp} {s : Shared} {F : Addr → Prop}
theorem rep_tupS {a : Addr} {xs : List D} (r : Rep g F H (.ref a) (.tup xs)) : ∃ vs, SqT g.K H a vs ∧ Reps g F H vs xs := by
  cases r with
  | tup f h q => exact ⟨_, SqT.of h, q⟩
  | tupK h q => exact ⟨_, h _, q⟩
mutual
theorem sim_of (hK : X.K = g.K) (I : Inv X pins σ H s) : ∀ {v : V} {x y : D}, Rep g F H v x → Rep g F H v y → sim x y = true
  | _, _, y, .non, r => by cases r; simp [sim]
  | _, _, y, .bl b, r => by cases r; simp [sim]
  | _, _, y, .int i, r => by cases r; simp [sim]
  | _, _, y, .str i, r => by cases r; simp [sim]
  | _, _, y, .tup (vs := vs) (ds := ds) f h q, r => by
    cases r with
    | tup f2 h2 q2 =>
      rw [h] at h2
      cases h2
      rw [sim]
      exact simL_of hK I q q2
    | tupK h2 q2 =>
      cases I.tuple_inj (SqT.of (K := X.K) h) (hK ▸ h2 H)
      rw [sim]
      exact simL_of hK I q q2
    | _ => simp [sim]
  | _, _, y, .tupK h q, r => by
    cases r with
    | tup f2 h2 q2 =>
      cases I.tuple_inj (SqT.of (K := X.K) h2) (hK ▸ h H)
      rw [sim]
      exact simL_of hK I q q2
    | tupK h2 q2 =>
      cases I.tuple_inj (hK ▸ h H) (hK ▸ h2 H)
      rw [sim]
      exact simL_of hK I q q2
    | _ => simp [sim]
  | _, _, y, .lst f h q, r => by
    cases r with
    | lst f2 h2 q2 =>
      rw [h] at h2
      cases h2
      rw [sim]
      exact simL_of hK I q q2
    | _ => simp [sim]
  | _, _, y, .scr _ _, r => by cases r <;> simp [sim]
  | _, _, y, .ins f h q, r => by
    cases r with
    | ins f2 h2 q2 =>
      rw [h] at h2
      injection h2 with h2
      injection h2 with _ _ h3
      subst h3
      rw [sim]
      exact simF_of hK I q q2
    | _ => simp [sim]
theorem simL_of (hK : X.K = g.K) (I : Inv X pins σ H s) : ∀ {vs : List V} {xs ys : List D}, Reps g F H vs xs → Reps g F H vs ys → simL xs ys = true
  | _, _, _, .nil, r => by cases r; simp [simL]
  | _, _, _, .cons a q, r => by
    cases r with
    | cons a2 q2 =>
      rw [simL, sim_of hK I a a2, simL_of hK I q q2]
      rfl
theorem simF_of (hK : X.K = g.K) (I : Inv X pins σ H s) : ∀ {vs : List (Str × V)} {xs ys : List (Str × D)}, RepF g F H vs xs → RepF g F H vs ys → simF xs ys = true
  | _, _, _, .nil, r => by cases r; simp [simF]
  | _, _, _, .cons a q, r => by
    cases r with
    | cons a2 q2 =>
      rw [simF, sim_of hK I a a2, simF_of hK I q q2]
      simp
end
end
def eqC (x y : D) (r : Option Bool) : Option Bool := match r with
  | some false => if sim x y then none else some false
  | r => r
def eqLs (f : D → D → Option Bool) : List D → List D → Option Bool
  | x :: xs, y :: ys => match f x y with
    | some true => eqLs f xs ys
    | some false => some false
    | none => none
  | [], [] => some true
  | _, _ => some false
/-- by the own __eq__, among data alone -/
def eqI (ow : Own) (x y : D) : Option Bool := match mtOwn ow "__eq__" (.d x) [] with
  | some cn => match tyW ow [] (.d y) with
    | some k => if ow.nf cn k then match ow.mt cn "__eq__" [.d x, .d y] [] [] with
        | .ok (.d (.bl b)) [] => some b
        | _ => none
      else none
    | none => none
  | none => none
def eqN (ow : Own) : Nat → D → D → Option Bool
  | 0, x, y => eqD x y
  | n + 1, x, y => match x, y with
    | .tup xs, .tup ys => eqC (.tup xs) (.tup ys) (eqLs (eqN ow n) xs ys)
    | .lst xs, .lst ys => eqC (.lst xs) (.lst ys) (if xs.length = ys.length then eqLs (eqN ow n) xs ys else some false)
    | .ins c fs, y => eqC (.ins c fs) y (eqI ow (.ins c fs) y)
    | x, y => eqD x y
/-- somewhere below the running body, with room -/
structure Bel (X : Cx) (k n : Nat) (A : Around) : Prop where
  rm : Room k A
  un : A.units + n + 16 * k + 200 < cLine
  gd : A.guards = some []
  fr : A.frames = X.A.frames
theorem Bel.in1 {X : Cx} {k n : Nat} {A : Around} (b : Bel X k (n + 1) A) : Bel X k n A.in1 := by
  refine ⟨⟨b.rm.hd, ?_, ?_⟩, ?_, b.gd, b.fr⟩
  · have := b.rm.dp
    show A.depth + 3 * k + 5 < recursionLimit
    omega
  · have := b.un
    show A.units + 1 + 16 * k + 200 < cLine
    omega
  · have := b.un
    show A.units + 1 + n + 16 * k + 200 < cLine
    omega
theorem Bel.mono {X : Cx} {k n m : Nat} {A : Around} (b : Bel X k n A) (h : m ≤ n) : Bel X k m A := ⟨b.rm, by have := b.un; omega, b.gd, b.fr⟩
/-- what stays behind -/
def Stay (X : Cx) (pins : List (Addr × Obj)) (σ : L2.St) (F : Addr → Prop) (H : Hp) (s' : Shared) : Prop := ∃ H', Inv X pins σ H' s' ∧ ∀ a, F a → H' a = H a
section
variable {g : Gx} {G : GTab} {ow : Own} {X : Cx} {c : Ctx} {wx : WX}
theorem Stay.trans {pins : List (Addr × Obj)} {σ : L2.St} {F : Addr → Prop} {H H1 : Hp} {s : Shared} (h : ∀ a, F a → H1 a = H a) (q : Stay X pins σ F H1 s) : Stay X pins σ F H s := by
  obtain ⟨H2, I, e⟩ := q
  exact ⟨H2, I, fun a f => (e a f).trans (h a f)⟩
theorem fz_stay {F : Addr → Prop} {H H1 : Hp} (h : ∀ a, F a → H1 a = H a) : Fz F H F H1 := fun a f => ⟨f, h a f⟩
/-- eqBool gives the answer that eqN tells -/
def EqS (g : Gx) (ow : Own) (X : Cx) (k n : Nat) (f : D → D → Option Bool) : Prop :=
  ∀ (A : Around) (pins : List (Addr × Obj)) (s : Shared) (σ : L2.St) (H : Hp) (F : Addr → Prop) (v w : V) (a b : Value) (x y : D) (r : Bool), Bel X k n A → Inv X pins σ H s → (∀ p, F p → ∃ o, H p = some o) → RelV v a → RelV w b → Rep g F H v x → Rep g F H w y → f x y = some r →
    wpAny (model X.prog X.w) A (eqBool a b) (fun q s' => q = r ∧ Stay X pins σ F H s') X.xe s
theorem eqs_flat (hK : X.K = g.K) {k n : Nat} : EqS g ow X k n eqD := by
  intro A pins s σ H F v w a b x y r B I ft ra rb rx ry h
  have st : Stay X pins σ F H s := ⟨H, I, fun _ _ => rfl⟩
  unfold eqD at h
  split at h
  · cases h
    cases rx
    cases ry
    have q := eqAt_V (A := A) (s := s) ra rb rfl rfl
    refine q X.prog X.w X.xe _ ⟨?_, st⟩
    rename_i a1 b1
    show (a1 == b1) = decide (a1 = b1)
    by_cases e : a1 = b1
    · simp [e]
    · simp [e]
  · split at h
    · rename_i hok
      cases h
      simp only [D.ok, Bool.and_eq_true] at hok
      obtain ⟨⟨p1, q1⟩, p2, q2⟩ := hok
      obtain ⟨as, r1⟩ := Dp.reads I x.py v a (hK ▸ rx.dp p1) ra
      obtain ⟨bs, r2⟩ := Dp.reads I y.py w b (hK ▸ ry.dp p2) rb
      exact SeqAt.eqAt_reads _ _ A s a b as bs r1 r2 (SeqAt.canLay_of_shaped q1) (SeqAt.canLay_of_shaped q2) (SeqAt.room_of_shaped q1 (by have := B.un; omega)) X.prog X.w X.xe _ ⟨rfl, st⟩
    · cases h
/-- the turn of a loop over two rows of items -/
def LoopB (X : Cx) (pins : List (Addr × Obj)) (σ : L2.St) (F : Addr → Prop) (H : Hp) (f : D → D → Option Bool) (xs ys : List D) (r : Bool) (i : Nat) (s' : Shared) : Prop := eqLs f (xs.drop i) (ys.drop i) = some r ∧ Stay X pins σ F H s'
theorem reps_get {F : Addr → Prop} {H : Hp} : ∀ {vs : List V} {xs : List D} {i : Nat} {v : V}, Reps g F H vs xs → vs[i]? = some v → ∃ x, xs[i]? = some x ∧ Rep g F H v x
  | _, _, _, _, .nil, h => by simp at h
  | _, _, 0, _, .cons a _, h => by simp at h; subst h; exact ⟨_, rfl, a⟩
  | _, _, i + 1, _, .cons _ r, h => by
    obtain ⟨x, h1, h2⟩ := reps_get (i := i) r (by simpa using h)
    exact ⟨x, by simpa using h1, h2⟩
theorem turnB {k n : Nat} {f : D → D → Option Bool} (E : EqS g ow X k n f) {A : Around} (B : Bel X k (n + 1) A) {pins : List (Addr × Obj)} {σ : L2.St} {H : Hp} {F : Addr → Prop} (ft : ∀ p, F p → ∃ o, H p = some o) {vs ws : List V} {xs ys : List D} {its its2 : List Value} {r : Bool}
    (r1 : Vals vs its) (r2 : Vals ws its2) (q1 : Reps g F H vs xs) (q2 : Reps g F H ws ys) (i : Nat) (h1 : i < its.toArray.size) (h2 : i < its2.toArray.size) (s' : Shared) (l : LoopB X pins σ F H f xs ys r i s') :
    wpAny (model X.prog X.w) A.in1 (eqBool its.toArray[i] its2.toArray[i]) (fun q s2 => (q = true ∧ LoopB X pins σ F H f xs ys r (i + 1) s2) ∨ (q = false ∧ r = false ∧ Stay X pins σ F H s2)) X.xe s' := by
  obtain ⟨hl, H1, I1, e1⟩ := l
  have g1 : its[i]? = some its.toArray[i] := by
    have h1' : i < its.length := by simpa using h1
    rw [List.getElem?_eq_getElem h1'] <;> simp
  have g2 : its2[i]? = some its2.toArray[i] := by
    have h2' : i < its2.length := by simpa using h2
    rw [List.getElem?_eq_getElem h2'] <;> simp
  have k1 : i < vs.length := by rw [r1.length]; simpa using h1
  have k2 : i < ws.length := by rw [r2.length]; simpa using h2
  obtain ⟨u, hu, ru⟩ := r1.get (List.getElem?_eq_getElem k1)
  obtain ⟨v, hv, rv⟩ := r2.get (List.getElem?_eq_getElem k2)
  rw [g1] at hu
  rw [g2] at hv
  rw [Option.some.inj hu, Option.some.inj hv]
  obtain ⟨x, hx, rx⟩ := reps_get q1 (List.getElem?_eq_getElem k1)
  obtain ⟨y, hy, ry⟩ := reps_get q2 (List.getElem?_eq_getElem k2)
  obtain ⟨lx, hx⟩ := List.getElem?_eq_some_iff.mp hx
  obtain ⟨ly, hy⟩ := List.getElem?_eq_some_iff.mp hy
  rw [List.drop_eq_getElem_cons lx, List.drop_eq_getElem_cons ly, hx, hy, eqLs] at hl
  have ft1 : ∀ p, F p → ∃ o, H1 p = some o := fun p f => by rw [e1 p f]; exact ft p f
  cases hf : f x y with
  | none => rw [hf] at hl; cases hl
  | some b =>
    rw [hf] at hl
    refine wpAny_mono (E A.in1 pins s' σ H1 F _ _ u v x y b B.in1 I1 ft1 ru rv (rx.mono (fz_stay e1)) (ry.mono (fz_stay e1)) hf) (fun q s2 z => ?_) fun _ _ x => x
    obtain ⟨rfl, z⟩ := z
    cases q with
    | true => exact .inl ⟨rfl, hl, z.trans e1⟩
    | false =>
      cases hl
      exact .inr ⟨rfl, rfl, z.trans e1⟩
def CmpS (g : Gx) (X : Cx) (k n : Nat) (op : CmpOp) (f : D → D → Option Bool) (P : D → D → Prop) (neg : Bool) : Prop :=
  ∀ (A : Around) (pins : List (Addr × Obj)) (s : Shared) (σ : L2.St) (H : Hp) (F : Addr → Prop) (v w : V) (a b : Value) (x y : D) (r : Bool), P x y → Bel X k n A → Inv X pins σ H s → (∀ p, F p → ∃ o, H p = some o) → RelV v a → RelV w b → Rep g F H v x → Rep g F H w y → f x y = some r →
    wpAny (model X.prog X.w) A (richCompare op a b) (fun q s' => q = .bool (if neg then !r else r) ∧ Stay X pins σ F H s') X.xe s
def BothT (x y : D) : Prop := ∃ xs ys, x = .tup xs ∧ y = .tup ys
def BothL (x y : D) : Prop := ∃ xs ys, x = .lst xs ∧ y = .lst ys
def lsT (f : D → D → Option Bool) : D → D → Option Bool
  | .tup xs, .tup ys => eqLs f xs ys
  | .lst xs, .lst ys => if xs.length = ys.length then eqLs f xs ys else some false
  | _, _ => none
theorem eqLs_end {f : D → D → Option Bool} : ∀ {xs ys : List D} {r : Bool}, eqLs f (xs.drop (min xs.length ys.length)) (ys.drop (min xs.length ys.length)) = some r → (xs.length == ys.length) = r
  | [], [], r, h => by simp [eqLs] at h; simpa using h
  | [], y :: ys, r, h => by simp [eqLs] at h; simpa using h
  | x :: xs, [], r, h => by simp [eqLs] at h; simpa using h
  | x :: xs, y :: ys, r, h => by
    have q := eqLs_end (xs := xs) (ys := ys) (r := r) (by simpa [Nat.add_min_add_right] using h)
    simpa using q
theorem tup_cmp (hK : X.K = g.K) {k n : Nat} {f : D → D → Option Bool} (E : EqS g ow X k n f) : CmpS g X k (n + 1) .Eq (lsT f) BothT false ∧ CmpS g X k (n + 1) .NotEq (lsT f) BothT true := by
  have pre : ∀ {pins : List (Addr × Obj)} {s : Shared} {σ : L2.St} {H : Hp} {F : Addr → Prop} {v : V} {a : Value} {xs : List D}, Inv X pins σ H s → RelV v a → Rep g F H v (.tup xs) → ∃ (p : Addr) (vs : List V) (its : List Value), a = .ref p ∧ Vals vs its ∧ s.heap.IsTuple p its.toArray ∧ Reps g F H vs xs := fun {pins s σ H F v a xs} I ra rx => by
    cases v with
    | ref p =>
      obtain ⟨vs, sq, rs⟩ := rep_tupS rx
      obtain ⟨its, r, e, _⟩ := I.tuple (hK ▸ sq)
      cases ra
      exact ⟨p, vs, its, rfl, r, e, rs⟩
    | _ => cases rx
  constructor
  · intro A pins s σ H F v w a b x y r P B I ft ra rb rx ry h
    obtain ⟨xs, ys, rfl, rfl⟩ := P
    obtain ⟨p, vs, its, rfl, r1, t1, q1⟩ := pre I ra rx
    obtain ⟨p2, ws, its2, rfl, r2, t2, q2⟩ := pre I rb ry
    have l1 : its.toArray.size = xs.length := by rw [List.size_toArray, ← r1.length, reps_len q1]
    have l2 : its2.toArray.size = ys.length := by rw [List.size_toArray, ← r2.length, reps_len q2]
    refine GQ2.rc_tup_eqB (by have := B.un; omega) (fun i s' => LoopB X pins σ F H f xs ys r i s') (fun s' => r = false ∧ Stay X pins σ F H s') t1 t2 (fun i h1 h2 s' l => turnB E B ft r1 r2 q1 q2 i h1 h2 s' l) (fun s' l => ?_) (fun s' l => ?_) ⟨h, H, I, fun _ _ => rfl⟩
    · obtain ⟨e, st⟩ := l
      rw [l1, l2] at e ⊢
      exact ⟨congrArg Value.bool (eqLs_end e), st⟩
    · obtain ⟨rfl, st⟩ := l
      exact ⟨rfl, st⟩
  · intro A pins s σ H F v w a b x y r P B I ft ra rb rx ry h
    obtain ⟨xs, ys, rfl, rfl⟩ := P
    obtain ⟨p, vs, its, rfl, r1, t1, q1⟩ := pre I ra rx
    obtain ⟨p2, ws, its2, rfl, r2, t2, q2⟩ := pre I rb ry
    have l1 : its.toArray.size = xs.length := by rw [List.size_toArray, ← r1.length, reps_len q1]
    have l2 : its2.toArray.size = ys.length := by rw [List.size_toArray, ← r2.length, reps_len q2]
    refine GQ2.rc_tup_neB (by have := B.un; omega) (fun i s' => LoopB X pins σ F H f xs ys r i s') (fun s' => r = false ∧ Stay X pins σ F H s') t1 t2 (fun i h1 h2 s' l => turnB E B ft r1 r2 q1 q2 i h1 h2 s' l) (fun s' l => ?_) (fun s' l => ?_) ⟨h, H, I, fun _ _ => rfl⟩
    · obtain ⟨e, st⟩ := l
      rw [l1, l2] at e ⊢
      refine ⟨congrArg Value.bool ?_, st⟩
      rw [← eqLs_end e]
      rfl
    · obtain ⟨rfl, st⟩ := l
      exact ⟨rfl, st⟩
theorem lst_cmp (hK : X.K = g.K) {k n : Nat} {f : D → D → Option Bool} (E : EqS g ow X k n f) : CmpS g X k (n + 1) .Eq (lsT f) BothL false ∧ CmpS g X k (n + 1) .NotEq (lsT f) BothL true := by
  have pre : ∀ {H : Hp} {F : Addr → Prop} {v : V} {a : Value} {xs : List D}, RelV v a → Rep g F H v (.lst xs) → ∃ (p : Addr) (vs : List V), a = .ref p ∧ F p ∧ H p = some (.lst vs) ∧ Reps g F H vs xs := fun {H F v a xs} ra rx => by
    cases rx with
    | lst f h q =>
      cases ra
      exact ⟨_, _, rfl, f, h, q⟩
  have two : ∀ {pins : List (Addr × Obj)} {s : Shared} {σ : L2.St} {H : Hp} {F : Addr → Prop} {p p2 : Addr} {vs ws : List V} {N : Nat}, vs.length = N → ws.length = N → F p → F p2 → H p = some (.lst vs) → H p2 = some (.lst ws) → Stay X pins σ F H s → ∃ its its2 : List Value, Vals vs its ∧ Vals ws its2 ∧ GQ2.Two p p2 N its.toArray its2.toArray s := fun {pins s σ H F p p2 vs ws N} n1 n2 f1 f2 h1 h2 st => by
    obtain ⟨H1, I1, e1⟩ := st
    obtain ⟨z, its, k, r, e⟩ := I1.hok p _ ((e1 p f1).trans h1)
    obtain ⟨z2, its2, k2, r2, e2⟩ := I1.hok p2 _ ((e1 p2 f2).trans h2)
    exact ⟨its, its2, r, r2, k, k2, e, e2, by rw [List.size_toArray, ← r.length, n1], by rw [List.size_toArray, ← r2.length, n2]⟩
  constructor
  · intro A pins s σ H F v w a b x y r P B I ft ra rb rx ry h
    obtain ⟨xs, ys, rfl, rfl⟩ := P
    obtain ⟨p, vs, rfl, f1, h1, q1⟩ := pre ra rx
    obtain ⟨p2, ws, rfl, f2, h2, q2⟩ := pre rb ry
    have st0 : Stay X pins σ F H s := ⟨H, I, fun _ _ => rfl⟩
    unfold lsT at h
    dsimp only at h
    split at h
    · rename_i hlen
      refine GQ2.rc_list_eqB (N := xs.length) (by have := B.un; omega) (fun i s' => LoopB X pins σ F H f xs ys r i s') (fun s' => r = false ∧ Stay X pins σ F H s') (fun i s' l => ?_) (fun s' l => ?_) (fun s' l => ?_) ⟨h, st0⟩
      · obtain ⟨its, its2, r1, r2, t⟩ := two (reps_len q1) ((reps_len q2).trans hlen.symm) f1 f2 h1 h2 l.2
        refine ⟨its.toArray, its2.toArray, t, fun k1 k2 => wpAny_mono (turnB E B ft r1 r2 q1 q2 i k1 k2 s' l) (fun q s2 z => ?_) fun _ _ z => z⟩
        rcases z with z | ⟨z1, z2, z3⟩
        · exact .inl z
        · obtain ⟨it, it2, _, _, t2⟩ := two (reps_len q1) ((reps_len q2).trans hlen.symm) f1 f2 h1 h2 z3
          exact .inr ⟨z1, ⟨z2, z3⟩, _, _, t2⟩
      · obtain ⟨e, st⟩ := l
        rw [List.drop_length, hlen, List.drop_length] at e
        cases e
        exact ⟨rfl, st⟩
      · obtain ⟨rfl, st⟩ := l
        exact ⟨rfl, st⟩
    · rename_i hlen
      cases h
      obtain ⟨z, its, k1, r1, e1⟩ := I.hok p _ h1
      obtain ⟨z2, its2, k2, r2, e2⟩ := I.hok p2 _ h2
      exact GQ2.rc_list_eqL (by have := B.un; omega) e1 e2 (by rw [List.size_toArray, List.size_toArray, ← r1.length, ← r2.length, reps_len q1, reps_len q2]; exact hlen) ⟨rfl, st0⟩
  · intro A pins s σ H F v w a b x y r P B I ft ra rb rx ry h
    obtain ⟨xs, ys, rfl, rfl⟩ := P
    obtain ⟨p, vs, rfl, f1, h1, q1⟩ := pre ra rx
    obtain ⟨p2, ws, rfl, f2, h2, q2⟩ := pre rb ry
    have st0 : Stay X pins σ F H s := ⟨H, I, fun _ _ => rfl⟩
    unfold lsT at h
    dsimp only at h
    split at h
    · rename_i hlen
      refine GQ2.rc_list_neB (N := xs.length) (by have := B.un; omega) (fun i s' => LoopB X pins σ F H f xs ys r i s') (fun s' => r = false ∧ Stay X pins σ F H s') (fun i s' l => ?_) (fun s' l => ?_) (fun s' l => ?_) ⟨h, st0⟩
      · obtain ⟨its, its2, r1, r2, t⟩ := two (reps_len q1) ((reps_len q2).trans hlen.symm) f1 f2 h1 h2 l.2
        refine ⟨its.toArray, its2.toArray, t, fun k1 k2 => wpAny_mono (turnB E B ft r1 r2 q1 q2 i k1 k2 s' l) (fun q s2 z => ?_) fun _ _ z => z⟩
        rcases z with z | ⟨z1, z2, z3⟩
        · exact .inl z
        · obtain ⟨it, it2, _, _, t2⟩ := two (reps_len q1) ((reps_len q2).trans hlen.symm) f1 f2 h1 h2 z3
          exact .inr ⟨z1, ⟨z2, z3⟩, _, _, t2⟩
      · obtain ⟨e, st⟩ := l
        rw [List.drop_length, hlen, List.drop_length] at e
        cases e
        exact ⟨rfl, st⟩
      · obtain ⟨rfl, st⟩ := l
        exact ⟨rfl, st⟩
    · rename_i hlen
      cases h
      obtain ⟨z, its, k1, r1, e1⟩ := I.hok p _ h1
      obtain ⟨z2, its2, k2, r2, e2⟩ := I.hok p2 _ h2
      exact GQ2.rc_list_neL (by have := B.un; omega) e1 e2 (by rw [List.size_toArray, List.size_toArray, ← r1.length, ← r2.length, reps_len q1, reps_len q2]; exact hlen) ⟨rfl, st0⟩
end
end Mi

namespace Mi
open PySem L2 PySem.Spec PyProof.Rows

/-! ### == of tuples and lists that hold objects with an own __eq__, at the top -/
theorem eqC_some {x y : D} {q : Option Bool} {r : Bool} (h : eqC x y q = some r) : q = some r ∧ (sim x y = true → r = true) := by
  unfold eqC at h
  split at h
  · split at h
    · cases h
    · rename_i hs
      cases h
      exact ⟨rfl, fun z => absurd z hs⟩
  · rename_i hne
    refine ⟨h, fun z => ?_⟩
    cases r with
    | true => rfl
    | false => exact (hne h).elim
section
variable {g : Gx} {G : GTab} {ow : Own} {X : Cx} {c : Ctx} {wx : WX}
theorem nil_rl {ρ : Nat → Addr} {F : Addr → Prop} {H : Hp} (ft : ∀ p, F p → ∃ o, H p = some o) : Rl g ρ F H [] :=
  ⟨fun i c e => by simp at e, fun i j hi => by simp at hi, fun i c e => by simp at e, fun i hi => by simp at hi, ft⟩
def IsIns (x _y : D) : Prop := ∃ c fs, x = .ins c fs
theorem own_at {ρ : Nat → Addr} {F : Addr → Prop} {H : Hp} {S : Store} {a : W} {x : V} {cn : Str} (L : Rl g ρ F H S) (r : RepW g ρ S.length F H x a) (h : mtOwn ow "__eq__" a S = some cn) : ∃ p dx fs, x = .ref p ∧ H p = some (.ins (g.ca cn) dx fs) ∧ (cn, ("__eq__" : Str)) ∈ ow.mts := by
  unfold mtOwn at h
  split at h
  · rename_i cn' gs hfs
    split at h
    · rename_i hcc
      cases h
      rw [Bool.and_eq_true] at hcc
      obtain ⟨p, dx, fs, rfl, h1, _⟩ := fields_at L r hfs
      exact ⟨p, dx, fs, rfl, h1, List.contains_iff_mem.mp hcc.1⟩
    · cases h
  · cases h
theorem ins_cmp (o : COk g G ow X c wx) (hc : c.calm = true) {n : Nat} : CmpS g X c.k n .Eq (eqI ow) IsIns false := by
  intro A pins s σ H F v w a b x y r P B I ft ra rb rx ry h
  have L : Rl g (fun _ => (0 : Nat)) F H [] := nil_rl ft
  unfold eqI at h
  split at h
  · rename_i cn hm
    split at h
    · rename_i k hk
      split at h
      · rename_i hnf
        split at h
        · rename_i bb he
          cases h
          obtain ⟨p, dx, fs, rfl, hp, hin⟩ := own_at (S := []) (a := .d x) (x := v) L rx hm
          obtain ⟨f, M, FM⟩ := (o.own hc).mt cn "__eq__" hin
          obtain ⟨mA, J, _⟩ := ins_get I.hok hp
          obtain ⟨od, J, _⟩ := J.look
          obtain ⟨Pk, Z, pz, _⟩ := kit_W o I L rb (S := []) (w := .d y) ry hk
          obtain ⟨mm, hF⟩ := I.fr
          obtain rfl : a = Value.ref p := ra
          refine PySem.W.cmp_K (op := .Eq) (by have := B.un; omega) hF I.ok.mod.kin J (Z.ty _ _ I.kIn pz) (by rw [o.K]; exact o.ct.nf cn k hnf) M.at_ M.fn (wpAny_mono (run_eq B.rm B.gd B.fr FM I rb (S := []) (wa := .d x) (wb := .d y) L rx ry (wx2 := fun _ _ _ _ => False) (σ2 := []) (neg := false) (Q := fun v H' => v = .bl r ∧ ∀ a, F a → H' a = H a) ?_) (fun v s' z => ?_) fun _ _ z => z)
          · rw [he]
            intro v ρ1 F1 H1 z L1 rv
            cases rv
            exact ⟨rfl, fun a f => (z.fz a f).2⟩
          · obtain ⟨kk, rfl, vv, H1, I1, rv, q1, q2⟩ := z
            subst q1
            refine ⟨rv, H1, I1, q2⟩
        · cases h
      · cases h
    · cases h
  · cases h
theorem eqs_step (hK : X.K = g.K) {k n : Nat} {f : D → D → Option Bool} {P : D → D → Prop} (C : CmpS g X k n .Eq f P false) {A : Around} {pins : List (Addr × Obj)} {s : Shared} {σ : L2.St} {H : Hp} {F : Addr → Prop} {v w : V} {a b : Value} {x y : D} {r : Bool} (hP : P x y) (B : Bel X k n A) (I : Inv X pins σ H s) (ft : ∀ p, F p → ∃ o, H p = some o) (ra : RelV v a) (rb : RelV w b) (rx : Rep g F H v x) (ry : Rep g F H w y) (hr : ∃ p, v = .ref p) (h : eqC x y (f x y) = some r) :
    wpAny (model X.prog X.w) A (eqBool a b) (fun q s' => q = r ∧ Stay X pins σ F H s') X.xe s := by
  obtain ⟨h1, h2⟩ := eqC_some h
  obtain ⟨p, rfl⟩ := hr
  obtain rfl : a = Value.ref p := ra
  have main := C A pins s σ H F _ w _ b x y r hP B I ft (show RelV (V.ref p) (Value.ref p) from rfl) rb rx ry h1
  unfold eqBool
  refine wpAny_holding ?_
  refine wpAny_ite_split (fun hab => ?_) (fun hab => ?_)
  · have e := eq_of_beq hab
    subst e
    have ew : w = .ref p := by
      cases w with
      | ref q => cases rb; rfl
      | int _ => obtain ⟨_, z⟩ := rb; cases z
      | str _ => obtain ⟨_, z⟩ := rb; cases z
      | byt _ => obtain ⟨_, z⟩ := rb; cases z
      | flt _ => obtain ⟨_, z⟩ := rb; cases z
      | _ => cases rb
    subst ew
    refine wpAny_bind (wpAny_rule ?_)
    exact wpAny_pure ⟨(h2 (sim_of hK I rx ry)).symm, H, I, fun _ _ => rfl⟩
  · refine wpAny_bind (wpAny_mono main (fun q s' z => ?_) fun _ _ z => z)
    obtain ⟨rfl, st⟩ := z
    exact wpAny_truthy_bool ⟨rfl, st⟩
theorem eqs_all (o : COk g G ow X c wx) (hc : c.calm = true) : ∀ n : Nat, EqS g ow X c.k n (eqN ow n)
  | 0 => by
    have e : eqN ow 0 = eqD := by
      funext x y
      rw [eqN]
    rw [e]
    exact eqs_flat o.K
  | n + 1 => by
    have ih := eqs_all o hc n
    intro A pins s σ H F v w a b x y r B I ft ra rb rx ry h
    unfold eqN at h
    split at h
    · exact eqs_step o.K (tup_cmp o.K ih).1 ⟨_, _, rfl, rfl⟩ B I ft ra rb rx ry (by cases rx <;> exact ⟨_, rfl⟩) h
    · exact eqs_step o.K (lst_cmp o.K ih).1 ⟨_, _, rfl, rfl⟩ B I ft ra rb rx ry (by cases rx <;> exact ⟨_, rfl⟩) h
    · exact eqs_step o.K (ins_cmp o hc) ⟨_, _, rfl⟩ B I ft ra rb rx ry (by cases rx <;> exact ⟨_, rfl⟩) h
    · exact eqs_flat (ow := ow) o.K A pins s σ H F v w a b _ _ r B I ft ra rb rx ry h
/-- frozen, or a cell -/
def withC (ρ : Nat → Addr) (n : Nat) (F : Addr → Prop) : Addr → Prop := fun a => F a ∨ ∃ i, i < n ∧ a = ρ i
theorem fz_withC {ρ : Nat → Addr} {n : Nat} {F : Addr → Prop} {H : Hp} : Fz F H (withC ρ n F) H := fun a f => ⟨.inl f, rfl⟩
theorem asD_all {ρ : Nat → Addr} {F : Addr → Prop} {H : Hp} {S : Store} {w : W} {x : D} {v : V} (L : Rl g ρ F H S) (r : RepW g ρ S.length F H v w) (h : asD S w = some x) : Rep g (withC ρ S.length F) H v x := by
  unfold asD at h
  split at h
  · cases h
    exact Rep.mono fz_withC r
  · rename_i n
    split at h
    · rename_i ws e
      cases q : pureL ws with
      | none => rw [q] at h; cases h
      | some ds =>
        rw [q] at h
        cases h
        obtain ⟨vs, h1, h2⟩ := L.at_ n _ e
        rw [pureL_eq q] at h2
        obtain ⟨hn, rfl⟩ := r
        exact .lst (.inr ⟨n, hn, rfl⟩) h1 (Reps.mono fz_withC (ws_reps h2))
    · cases h
  · cases h
theorem rl_stay {ρ : Nat → Addr} {F : Addr → Prop} {H H1 : Hp} {S : Store} (L : Rl g ρ F H S) (e : ∀ a, withC ρ S.length F a → H1 a = H a) : Rl g ρ F H1 S := by
  refine ⟨fun i c q => ?_, L.inj, L.nf, fun i hi => ?_, fun a f => ?_⟩
  · have hi : i < S.length := (List.getElem?_eq_some_iff.mp q).1
    exact (L.at_ i c q).mono ⟨fun a f => ⟨f, e a (.inl f)⟩, fun _ _ => rfl, Nat.le_refl _⟩ (e _ (.inr ⟨i, hi, rfl⟩))
  · rw [e _ (.inr ⟨i, hi, rfl⟩)]
    exact L.there i hi
  · rw [e a (.inl f)]
    exact L.fth a f
def deepEq (ow : Own) (calm neg : Bool) (x y : W) (S : Store) : R W := if calm then match asD S x, asD S y with
    | some a, some b => match lsT (eqN ow 6) a b with
      | some r => .ok (.d (.bl (if neg then !r else r))) S
      | none => .bad
    | _, _ => .bad
  else .bad
def orDeep (ow : Own) (calm neg : Bool) (x y : W) (S : Store) (r : R W) : R W := match r with
  | .bad => deepEq ow calm neg x y S
  | r => r
def cmpX (ow : Own) (calm : Bool) (op : CmpOp) (x y : W) (S : Store) : R W := match op with
  | .Eq => orDeep ow calm false x y S (cmpX0 ow calm .Eq x y S)
  | .NotEq => orDeep ow calm true x y S (cmpX0 ow calm .NotEq x y S)
  | op => cmpX0 ow calm op x y S
theorem deep_of (o : COk g G ow X c wx) {op : CmpOp} {neg : Bool} (hop : ∀ a b, compareOp op a b = richCompare op a b) (CT : c.calm = true → CmpS g X c.k 7 op (lsT (eqN ow 6)) BothT neg) (CL : c.calm = true → CmpS g X c.k 7 op (lsT (eqN ow 6)) BothL neg) : OpR X (compareOp op) (rW g (deepEq ow c.calm neg)) := by
  rintro pins s σ H x y v u Q I rx ry ⟨wx', σ', ρ, F, S, a, b, L, r1, r2, P⟩
  unfold deepEq at P
  split at P
  · rename_i hc
    split at P
    · rename_i d1 d2 e1 e2
      split at P
      · rename_i r hr
        have B : Bel X c.k 7 X.A := ⟨o.rm hc, by have := o.sl hc; omega, o.gd, rfl⟩
        have ft : ∀ p, withC ρ S.length F p → ∃ o, H p = some o := fun p f => by
          rcases f with f | ⟨i, hi, rfl⟩
          · exact L.fth p f
          · exact L.there i hi
        have fin : wpAny (model X.prog X.w) X.A (richCompare op v u) (fun q s' => q = .bool (if neg then !r else r) ∧ Stay X pins σ (withC ρ S.length F) H s') X.xe s := by
          unfold lsT at hr
          split at hr
          · exact CT hc X.A pins s σ H _ x y v u _ _ r ⟨_, _, rfl, rfl⟩ B I ft rx ry (asD_all L r1 e1) (asD_all L r2 e2) hr
          · exact CL hc X.A pins s σ H _ x y v u _ _ r ⟨_, _, rfl, rfl⟩ B I ft rx ry (asD_all L r1 e1) (asD_all L r2 e2) hr
          · cases hr
        rw [hop]
        refine wpAny_mono fin (fun q s' z => ?_) fun _ _ z => z
        obtain ⟨rfl, H1, I1, e⟩ := z
        exact ⟨.bl _, H1, I1, rfl, P _ ρ F H1 ⟨fun a f => ⟨f, e a (.inl f)⟩, fun _ _ => rfl, Nat.le_refl _⟩ (rl_stay L e) (.bl _)⟩
      · exact P.elim
    · exact P.elim
  · exact P.elim
theorem or_deep (o : COk g G ow X c wx) {op : CmpOp} {neg : Bool} (h0 : OpR X (compareOp op) (rW g (cmpX0 ow c.calm op))) (h1 : OpR X (compareOp op) (rW g (deepEq ow c.calm neg))) : OpR X (compareOp op) (rW g (fun x y S => orDeep ow c.calm neg x y S (cmpX0 ow c.calm op x y S))) := by
  rintro pins s σ H x y v u Q I rx ry ⟨wx', σ', ρ, F, S, a, b, L, r1, r2, P⟩
  unfold orDeep at P
  dsimp only at P
  split at P
  · exact h1 pins s σ H x y v u Q I rx ry ⟨wx', σ', ρ, F, S, a, b, L, r1, r2, P⟩
  · exact h0 pins s σ H x y v u Q I rx ry ⟨wx', σ', ρ, F, S, a, b, L, r1, r2, P⟩
theorem cmpX_ok (o : COk g G ow X c wx) (op : CmpOp) : OpR X (compareOp op) (rW g (cmpX ow c.calm op)) := by
  cases op with
  | Eq => exact or_deep o (cmpX0_ok o .Eq) (deep_of o (fun _ _ => rfl) (fun hc => (tup_cmp o.K (eqs_all o hc 6)).1) fun hc => (lst_cmp o.K (eqs_all o hc 6)).1)
  | NotEq => exact or_deep o (cmpX0_ok o .NotEq) (deep_of o (fun _ _ => rfl) (fun hc => (tup_cmp o.K (eqs_all o hc 6)).2) fun hc => (lst_cmp o.K (eqs_all o hc 6)).2)
  | Lt => exact cmpX0_ok o .Lt
  | LtE => exact cmpX0_ok o .LtE
  | Gt => exact cmpX0_ok o .Gt
  | GtE => exact cmpX0_ok o .GtE
  | In => exact cmpX0_ok o .In
  | NotIn => exact cmpX0_ok o .NotIn
  | Is => exact cmpX0_ok o .Is
  | IsNot => exact cmpX0_ok o .IsNot
theorem cmp1x_ok (o : COk g G ow X c wx) {a b : Expr} {m1 m2 : EnvM → Store → R W} {op : CmpOp} {pos : Pos} (hm : behindInMarks op b = false) (ha : PE X a (tE g wx m1)) (hb : PE X b (tE g wx m2)) :
    PE X (.Compare a [op] [b] pos) (tE g wx fun env S => (m1 env S).bind fun x S1 => (m2 env S1).bind fun y S2 => cmpX ow c.calm op x y S2) :=
  pe_mono (pe_cmpR (cmpX_ok o op) ha hb hm) (two_ok (a := a) (b := b))
theorem tcmp1x_ok (o : COk g G ow X c wx) {a b : Expr} {m1 m2 : EnvM → Store → R W} {op : CmpOp} {pos : Pos} (hm : behindInMarks op b = false) (ha : PE X a (tE g wx m1)) (hb : PE X b (tE g wx m2)) :
    PT X (.Compare a [op] [b] pos) (tT g wx fun env S => asBool ((m1 env S).bind fun x S1 => (m2 env S1).bind fun y S2 => cmpX ow c.calm op x y S2)) := by
  refine pt_mono (pt_cmpR (cmpX_ok o op) ha hb hm) fun σ H Q h => ?_
  obtain ⟨ρ, F, S, env, L, E, P⟩ := tB_of σ H Q h
  exact two_ok (a := a) (b := b) σ H _ ⟨ρ, F, S, env, L, E, P⟩
end
end Mi

namespace Mi
open PySem L2 PySem.Spec PyProof.Rows

/-! ### the run, put together -/
structure Rn where
  e : Bool → Ctx → Expr → EnvM → Store → R W
  t : Ctx → Expr → EnvM → Store → R Bool
  s : RunS
structure SRn (G : GTab) (ow : Own) (r : Rn) : Prop where
  e : ∀ (g : Gx) (X : Cx) (c : Ctx) (wx : WX) (bx : Bool) (x : Expr), COk g G ow X c wx → PE X x (tE g wx (r.e bx c x))
  t : ∀ (g : Gx) (X : Cx) (c : Ctx) (wx : WX) (x : Expr), COk g G ow X c wx → PT X x (tT g wx (r.t c x))
  s : ∀ (g : Gx) (X : Cx) (c : Ctx) (wx : WX) (ss : List Stmt), COk g G ow X c wx → PSs X ss (tS g wx (r.s c ss))
abbrev FE := EnvM → Store → R W
abbrev FT := EnvM → Store → R Bool
abbrev FA := EnvM → Store → R (List W)
abbrev FS := EnvM → Store → RS
def badE : FE := fun _ _ => .bad
def badT : FT := fun _ _ => .bad
def badA : FA := fun _ _ => .bad
def badS : FS := fun _ _ => .bad
/-- the items of a list or a tuple -/
def seqW (S : Store) (w : W) : Option (List W) := match lookT w with
  | some xs => some xs
  | none => lookL S w
def fApp (xs ws : List W) (S : Store) : R (List W) := .ok (xs ++ ws) S
def fStar (g : Store → R (List W)) (w : W) (S : Store) : R (List W) := match seqW S w with
  | some xs => (g S).bind (fApp xs)
  | none => .bad
def argsM (r : Rn) (c : Ctx) : List Expr → FA
  | [] => fun _ S => .ok [] S
  | .Starred e _ :: es => fun env S => (r.e false c e env S).bind (fStar (argsM r c es env))
  | e :: es => if isStar e then badA else fun env S => (r.e false c e env S).bind fun w S1 => (argsM r c es env S1).bind fun ws S2 => .ok (w :: ws) S2
def kwsM (r : Rn) (c : Ctx) : List Keyword → FA
  | [] => fun _ S => .ok [] S
  | k :: ks => fun env S => (r.e false c k.value env S).bind fun w S1 => (kwsM r c ks env S1).bind fun ws S2 => .ok (w :: ws) S2
def andM (r : Rn) (c : Ctx) : List Expr → FE
  | [] => badE
  | [a] => r.e false c a
  | a :: es => fun env S => (r.e false c a env S).bind fun w S1 => match truW S1 w with
      | some true => andM r c es env S1
      | some false => .ok w S1
      | none => .bad
def orM (r : Rn) (c : Ctx) : List Expr → FE
  | [] => badE
  | [a] => r.e false c a
  | a :: es => fun env S => (r.e false c a env S).bind fun w S1 => match truW S1 w with
      | some true => .ok w S1
      | some false => orM r c es env S1
      | none => .bad
def andT (r : Rn) (c : Ctx) : List Expr → FT
  | [] => badT
  | [a] => r.t c a
  | a :: es => fun env S => (r.t c a env S).bind fun k S1 => if k then andT r c es env S1 else .ok false S1
def orT (r : Rn) (c : Ctx) : List Expr → FT
  | [] => badT
  | [a] => r.t c a
  | a :: es => fun env S => (r.t c a env S).bind fun k S1 => if k then .ok true S1 else orT r c es env S1
def chainW (o1 o2 : CmpOp) (m1 m2 m3 : FE) : FE := fun env S => (m1 env S).bind fun x S1 => (m2 env S1).bind fun y S2 => (cmpW o1 x y S2).bind fun k S3 => match k with
  | .d (.bl true) => (m3 env S3).bind fun z S4 => cmpW o2 y z S4
  | .d (.bl false) => .ok (.d (.bl false)) S3
  | _ => .bad
section
variable {g : Gx} {G : GTab} {ow : Own} {X : Cx} {c : Ctx} {wx : WX} {r : Rn}
theorem never_t' {e : Expr} : PT X e (tT g wx badT) := ⟨fun pins s σ H Q I ⟨ρ, F, S, env, L, E, P⟩ => P.elim⟩
theorem never_a' {es : List Expr} : PA X es (tA g wx badA) := ⟨fun pos pins s σ H Q I ⟨ρ, F, S, env, L, E, P⟩ => P.elim⟩
theorem never_e' {e : Expr} : PE X e (tE g wx badE) := ⟨fun pins s σ H Q I ⟨ρ, F, S, env, L, E, P⟩ => P.elim⟩
theorem never_s' {st : Stmt} : PS X st (tS g wx badS) := ⟨fun pins s σ H Q I ⟨ρ, F, S, env, L, E, P⟩ => P.elim⟩
theorem astar_ok (o : COk g G ow X c wx) {e : Expr} {es : List Expr} {p : Pos} {m : FE} {ma : FA} (he : PE X e (tE g wx m)) (ha : PA X es (tA g wx ma)) : PA X (.Starred e p :: es) (tA g wx fun env S => (m env S).bind (fStar (ma env))) := by
  refine pa_mono (StX.pa_star he ha) ?_
  rintro σ H Q ⟨ρ, F, S, env, L, E, P⟩
  refine ⟨ρ, F, S, env, L, E, Post.seq P fun w S1 v ρ1 F1 H1 _ z L1 r1 P1 => ?_⟩
  unfold fStar at P1
  split at P1
  · rename_i xs hx
    have sq : ∃ a vs, v = .ref a ∧ (SqT X.K H1 a vs ∨ SqL X.K H1 a vs) ∧ RepWs g ρ1 S1.length F1 H1 vs xs := by
      unfold seqW at hx
      split at hx
      · rename_i ys hy
        cases hx
        obtain ⟨a, vs, h1, h2, h3⟩ := repT (ρ := ρ1) (F := F1) (H := H1) (S := S1) hy r1
        exact ⟨a, vs, h1, .inl (o.K ▸ h2), h3⟩
      · obtain ⟨a, vs, h1, h2, h3⟩ := repL hx L1 r1
        exact ⟨a, vs, h1, .inr (SqL.of h2), h3⟩
    obtain ⟨a, vs, e1, e2, e3⟩ := sq
    refine ⟨a, vs, e1, e2, ρ1, F1, S1, env, L1, E.mono z, Post.seq P1 fun ws S2 ys ρ2 F2 H2 _ z2 L2 r2 P2 => ?_⟩
    exact P2 _ ρ2 F2 H2 Gr.refl L2 (paired_app (e3.mono z2) r2)
  · exact P1.elim
theorem args_ok (hr : SRn G ow r) (o : COk g G ow X c wx) : ∀ es : List Expr, PA X es (tA g wx (argsM r c es))
  | [] => anil_ok
  | e :: es => by
    unfold argsM
    split
    · rename_i h
      cases h
    · rename_i e2 p2 es2 h
      cases h
      exact astar_ok o (hr.e g X c wx false e2 o) (args_ok hr o es)
    · rename_i e2 es2 hne h
      cases h
      split
      · exact never_a'
      · rename_i h
        exact acons_ok (star_cons (by simpa using h) es X.env) (hr.e g X c wx false e o) (args_ok hr o es)
theorem args_nil' : ∀ es : List Expr, es = [] → ∀ env S, argsM r c es env S = .ok [] S
  | _, rfl, _, _ => rfl
theorem kws_ok (hr : SRn G ow r) (o : COk g G ow X c wx) : ∀ ks : List Keyword, PK X ks (tA g wx (kwsM r c ks))
  | [] => pk0_ok
  | ⟨nm, e, p⟩ :: ks => pk1_ok (hr.e g X c wx false e o) (kws_ok hr o ks)
theorem andM_ok (hr : SRn G ow r) (o : COk g G ow X c wx) (pos : Pos) : ∀ es : List Expr, PE X (.BoolOp .And es pos) (tE g wx (andM r c es))
  | [] => never_e'
  | [a] => pe_one (hr.e g X c wx false a o)
  | a :: b :: es => and_ok o (hr.e g X c wx false a o) (andM_ok hr o pos (b :: es))
theorem orM_ok (hr : SRn G ow r) (o : COk g G ow X c wx) (pos : Pos) : ∀ es : List Expr, PE X (.BoolOp .Or es pos) (tE g wx (orM r c es))
  | [] => never_e'
  | [a] => pe_one (hr.e g X c wx false a o)
  | a :: b :: es => or_ok o (hr.e g X c wx false a o) (orM_ok hr o pos (b :: es))
theorem andT_ok (hr : SRn G ow r) (o : COk g G ow X c wx) (pos : Pos) : ∀ es : List Expr, PW X (.BoolOp .And es pos) (tT g wx (andT r c es))
  | [] => ⟨fun wh pins s σ H Q I ⟨ρ, F, S, env, L, E, P⟩ => P.elim⟩
  | [a] => pw_and1 (hr.t g X c wx a o)
  | a :: b :: es => tand_ok (hr.t g X c wx a o) (andT_ok hr o pos (b :: es))
theorem orT_ok (hr : SRn G ow r) (o : COk g G ow X c wx) (pos : Pos) : ∀ es : List Expr, PW X (.BoolOp .Or es pos) (tT g wx (orT r c es))
  | [] => ⟨fun wh pins s σ H Q I ⟨ρ, F, S, env, L, E, P⟩ => P.elim⟩
  | [a] => pw_or1 (hr.t g X c wx a o)
  | a :: b :: es => tor_ok (hr.t g X c wx a o) (orT_ok hr o pos (b :: es))
theorem chain_read {o1 o2 : CmpOp} {m1 m2 m3 : FE} : ∀ σ H Q, tE g wx (chainW o1 o2 m1 m2 m3) σ H Q → tChain (rW g (cmpW o1)) (rW g (cmpW o2)) (tE g wx m1) (tE g wx m2) (tE g wx m3) σ H Q := by
  rintro σ H Q ⟨ρ, F, S, env, L, E, P⟩
  refine ⟨ρ, F, S, env, L, E, Post.seq P fun wa S1 x ρ1 F1 H1 _ z1 L1 r1 P1 => ?_⟩
  refine ⟨ρ1, F1, S1, env, L1, E.mono z1, Post.seq P1 fun wb S2 y ρ2 F2 H2 _ z2 L2 r2 P2 => ?_⟩
  refine ⟨wx, σ, ρ2, F2, S2, wa, wb, L2, r1.mono z2, r2, Post.seq P2 fun k S3 v ρ3 F3 H3 _ z3 L3 r3 P3 => ?_⟩
  split at P3
  · cases r3
    exact ⟨true, rfl, iteT ⟨ρ3, F3, S3, env, L3, ((E.mono z1).mono z2).mono z3, Post.seq P3 fun wc S4 y2 ρ4 F4 H4 _ z4 L4 r4 P4 => ⟨wx, σ, ρ4, F4, S4, wb, wc, L4, (r2.mono z3).mono z4, r4, P4⟩⟩⟩
  · cases r3
    exact ⟨false, rfl, iteF (P3.val L3 (.bl false))⟩
  · exact P3.elim
theorem cmp2_ok (o : COk g G ow X c wx) {a b d : Expr} {o1 o2 : CmpOp} {pos : Pos} {m1 m2 m3 : FE} (hm : lastMarks [o1, o2] [b, d] = false) (ha : PE X a (tE g wx m1)) (hb : PE X b (tE g wx m2)) (hc : PE X d (tE g wx m3)) :
    PE X (.Compare a [o1, o2] [b, d] pos) (tE g wx (chainW o1 o2 m1 m2 m3)) :=
  pe_mono (pe_chain (cmp_ok (by have := o.un; omega) o.K o1) (cmp_ok (by have := o.un; omega) o.K o2) ha hb hc hm) chain_read
theorem tcmp2_ok (o : COk g G ow X c wx) {a b d : Expr} {o1 o2 : CmpOp} {pos : Pos} {m1 m2 m3 : FE} (hm : lastMarks [o1, o2] [b, d] = false) (ha : PE X a (tE g wx m1)) (hb : PE X b (tE g wx m2)) (hc : PE X d (tE g wx m3)) :
    PT X (.Compare a [o1, o2] [b, d] pos) (tT g wx fun env S => asBool (chainW o1 o2 m1 m2 m3 env S)) := by
  refine pt_mono (pt_chain (cmp_ok (by have := o.un; omega) o.K o1) (cmp_ok (by have := o.un; omega) o.K o2) ha hb hc hm) fun σ H Q h => ?_
  obtain ⟨ρ, F, S, env, L, E, P⟩ := tB_of σ H Q h
  exact chain_read σ H _ ⟨ρ, F, S, env, L, E, P⟩
end
end Mi

namespace Mi
open PySem L2 PySem.Spec PyProof.Rows

/-! ### what a loop goes over -/
def isRng (G : GTab) : Bool := match G.lookup ("range" : Str) with
  | some (.bt T) => decide (T = "range")
  | _ => false
def iterM (G : GTab) (r : Rn) (c : Ctx) : Expr → FA
  | .Call (.Name f p) [a] [] pos => if f = ("range" : Str) then (if isGlob c f && isRng G && !isStar a then fun env S => (argsM r c [a] env S).bind fun ws S1 => match ws with
      | [.d (.int j)] => if j ≤ 100000 ∧ -100000 ≤ j then .ok (intsW 0 j.toNat) S1 else .bad
      | _ => .bad
    else badA) else fun env S => iterV (r.e false c (.Call (.Name f p) [a] [] pos) env S)
  | e => fun env S => iterV (r.e false c e env S)
/-! ### expressions -/
def unM (r : Rn) (c : Ctx) (op : UnaryOp) (a : Expr) : FE := match op with
  | .Not => fun env S => (truR (r.e false c a env S)).bind fun b S1 => .ok (.d (.bl !b)) S1
  | .USub => fun env S => (r.e false c a env S).bind fun w S1 => match w with
    | .d (.int i) => .ok (.d (.int (-i))) S1
    | _ => .bad
  | _ => badE
def cmpM (ow : Own) (r : Rn) (c : Ctx) (a : Expr) (ops : List CmpOp) (bs : List Expr) : FE := match ops, bs with
  | [op], [b] => if behindInMarks op b then badE else fun env S => (r.e false c a env S).bind fun x S1 => (r.e false c b env S1).bind fun y S2 => cmpX ow c.calm op x y S2
  | [o1, o2], [b, d] => if lastMarks [o1, o2] [b, d] then badE else chainW o1 o2 (r.e false c a) (r.e false c b) (r.e false c d)
  | _, _ => badE
def optM (r : Rn) (c : Ctx) : Option Expr → EnvM → Store → R (Option Int)
  | none => fun _ S => .ok none S
  | some e => fun env S => partOf (r.e false c e env S)
def ixM (r : Rn) (c : Ctx) (a b : Expr) : FE := match b with
  | .Slice lo hi none _ => fun env S => (r.e false c a env S).bind fun x S1 => (optM r c lo env S1).bind fun l S2 => (optM r c hi env S2).bind fun h S3 => slW x l h S3
  | .Slice _ _ _ _ => badE
  | b => fun env S => (r.e false c a env S).bind fun x S1 => (r.e false c b env S1).bind fun y S2 => ixW x y S2
def ifsM (r : Rn) (c : Ctx) : List Expr → FT
  | [] => fun _ S => .ok true S
  | [t] => r.t c t
  | _ => badT
def noSet : Expr → Bool
  | .Set _ _ _ => false
  | _ => true
def compE (G : GTab) (r : Rn) (bx : Bool) (c : Ctx) (elt : Expr) (gs : List Comprehension) (scope : Scope) : FE := match gs with
  | [⟨tg, iter, ifs, 0⟩] => if compC c scope tg && noSet iter then compM bx c scope tg (iterM G r c iter) (ifsM r { c with sc := scope, top := false } ifs) (r.e false { c with sc := scope, top := false } elt) else badE
  | _ => badE
def isSet (G : GTab) (f : Str) : Bool := match G.lookup f with
  | some (.bt T) => decide (T = "set")
  | _ => false
theorem isSet_ok {G : GTab} {f : Str} (h : isSet G f = true) : G.lookup f = some (.bt "set") := by
  unfold isSet at h
  split at h
  · rename_i T e
    rw [e, of_decide_eq_true h]
  · cases h
/-- f(..) -/
def callN (G : GTab) (ow : Own) (r : Rn) (bx : Bool) (c : Ctx) (f : Str) (es : List Expr) (kws : List Keyword) : FE :=
  if isGlob c f && plainName f && noStar es && kwOk kws then match G.lookup f with
    | some .own => if c.calm then fun env S => (argsM r c es env S).bind fun as S1 => (kwsM r c kws env S1).bind fun bs S2 => ow.fn f as ((kwNames kws).zip bs) S2 else badE
    | some (.bf id) => match kws, es with
      | [], [e, .Name x _] => if id = "isinstance" then match kdOf G ow c x with
          | some k => fun env S => (r.e false c e env S).bind fun w S1 => isiM ow [k] w S1
          | none => badE
        else fun env S => (argsM r c es env S).bind (callB c.calm id)
      | [], [e, .Tuple ns _ _] => if id = "isinstance" then match kdsOf G ow c ns with
          | some ks => if ks.length ≤ 1000 then fun env S => (r.e false c e env S).bind fun w S1 => isiM ow ks w S1 else badE
          | none => badE
        else fun env S => (argsM r c es env S).bind (callB c.calm id)
      | [], [.Call (.Name f2 _) [a] [] _] => if id = "len" then (if isSet G f2 then (if c.calm && isGlob c f2 && plainName f2 && !isStar a then fun env S => (r.e false c a env S).bind lenSetM else badE) else fun env S => (argsM r c es env S).bind (callB c.calm id)) else if id = "repr" then fun env S => (argsM r c es env S).bind reprM else fun env S => (argsM r c es env S).bind (callB c.calm id)
      | [], _ :: _ => if id = "repr" then fun env S => (argsM r c es env S).bind reprM else fun env S => (argsM r c es env S).bind (callB c.calm id)
      | _, _ => badE
    | some (.bt T) => match kws, es with
      | [], _ :: _ => fun env S => (argsM r c es env S).bind (if bx then boxTy T else callTy T)
      | _, _ => badE
    | _ => badE
  else badE
/-- o.m(..) -/
def lmM (r : Rn) (c : Ctx) (o : Expr) (id : String) (es : List Expr) : FE := fun env S => (r.e false c o env S).bind fun w S0 => if isLst S0 w then (argsM r c es env S0).bind fun as S1 => mtW id w as S1 else .bad
def callA (ow : Own) (r : Rn) (c : Ctx) (o : Expr) (m : Str) (apos : Pos) (es : List Expr) (kws : List Keyword) (pos : Pos) : FE :=
  if notBase o && fewForm es kws && (apos.endLine == pos.line) then (if c.calm then fun env S => (r.e false c o env S).bind fun w S0 => if isLst S0 w then (match kws, mtName m with
      | [], some id => (argsM r c es env S0).bind fun as S1 => mtW id w as S1
      | _, _ => .bad)
    else match mtOwn ow m w S0 with
      | some cn => (argsM r c es env S0).bind fun as S1 => (kwsM r c kws env S1).bind fun bs S2 => ow.mt cn m (w :: as) ((kwNames kws).zip bs) S2
      | none => .bad
    else match kws, mtName m with
      | [], some id => lmM r c o id es
      | _, _ => badE)
  else badE
def stE (G : GTab) (ow : Own) (r : Rn) (bx : Bool) (c : Ctx) (e : Expr) : FE := match e with
  | .Name x _ => nameE G c x
  | .Constant k _ _ => fun _ S => constE k S
  | .BinOp a op b _ => fun env S => (r.e false c a env S).bind fun x S1 => (r.e false c b env S1).bind fun y S2 => binW op x y S2
  | .UnaryOp op a _ => unM r c op a
  | .Compare a ops bs _ => cmpM ow r c a ops bs
  | .BoolOp .And es _ => andM r c es
  | .BoolOp .Or es _ => orM r c es
  | .IfExp t a b _ => fun env S => (r.t c t env S).bind fun k S1 => if k then r.e bx c a env S1 else r.e bx c b env S1
  | .Subscript a b _ => ixM r c a b
  | .Tuple es _ _ => fun env S => (argsM r c es env S).bind tupOf
  | .List es _ => fun env S => (argsM r c es env S).bind (if bx then boxOf else lstOf)
  | .ListComp elt gs scope _ => compE G r bx c elt gs scope
  | .Call (.Name f _) es kws _ => callN G ow r bx c f es kws
  | .Call (.Attribute o m apos) es kws pos => callA ow r c o m apos es kws pos
  | .Attribute o f _ => if notBase o then fun env S => (r.e false c o env S).bind (fldX ow f) else badE
  | _ => badE
def plainTest : Expr → Bool
  | .UnaryOp .Not _ _ => false
  | .BoolOp _ _ _ => false
  | .IfExp _ _ _ _ => false
  | .Compare _ _ _ _ => false
  | _ => true
def stT (G : GTab) (ow : Own) (r : Rn) (c : Ctx) (e : Expr) : FT := match e with
  | .UnaryOp .Not a _ => fun env S => (r.t c a env S).bind fun b S1 => .ok (!b) S1
  | .BoolOp .And es _ => andT r c es
  | .BoolOp .Or es _ => orT r c es
  | .Compare a ops bs _ => match ops, bs with
    | [op], [b] => if behindInMarks op b then badT else fun env S => asBool ((r.e false c a env S).bind fun x S1 => (r.e false c b env S1).bind fun y S2 => cmpX ow c.calm op x y S2)
    | [o1, o2], [b, d] => if lastMarks [o1, o2] [b, d] then badT else fun env S => asBool (chainW o1 o2 (r.e false c a) (r.e false c b) (r.e false c d) env S)
    | _, _ => badT
  | e => if plainTest e then fun env S => truR (r.e false c e env S) else badT
section
variable {g : Gx} {G : GTab} {ow : Own} {X : Cx} {c : Ctx} {wx : WX} {r : Rn}
theorem boot_range : bootBuiltins "range" = some (.type "range") := by kernel_rfl
theorem iter_ok (hr : SRn G ow r) (o : COk g G ow X c wx) (tg e : Expr) : PI X tg e (tI g wx (iterM G r c e)) := by
  unfold iterM
  split
  · rename_i f p a pos
    split
    · rename_i hf
      split
      · rename_i h
        simp only [Bool.and_eq_true, Bool.not_eq_true'] at h
        subst hf
        have q := h.1.2
        unfold isRng at q
        split at q
        · rename_i T e
          exact range1_ok (o.glo _ h.1.1) (o.bt _ _ e).1 (args_ok hr o [a]) (star_cons h.2 [] X.env)
        · cases q
      · exact ⟨fun pins s σ H Q I ⟨ρ, F, S, env, L, E, P⟩ => P.elim⟩
    · exact iterV_ok o (hr.e g X c wx false _ o)
  · exact iterV_ok o (hr.e g X c wx false _ o)
theorem noset_ok {e : Expr} (h : noSet e = true) (env : Env) : ∀ x, foldedSetIterable e env x = pure x := by
  intro x
  unfold foldedSetIterable
  cases e <;> first | rfl | cases h
theorem ifs_ok (hr : SRn G ow r) (o : COk g G ow X c wx) : ∀ ts : List Expr, PTs X ts (tT g wx (ifsM r c ts))
  | [] => ⟨fun pins s σ H Q I ⟨ρ, F, S, env, L, E, P⟩ => pts_nil.run pins s σ H Q I (P true ρ F H Gr.refl L rfl)⟩
  | [t] => pts_one (hr.t g X c wx t o)
  | _ :: _ :: _ => ⟨fun pins s σ H Q I ⟨ρ, F, S, env, L, E, P⟩ => P.elim⟩
theorem opt_ok (hr : SRn G ow r) (o : COk g G ow X c wx) : ∀ e : Option Expr, PO X e (tP g wx (optM r c e))
  | none => part0_ok
  | some e => part1_ok (hr.e g X c wx false e o)
theorem comp_ok (hr : SRn G ow r) (o : COk g G ow X c wx) (bx : Bool) (elt : Expr) (gs : List Comprehension) (scope : Scope) (pos : Pos) : PE X (.ListComp elt gs scope pos) (tE g wx (compE G r bx c elt gs scope)) := by
  unfold compE
  split
  · rename_i tg iter ifs
    split
    · rename_i h
      rw [Bool.and_eq_true] at h
      exact lcomp_ok o bx h.1 (iter_ok hr o tg iter) (fun X' o' => ifs_ok hr o' ifs) (fun X' o' => hr.e g X' _ _ false elt o') (noset_ok h.2 X.env)
    · exact never_e'
  · exact never_e'
theorem callN_ok (hr : SRn G ow r) (o : COk g G ow X c wx) (bx : Bool) (f : Str) (p : Pos) (es : List Expr) (kws : List Keyword) (pos : Pos) : PE X (.Call (.Name f p) es kws pos) (tE g wx (callN G ow r bx c f es kws)) := by
  unfold callN
  split
  · rename_i h
    simp only [Bool.and_eq_true] at h
    obtain ⟨⟨⟨h1, h2⟩, h3⟩, h4⟩ := h
    split
    · rename_i e
      split
      · rename_i hc
        exact callown_ok o e hc h1 h2 h3 h4 (args_nil' es) (args_ok hr o es) (kws_ok hr o kws)
      · exact never_e'
    · rename_i id e
      split
      · rename_i e1 x q
        split
        · rename_i hid
          subst hid
          split
          · rename_i k hk
            simp only [noStar, List.all_cons, Bool.and_eq_true, Bool.not_eq_true'] at h3
            exact isi1_ok o e h1 h2 hk h3.1 (hr.e g X c wx false e1 o)
          · exact never_e'
        · exact callbf_ok o e h1 h2 h3 (args_ok hr o _)
      · rename_i e1 ns jj qq
        split
        · rename_i hid
          subst hid
          split
          · rename_i ks hks
            split
            · rename_i hln
              simp only [noStar, List.all_cons, Bool.and_eq_true, Bool.not_eq_true'] at h3
              exact isiT_ok o e h1 h2 hks hln h3.1 (hr.e g X c wx false e1 o)
            · exact never_e'
          · exact never_e'
        · exact callbf_ok o e h1 h2 h3 (args_ok hr o _)
      · rename_i f2 p2 a q2
        split
        · rename_i hid
          subst hid
          split
          · rename_i hset
            split
            · rename_i h
              simp only [Bool.and_eq_true, Bool.not_eq_true'] at h
              exact lenset_ok o e (isSet_ok hset) h1 h.1.1.2 h2 h.1.2 h.1.1.1 h.2 (hr.e g X c wx false a o)
            · exact never_e'
          · exact callbf_ok o e h1 h2 h3 (args_ok hr o _)
        · split
          · rename_i hid
            subst hid
            exact callrepr_ok o e h1 h2 h3 (args_ok hr o _)
          · exact callbf_ok o e h1 h2 h3 (args_ok hr o _)
      · split
        · rename_i hid
          subst hid
          exact callrepr_ok o e h1 h2 h3 (args_ok hr o _)
        · exact callbf_ok o e h1 h2 h3 (args_ok hr o _)
      · exact never_e'
    · rename_i T e
      split
      · exact callbt_ok o bx e h1 h2 h3 (args_ok hr o _)
      · exact never_e'
    · exact never_e'
  · exact never_e'
theorem callA_ok (hr : SRn G ow r) (o : COk g G ow X c wx) (e : Expr) (m : Str) (apos : Pos) (es : List Expr) (kws : List Keyword) (pos : Pos) : PE X (.Call (.Attribute e m apos) es kws pos) (tE g wx (callA ow r c e m apos es kws pos)) := by
  unfold callA
  split
  · rename_i h
    simp only [Bool.and_eq_true] at h
    obtain ⟨⟨h1, h2⟩, h3⟩ := h
    split
    · rename_i hc
      refine ⟨fun pins s σ H Q I ⟨ρ, F, S, env, L, E, P⟩ => ?_⟩
      dsimp only at P
      by_cases hl : ∃ w S1, r.e false c e env S = .ok w S1 ∧ isLst S1 w = true
      · obtain ⟨w, S1, e1, e2⟩ := hl
        rw [e1] at P
        change Post g wx σ (rpW g) ρ S.length F H Q (if isLst S1 w = true then _ else _) at P
        rw [if_pos e2] at P
        cases kws with
        | cons k ks => exact P.elim
        | nil =>
          cases hm : mtName m with
          | none => rw [hm] at P; exact P.elim
          | some id =>
            rw [hm] at P
            refine (lmeth_ok o hm h1 h2 h3 (args_nil' es) (hr.e g X c wx false e o) (args_ok hr o es)).run pins s σ H Q I ⟨ρ, F, S, env, L, E, ?_⟩
            dsimp only
            rw [e1]
            change Post g wx σ (rpW g) ρ S.length F H Q (if isLst S1 w = true then _ else _)
            rw [if_pos e2]
            exact P
      · refine (methown_ok o hc h1 h2 h3 (args_nil' es) (hr.e g X c wx false e o) (args_ok hr o es) (kws_ok hr o kws)).run pins s σ H Q I ⟨ρ, F, S, env, L, E, ?_⟩
        dsimp only
        cases e1 : r.e false c e env S with
        | bad => rw [e1] at P; exact P
        | exc cc fs S1 => rw [e1] at P; exact P
        | ok w S1 =>
          rw [e1] at P
          change Post g wx σ (rpW g) ρ S.length F H Q (if isLst S1 w = true then _ else _) at P
          rw [if_neg (fun z => hl ⟨w, S1, e1, z⟩)] at P
          exact P
    · split
      · rename_i id hm
        exact lmeth_ok o hm h1 h2 h3 (args_nil' es) (hr.e g X c wx false e o) (args_ok hr o es)
      · exact never_e'
  · exact never_e'
theorem un_ok (hr : SRn G ow r) (o : COk g G ow X c wx) (op : UnaryOp) (a : Expr) (pos : Pos) : PE X (.UnaryOp op a pos) (tE g wx (unM r c op a)) := by
  unfold unM
  cases op with
  | Not => exact notE_ok o (hr.e g X c wx false a o)
  | USub => exact usub_ok (hr.e g X c wx false a o)
  | _ => exact never_e'
theorem cmpM_ok (hr : SRn G ow r) (o : COk g G ow X c wx) (a : Expr) (ops : List CmpOp) (bs : List Expr) (pos : Pos) : PE X (.Compare a ops bs pos) (tE g wx (cmpM ow r c a ops bs)) := by
  unfold cmpM
  split
  · split
    · exact never_e'
    · rename_i h
      exact cmp1x_ok o (by simpa using h) (hr.e g X c wx false _ o) (hr.e g X c wx false _ o)
  · split
    · exact never_e'
    · rename_i h
      exact cmp2_ok o (by simpa using h) (hr.e g X c wx false _ o) (hr.e g X c wx false _ o) (hr.e g X c wx false _ o)
  · exact never_e'
theorem ixM_ok (hr : SRn G ow r) (o : COk g G ow X c wx) (a b : Expr) (pos : Pos) : PE X (.Subscript a b pos) (tE g wx (ixM r c a b)) := by
  unfold ixM
  split
  · exact sliceE_ok o (hr.e g X c wx false _ o) (opt_ok hr o _) (opt_ok hr o _)
  · exact never_e'
  · rename_i h1 h2
    refine ixE_ok o (plainIx_of ?_) (hr.e g X c wx false _ o) (hr.e g X c wx false _ o)
    split
    · rename_i x1 x2 x3 x4
      exact absurd rfl (h2 x1 x2 x3 x4)
    · rfl
theorem stE_ok (hr : SRn G ow r) (o : COk g G ow X c wx) (bx : Bool) (e : Expr) : PE X e (tE g wx (stE G ow r bx c e)) := by
  unfold stE
  split
  · exact name_ok o _ _
  · exact const_ok _ _ _
  · exact binop_ok o (hr.e g X c wx false _ o) (hr.e g X c wx false _ o)
  · exact un_ok hr o _ _ _
  · exact cmpM_ok hr o _ _ _ _
  · exact andM_ok hr o _ _
  · exact orM_ok hr o _ _
  · exact ifE_ok (hr.t g X c wx _ o) (hr.e g X c wx bx _ o) (hr.e g X c wx bx _ o)
  · exact ixM_ok hr o _ _ _
  · exact tup_ok (args_ok hr o _)
  · cases bx with
    | true => exact box_ok (args_ok hr o _)
    | false => exact lst_ok (args_ok hr o _)
  · exact comp_ok hr o bx _ _ _ _
  · exact callN_ok hr o bx _ _ _ _ _
  · exact callA_ok hr o _ _ _ _ _ _
  · split
    · rename_i h
      exact fldX_ok o h (hr.e g X c wx false _ o)
    · exact never_e'
  · exact never_e'
theorem plain_test {e : Expr} (h : plainTest e = true) (env : Env) : ∀ whole, isTrue e env whole = (do let v ← whole; standAt e.pos; holding [v] (truthy v)) := by
  intro whole
  cases e with
  | UnaryOp op a p => cases op <;> first | rfl | cases h
  | BoolOp _ _ _ => cases h
  | IfExp _ _ _ _ => cases h
  | Compare _ _ _ _ => cases h
  | _ => rfl
theorem stT_ok (hr : SRn G ow r) (o : COk g G ow X c wx) (e : Expr) : PT X e (tT g wx (stT G ow r c e)) := by
  unfold stT
  split
  · exact notT_ok (hr.t g X c wx _ o)
  · exact (andT_ok hr o _ _).pt
  · exact (orT_ok hr o _ _).pt
  · split
    · split
      · exact never_t'
      · rename_i h
        exact tcmp1x_ok o (by simpa using h) (hr.e g X c wx false _ o) (hr.e g X c wx false _ o)
    · split
      · exact never_t'
      · rename_i h
        exact tcmp2_ok o (by simpa using h) (hr.e g X c wx false _ o) (hr.e g X c wx false _ o) (hr.e g X c wx false _ o)
    · exact never_t'
  · split
    · rename_i h
      exact truth_ok o (hr.e g X c wx false _ o) (plain_test h X.env)
    · exact never_t'
end
end Mi

namespace Mi
open PySem L2 PySem.Spec PyProof.Rows

/-! ### statements -/
def isSt : Expr → Bool
  | .Starred .. => true
  | _ => false
def nmAt (sc : Scope) (line : Nat) : Expr → Option Str
  | .Name id pos => if sc.names.lookup id == some .local && pos.line == line then some id else none
  | _ => none
def bkOf (sc : Scope) : ScopeKind := if sc.kind.isAnnotationScope then .function else sc.kind
/-- which names are stored from the right; none: not told -/
def swapN (sc : Scope) (ts vs : List Expr) : Option (Option (List Str)) :=
  if !(ts.length == 2 || ts.length == 3) || vs.length != ts.length || bkOf sc != .function then some none
  else if vs.any isSt then some none
  else if (ts.filterMap (nmAt sc ((ts.head?.map (·.pos.line)).getD 0))).length != ts.length || (ts.filterMap (nmAt sc ((ts.head?.map (·.pos.line)).getD 0))).eraseDups.length != (ts.filterMap (nmAt sc ((ts.head?.map (·.pos.line)).getD 0))).length then some none
  else if vs.all (foldedForSure 8) then some none
  else if vs.all (constantsAlone 8) then none
  else some (some (ts.filterMap (nmAt sc ((ts.head?.map (·.pos.line)).getD 0))))
theorem swapN_ok {ts vs : List Expr} {k j : Nat} {p q : Pos} {env : Env} {r : Option (List Str)} (h : swapN env.scope ts vs = some r) : swappedStores [.Tuple ts k p] (.Tuple vs j q) env = pure r := by
  unfold swapN at h
  show (if (!(ts.length == 2 || ts.length == 3) || vs.length != ts.length || bkOf env.scope != .function) = true then pure none
    else if vs.any isSt = true then pure none
    else if ((ts.filterMap (nmAt env.scope ((ts.head?.map (·.pos.line)).getD 0))).length != ts.length || (ts.filterMap (nmAt env.scope ((ts.head?.map (·.pos.line)).getD 0))).eraseDups.length != (ts.filterMap (nmAt env.scope ((ts.head?.map (·.pos.line)).getD 0))).length) = true then pure none
    else if vs.all (foldedForSure 8) = true then pure none
    else if vs.all (constantsAlone 8) = true then (unsupported "assign.tuple-of-constant-expressions:order-of-the-stores" >>= fun _ => pure (some (ts.filterMap (nmAt env.scope ((ts.head?.map (·.pos.line)).getD 0)))))
    else pure (some (ts.filterMap (nmAt env.scope ((ts.head?.map (·.pos.line)).getD 0)))) : Sem (Option (List Str))) = pure r
  split at h
  · rename_i q
    rw [if_pos q]
    cases h
    rfl
  rename_i q1
  rw [if_neg q1]
  split at h
  · rename_i q
    rw [if_pos q]
    cases h
    rfl
  rename_i q2
  rw [if_neg q2]
  split at h
  · rename_i q
    rw [if_pos q]
    cases h
    rfl
  rename_i q3
  rw [if_neg q3]
  split at h
  · rename_i q
    rw [if_pos q]
    cases h
    rfl
  rename_i q4
  rw [if_neg q4]
  split at h
  · cases h
  rename_i q5
  rw [if_neg q5]
  cases h
  rfl

/-- y = [comprehension]: the value goes into y by its own road -/
def swapB (sc : Scope) (scope : Scope) (y : Str) (p v : Pos) : Bool := bkOf sc == .function && sc.names.lookup y == some .local && p.line == v.line && !(scope.names.any fun (n, k) => n == y && (k == .local || k == .cell))
theorem swapB_eq {elt : Expr} {gs : List Comprehension} {scope : Scope} {v p : Pos} {y : Str} {l : Nat} {env : Env} : swapsWith (.ListComp elt gs scope v) (some (.Name y p)) l env = pure (swapB env.scope scope y p v) := rfl
def parM (r : Rn) (c : Ctx) : List Str → List Expr → FA
  | [], [] => fun _ S => .ok [] S
  | x :: xs, e :: es => if isStar e then badA else fun env S => (r.e (c.box.contains x) c e env S).bind fun w S1 => (parM r c xs es env S1).bind fun ws S2 => .ok (w :: ws) S2
  | _, _ => badA
def putAllM (env : EnvM) : List Nat → List W → Option EnvM
  | [], [] => some env
  | i :: is, w :: ws => putAllM (env.set i (some w)) is ws
  | _, _ => none
def slots3 (c : Ctx) (xs : List Str) : Option (List Nat) := xs.mapM fun x => match kindOf c x with
  | some .local => slotOf c x
  | _ => none
def tupAsg (r : Rn) (c : Ctx) (ts vs : List Expr) (tg e : Expr) : FS := if c.top && c.calm then match swapN c.sc ts vs with
    | some none => fun env S => RS.ofR env (r.e false c e env S) fun w S1 => match asgW c S1 tg w env with
      | some env' => .next env' S1
      | none => .bad
    | some (some xs) => match xs, slots3 c xs, ts, vs with
      | [x, y], some [i, j], [.Name x' _, .Name y' _], [_, _] => if x = x' ∧ y = y' ∧ i ≠ j then fun env S => RS.ofR env (parM r c xs vs env S) fun ws S1 => match putAllM env [i, j] ws with
          | some env' => .next env' S1
          | none => .bad
        else badS
      | [x, y, z], some [i, j, l], [.Name x' _, .Name y' _, .Name z' _], [_, _, _] => if x = x' ∧ y = y' ∧ z = z' ∧ i ≠ j ∧ i ≠ l ∧ j ≠ l then fun env S => RS.ofR env (parM r c xs vs env S) fun ws S1 => match putAllM env [i, j, l] ws with
          | some env' => .next env' S1
          | none => .bad
        else badS
      | _, _, _, _ => badS
    | none => badS
  else badS
def noComp : Expr → Bool := fun e => !isComp e
/-- an assignment -/
def asgM (G : GTab) (ow : Own) (r : Rn) (c : Ctx) (tg e : Expr) (pos : Pos) : FS := match tg with
  | .Name x p => match e with
    | .ListComp elt gs scope v => if c.top then (if swapB c.sc scope x p v then (match gs, locOf c x, kindOf c x with
          | [⟨tg2, iter, ifs, 0⟩], some i, some .local => if compC c scope tg2 && noSet iter then fun env S => setS c x env (compM (c.box.contains x) c scope tg2 (iterM G r c iter) (ifsM r { c with sc := scope, top := false } ifs) (r.e false { c with sc := scope, top := false } elt) env S) else badS
          | _, _, _ => badS)
        else fun env S => setS c x env (r.e (c.box.contains x) c e env S)) else badS
    | e => if isComp e then badS else fun env S => setS c x env (r.e (c.box.contains x) c e env S)
  | .Tuple ts k p => match e with
    | .Tuple vs j q => tupAsg r c ts vs (.Tuple ts k p) (.Tuple vs j q)
    | e => if isComp e then badS else fun env S => RS.ofR env (r.e false c e env S) fun w S1 => match asgW c S1 (.Tuple ts k p) w env with
        | some env' => .next env' S1
        | none => .bad
  | .Subscript o i p2 => if isComp e then badS else match i with
    | .Slice _ _ _ _ => badS
    | i => fun env S => RS.ofR env (r.e false c e env S) fun w S1 => RS.ofR env (r.e false c o env S1) fun x S2 => RS.ofR env (r.e false c i env S2) fun y S3 => match putIx x y w S3 with
        | some S4 => .next env S4
        | none => .bad
  | .Attribute a f _ => fun env S => RS.ofR env (r.e false c e env S) fun w S1 => RS.ofR env (r.e false c a env S1) fun x S2 => match putFld ow f x w S2 with
        | some S3 => .next env S3
        | none => .bad
  | _ => badS

section
variable {g : Gx} {G : GTab} {ow : Own} {X : Cx} {c : Ctx} {wx : WX} {r : Rn}
theorem par_ok (hr : SRn G ow r) (o : COk g G ow X c wx) : ∀ (xs : List Str) (es : List Expr), PA X es (tA g wx (parM r c xs es))
  | [], [] => anil_ok
  | x :: xs, e :: es => by
    unfold parM
    split
    · exact never_a'
    · rename_i h
      exact acons_ok (star_cons (by simpa using h) es X.env) (hr.e g X c wx _ e o) (par_ok hr o xs es)
  | [], _ :: _ => never_a'
  | _ :: _, [] => never_a'
theorem asg_each {tg : Expr} (h : (match tg with | .Tuple _ _ _ => true | _ => false) = true) (env : Env) : (assignEach [tg] env).map (·.2) = [assign tg env] := by
  cases tg <;> first | rfl | cases h
theorem swap_none {ts : List Expr} {k : Nat} {p : Pos} {e : Expr} (h : (match e with | .Tuple _ _ _ => true | _ => false) = false) (env : Env) : swappedStores [.Tuple ts k p] e env = pure none := by
  unfold swappedStores
  cases e <;> first | rfl | cases h
theorem swapT {e : Expr} (ts : List Expr) (k : Nat) (p : Pos) (l : Nat) (env : Env) : swapsWith e (some (.Tuple ts k p)) l env = pure false := by
  cases e <;> rfl
theorem swapI {e : Expr} (a b : Expr) (p : Pos) (l : Nat) (env : Env) : swapsWith e (some (.Subscript a b p)) l env = pure false := by
  cases e <;> rfl
theorem swapTS {e : Expr} (ts : List Expr) (k : Nat) (p : Pos) (l : Nat) (env : Env) : swapsWithSole [.Tuple ts k p] e l env = pure false := swapT ts k p l env
theorem swapIS {e : Expr} (a b : Expr) (p : Pos) (l : Nat) (env : Env) : swapsWithSole [.Subscript a b p] e l env = pure false := swapI a b p l env
theorem slot_local (o : COk g G ow X c wx) (ht : c.top = true) {x : Str} {i : Nat} (h : (match kindOf c x with | some .local => slotOf c x | _ => none) = some i) : X.N[i]? = some x ∧ X.env.scope.names.lookup x = some .local := by
  split at h
  · rename_i hk
    obtain ⟨q1, _⟩ := slot_ok o h
    obtain ⟨_, _, hsc⟩ := o.top ht
    exact ⟨q1, by rw [hsc]; exact hk⟩
  · cases h
theorem slots2 {xs : List Str} {is : List Nat} (h : slots3 c xs = some is) : ∀ (n : Nat) (x : Str) (i : Nat), xs[n]? = some x → is[n]? = some i → (match kindOf c x with | some .local => slotOf c x | _ => none) = some i := by
  unfold slots3 at h
  induction xs generalizing is with
  | nil =>
    intro n x i h1
    cases h1
  | cons y ys ih =>
    rw [List.mapM_cons] at h
    cases e1 : (match kindOf c y with | some .local => slotOf c y | _ => none) with
    | none => rw [e1] at h; cases h
    | some j =>
      rw [e1] at h
      cases e2 : List.mapM (m := Option) (fun x => match kindOf c x with | some .local => slotOf c x | _ => none) ys with
      | none => rw [e2] at h; cases h
      | some js =>
        rw [e2] at h
        cases h
        intro n x i h1 h2
        cases n with
        | zero => cases h1; cases h2; exact e1
        | succ n => exact ih e2 n x i h1 h2
theorem two_ws' {ρ : Nat → Addr} {F : Addr → Prop} {H : Hp} {n : Nat} {vs : List V} {ws : List W} {env env' : EnvM} {i j : Nat} (r : RepWs g ρ n F H vs ws) (h : putAllM env [i, j] ws = some env') : ∃ v w a b, vs = [v, w] ∧ ws = [a, b] ∧ RepW g ρ n F H v a ∧ RepW g ρ n F H w b ∧ env' = (env.set i (some a)).set j (some b) := by
  cases r with
  | nil => cases h
  | cons a r =>
    cases r with
    | nil => cases h
    | cons b r =>
      cases r with
      | nil => cases h; exact ⟨_, _, _, _, rfl, rfl, a, b, rfl⟩
      | cons _ _ => cases h
theorem three_ws' {ρ : Nat → Addr} {F : Addr → Prop} {H : Hp} {n : Nat} {vs : List V} {ws : List W} {env env' : EnvM} {i j l : Nat} (r : RepWs g ρ n F H vs ws) (h : putAllM env [i, j, l] ws = some env') :
    ∃ u v w a b d, vs = [u, v, w] ∧ ws = [a, b, d] ∧ RepW g ρ n F H u a ∧ RepW g ρ n F H v b ∧ RepW g ρ n F H w d ∧ env' = ((env.set i (some a)).set j (some b)).set l (some d) := by
  cases r with
  | nil => cases h
  | cons a r =>
    cases r with
    | nil => cases h
    | cons b r =>
      cases r with
      | nil => cases h
      | cons d r =>
        cases r with
        | nil => cases h; exact ⟨_, _, _, _, _, _, rfl, rfl, a, b, d, rfl⟩
        | cons _ _ => cases h
theorem tupAsg_ok (hr : SRn G ow r) (o : COk g G ow X c wx) (ts vs : List Expr) (k j : Nat) (p q pos : Pos) : PS X (.Assign [.Tuple ts k p] (.Tuple vs j q) pos) (tS g wx (tupAsg r c ts vs (.Tuple ts k p) (.Tuple vs j q))) := by
  unfold tupAsg
  split
  · rename_i htc
    rw [Bool.and_eq_true] at htc
    obtain ⟨ht, hc⟩ := htc
    obtain ⟨_, _, hsc⟩ := o.top ht
    split
    · rename_i hs
      rw [← hsc] at hs
      exact settup_ok o (swapTS ts k p _ _) (swapN_ok hs) rfl (hr.e g X c wx false _ o)
    · rename_i xs hs
      rw [← hsc] at hs
      have hw := swapN_ok (k := k) (j := j) (p := p) (q := q) hs
      split
      · rename_i x y i jj x' px y' py e1 e2 hsl
        split
        · rename_i hh
          obtain ⟨rfl, rfl, hij⟩ := hh
          have s1 := slot_local o ht (slots2 hsl 0 x i rfl rfl)
          have s2 := slot_local o ht (slots2 hsl 1 y jj rfl rfl)
          refine ps_mono (ps_par (o.calm hc) (o.N ▸ o.nd) s1.1 s2.1 hij s1.2 s2.2 (par_ok hr o [x, y] [e1, e2]) hw rfl) ?_
          rintro E σ H ⟨ρ, F, S, env, L, R, P⟩
          refine ⟨ρ, F, S, env, L, R, PostS.ofR R P fun ws S1 us ρ1 F1 H1 _ z L1 r1 P1 => ?_⟩
          split at P1
          · rename_i env' he
            obtain ⟨v, w, a, b, rfl, rfl, ra, rb, rfl⟩ := two_ws' r1 he
            exact ⟨v, w, rfl, P1 _ ρ1 F1 H1 Gr.refl L1 (set_env (set_env (R.mono z) ra) rb)⟩
          · exact P1.elim
        · exact never_s'
      · rename_i x y zz i jj ll x' px y' py z' pz e1 e2 e3 hsl
        split
        · rename_i hh
          obtain ⟨rfl, rfl, rfl, hij, hil, hjl⟩ := hh
          have s1 := slot_local o ht (slots2 hsl 0 x i rfl rfl)
          have s2 := slot_local o ht (slots2 hsl 1 y jj rfl rfl)
          have s3 := slot_local o ht (slots2 hsl 2 zz ll rfl rfl)
          refine ps_mono (ps_par3 (o.calm hc) (o.N ▸ o.nd) s1.1 s2.1 s3.1 hij hil hjl s1.2 s2.2 s3.2 (par_ok hr o [x, y, zz] [e1, e2, e3]) hw rfl) ?_
          rintro E σ H ⟨ρ, F, S, env, L, R, P⟩
          refine ⟨ρ, F, S, env, L, R, PostS.ofR R P fun ws S1 us ρ1 F1 H1 _ z L1 r1 P1 => ?_⟩
          split at P1
          · rename_i env' he
            obtain ⟨u, v, w, a, b, d, rfl, rfl, ra, rb, rd, rfl⟩ := three_ws' r1 he
            exact ⟨u, v, w, rfl, P1 _ ρ1 F1 H1 Gr.refl L1 (set_env (set_env (set_env (R.mono z) ra) rb) rd)⟩
          · exact P1.elim
        · exact never_s'
      · exact never_s'
    · exact never_s'
  · exact never_s'
theorem asgM_ok (hr : SRn G ow r) (o : COk g G ow X c wx) (tg e : Expr) (pos : Pos) : PS X (.Assign [tg] e pos) (tS g wx (asgM G ow r c tg e pos)) := by
  unfold asgM
  split
  · rename_i x p
    split
    · rename_i elt gs scope v
      split
      · rename_i ht
        obtain ⟨_, _, hsc⟩ := o.top ht
        split
        · rename_i hsw
          split
          · rename_i tg2 iter ifs i hl hk
            split
            · rename_i h
              rw [Bool.and_eq_true] at h
              obtain ⟨q1, _, _⟩ := loc_ok o hl
              refine ps_mono (lcompSet_ok o (c.box.contains x) h.1 q1 (by rw [hsc]; exact hk) (by rw [swapB_eq, hsc, hsw]) (iter_ok hr o tg2 iter) (fun X' o' => ifs_ok hr o' ifs) (fun X' o' => hr.e g X' _ _ false elt o') (noset_ok h.2 X.env)) ?_
              exact asg_read hl
            · exact never_s'
          · exact never_s'
        · rename_i hsw
          refine set_ok o ?_ (hr.e g X c wx _ _ o)
          rw [swapB_eq, hsc]
          rw [show swapB c.sc scope x p v = false from by simpa using hsw]
      · exact never_s'
    · split
      · exact never_s'
      · rename_i h
        exact set_ok o (noswap (by simpa using h) _ _ _) (hr.e g X c wx _ _ o)
  · rename_i ts k p
    split
    · exact tupAsg_ok hr o _ _ _ _ _ _ _
    · rename_i e' hne
      split
      · exact never_s'
      · rename_i h
        refine settup_ok o (swapTS ts k p _ _) (swap_none ?_ _) rfl (hr.e g X c wx false _ o)
        split
        · rename_i vs jj qq
          exact absurd rfl (hne vs jj qq)
        · rfl
  · rename_i a i p2
    split
    · exact never_s'
    · split
      · exact never_s'
      · rename_i hne
        refine setix_ok ?_ (swapIS _ _ _ _ _) (hr.e g X c wx false _ o) (hr.e g X c wx false _ o) (hr.e g X c wx false _ o)
        split
        · rename_i x1 x2 x3 x4
          exact absurd rfl (hne x1 x2 x3 x4)
        · rfl
  · exact setfld_ok o (hr.e g X c wx false _ o) (hr.e g X c wx false _ o)
  · exact never_s'
end
/-- one statement -/
def stS (G : GTab) (ow : Own) (r : Rn) (c : Ctx) (st : Stmt) : FS := match st with
  | .Expr e _ => if isComp e then badS else fun env S => RS.ofR env (r.e false c e env S) fun _ S1 => .next env S1
  | .Assign [tg] e pos => asgM G ow r c tg e pos
  | .Return (some e) _ => fun env S => RS.ofR env (r.e (c.box.contains ("return" : Str)) c e env S) fun w S1 => .ret w S1
  | .Return none _ => fun env S => .ret (.d .non) S
  | .Pass _ => fun env S => .next env S
  | .Break _ => fun env S => .brk env S
  | .Continue _ => fun env S => .cont env S
  | .If t a b _ => fun env S => RS.ofR env (r.t c t env S) fun k S1 => if k then r.s c a env S1 else r.s c b env S1
  | .For tg iter body [] _ => if c.calm && c.top && noSet iter then fun env S => RS.ofR env (iterM G r c iter env S) fun ws S1 => forL (fun S => asgW c S tg) (r.s c body) ws env S1 else badS
  | .While t body [] _ => if c.calm && c.top then whileL (r.t c t) (r.s c body) 1000000 else badS
  | .Raise (some (.Call (.Name x _) es [] _)) none _ => match ow.xmk x, c.k with
    | some fs, _ + 1 => if c.calm && isGlob c x && plainName x && noStar es && decide fs.Nodup then fun env S => RS.ofR env ((argsM r c es env S).bind fun as S1 => excM x fs as S1) fun _ _ => .bad else badS
    | _, _ => badS
  | .Try body (h0 :: hs) [] [] _ => if c.calm && c.top && hdsC G ow c (h0 :: hs) then tryM G ow r.s c body (h0 :: hs) else badS
  | _ => badS
def stSs (G : GTab) (ow : Own) (r : Rn) (c : Ctx) : List Stmt → FS
  | [] => fun env S => .next env S
  | st :: ss => fun env S => (stS G ow r c st env S).seq (stSs G ow r c ss)
section
variable {g : Gx} {G : GTab} {ow : Own} {X : Cx} {c : Ctx} {wx : WX} {r : Rn}
theorem stS_ok (hr : SRn G ow r) (o : COk g G ow X c wx) (st : Stmt) : PS X st (tS g wx (stS G ow r c st)) := by
  unfold stS
  split
  · split
    · exact never_s'
    · rename_i h
      exact expr_ok (by simpa using h) (hr.e g X c wx false _ o)
  · exact asgM_ok hr o _ _ _
  · exact ret_ok (hr.e g X c wx _ _ o)
  · exact retN_ok
  · exact pass_ok
  · exact brk_ok
  · exact cont_ok
  · exact if_ok (hr.t g X c wx _ o) (hr.s g X c wx _ o) (hr.s g X c wx _ o)
  · split
    · rename_i h
      simp only [Bool.and_eq_true] at h
      exact for_ok o (o.po h.1.2 h.1.1) h.1.1 (iter_ok hr o _ _) (hr.s g X c wx _ o) (noset_ok h.2 X.env)
    · exact never_s'
  · split
    · rename_i h
      rw [Bool.and_eq_true] at h
      exact while_ok 1000000 (o.po h.2 h.1) (hr.t g X c wx _ o) (hr.s g X c wx _ o)
    · exact never_s'
  · split
    · rename_i fs kk hx hk
      split
      · rename_i h
        simp only [Bool.and_eq_true, decide_eq_true_eq] at h
        obtain ⟨⟨⟨⟨h1, h2⟩, h3⟩, h4⟩, h5⟩ := h
        exact raise_ok o hx h5 h1 hk h2 h3 h4 (args_nil' _) (args_ok hr o _)
      · exact never_s'
    · exact never_s'
  · split
    · rename_i h
      simp only [Bool.and_eq_true] at h
      exact try_ok ⟨hr.s⟩ o h.1.1 h.1.2 h.2
    · exact never_s'
  · exact never_s'
theorem stSs_ok (hr : SRn G ow r) (o : COk g G ow X c wx) : ∀ ss : List Stmt, PSs X ss (tS g wx (stSs G ow r c ss))
  | [] => nil_ok
  | st :: ss => cons_ok (stS_ok hr o st) (stSs_ok hr o ss)
end
def bot : Rn := ⟨fun _ _ _ => badE, fun _ _ => badT, fun _ _ => badS⟩
def step (G : GTab) (ow : Own) (r : Rn) : Rn := ⟨stE G ow r, stT G ow r, stSs G ow r⟩
/-- the run, n deep -/
def runN (G : GTab) (ow : Own) : Nat → Rn
  | 0 => bot
  | n + 1 => step G ow (runN G ow n)
theorem runN_ok (G : GTab) (ow : Own) : ∀ n, SRn G ow (runN G ow n)
  | 0 => ⟨fun _ _ _ _ _ _ _ => never_e', fun _ _ _ _ _ _ => never_t', fun _ _ _ _ ss _ => ⟨fun pins s σ H Q I ⟨ρ, F, S, env, L, E, P⟩ => P.elim⟩⟩
  | n + 1 => ⟨fun _ _ _ _ bx x o => stE_ok (runN_ok G ow n) o bx x, fun _ _ _ _ x o => stT_ok (runN_ok G ow n) o x, fun _ _ _ _ ss o => stSs_ok (runN_ok G ow n) o ss⟩
end Mi

namespace Mi
open PySem L2 PySem.Spec PyProof.Rows

/-! ### all defs and classes, level by level -/
structure FInfo where
  bm : BndM
  keep : Bool
  N : List Str
  scope : Scope
  box : List Str
  body : List Stmt
inductive Ent where
  | fn (i : FInfo) | cls (keep : Bool) (cn : Str)
def bad4 : List W → List (Str × W) → Store → R W := fun _ _ _ => .bad
def fnAt (G : GTab) (o : Own) (fuel k : Nat) (i : FInfo) : List W → List (Str × W) → Store → R W := callM i.bm i.keep (runN G o fuel).s i.N i.scope i.box k i.body
def owL (G : GTab) (st : Own) (fns : List (Str × Ent)) (mts : List ((Str × Str) × FInfo)) (fuel : Nat) : Nat → Own
  | 0 => { st with fn := fun _ => bad4, mt := fun _ _ => bad4 }
  | k + 1 => { st with
      fn := fun x => match fns.lookup x with
        | some (.fn i) => fnAt G (owL G st fns mts fuel k) fuel k i
        | some (.cls keep cn) => makeM keep cn ((owL G st fns mts fuel k).mt cn "__init__")
        | none => bad4
      mt := fun c m => match mts.lookup (c, m) with
        | some i => fnAt G (owL G st fns mts fuel k) fuel k i
        | none => bad4 }
def FDef (g : Gx) (P : Program) (w : World) (mg : Str → Option Value) (base : Heap) (i : FInfo) (f : Addr) : Prop :=
  ∃ (name qual : Str) (params : Arguments) (dV kV doc pm cdv ct oc : Value) (an od : Option Addr) (osl : Array (Option Value)) (ps : List Str),
    g.K.lookup f = some ⟨oc, od, .func (PySem.W.fnOf name qual params i.body i.scope dV kV doc pm an cdv ct), osl⟩ ∧ PySem.W.codeIn g.K cdv qual = true ∧ FnScope i.N ps i.scope ∧ BndOk g P w g.K mg base (PySem.W.fnOf name qual params i.body i.scope dV kV doc pm an cdv ct) ps i.bm
section
variable {g : Gx} {G : GTab} {st : Own} {P : Program} {w : World} {mg : Str → Option Value} {base : Heap} {fns : List (Str × Ent)} {mts : List ((Str × Str) × FInfo)} {fuel : Nat}
theorem clsT_L (h : ClsT g mg st) : ∀ k, ClsT g mg (owL G st fns mts fuel k)
  | 0 => ⟨h.fld, h.xf, h.nm, h.ins, h.xc, h.isa, h.nf, h.exm⟩
  | k + 1 => ⟨h.fld, h.xf, h.nm, h.ins, h.xc, h.isa, h.nf, h.exm⟩
theorem go_L (h : GOk g G st mg) (k : Nat) : GOk g G (owL G st fns mts fuel k) mg := ⟨h.xa, clsT_L h.ct k, h.cst, h.bf, h.bt⟩
theorem fnm_bad {k : Nat} {f : Addr} : FnM g P w g.K mg base k f bad4 := fun A outer s H us vs ks ws zs Q E _ _ _ _ _ ⟨ρ, F, S, as, bs, L, ra, rb, Pp⟩ => Pp.elim
/-- what stands of each name -/
structure Tab (g : Gx) (G : GTab) (st : Own) (P : Program) (w : World) (mg : Str → Option Value) (base : Heap) (fns : List (Str × Ent)) (mts : List ((Str × Str) × FInfo)) : Prop where
  fn : ∀ x, (x, true) ∈ ownNames G → ∃ f, mg x = some (.ref f) ∧ PySem.W.keepIn g.K (.ref f) = true ∧ match fns.lookup x with
    | some (.fn i) => FDef g P w mg base i f
    | some (.cls _ cn) => f = g.ca cn ∧ (cn, ("__init__" : Str)) ∈ st.mts ∧ ∀ fi, Meth g.K (g.ca cn) "__init__" fi → Mk g.K (g.ca cn) fi
    | none => True
  mt : ∀ c m, (c, m) ∈ st.mts → ∃ f, Meth g.K (g.ca c) m f ∧ match mts.lookup (c, m) with
    | some i => FDef g P w mg base i f
    | none => True
  cls : ∀ c m, (c, m) ∈ st.mts → Cls g.K (g.ca c)
  xm : ∀ x fs, st.xmk x = some fs → mg x = some (.ref (g.ca x)) ∧ XRaise P w g.K mg (g.ca x) fs
theorem own_L (go : GOk g G st mg) (T : Tab g G st P w mg base fns mts) : ∀ k, OwnOk g P w g.K mg base k (ownNames G) (owL G st fns mts fuel k)
  | 0 => ⟨fun x hx => by
      obtain ⟨f, h1, h2, _⟩ := T.fn x hx
      exact ⟨f, h1, h2, fnm_bad⟩, fun c m h => by
      obtain ⟨f, h1, _⟩ := T.mt c m h
      exact ⟨f, h1, fnm_bad⟩, T.cls, T.xm⟩
  | k + 1 => by
    have ih := own_L go T k
    have def_ : ∀ {i : FInfo} {f : Addr}, FDef g P w mg base i f → FnM g P w g.K mg base (k + 1) f (fnAt G (owL G st fns mts fuel k) fuel k i) := fun {i f} h => by
      obtain ⟨name, qual, params, dV, kV, doc, pm, cdv, ct, oc, an, od, osl, ps, lk, hcd, S, hb⟩ := h
      exact fn_sound (go_L go k) ih ⟨(runN_ok G _ fuel).s⟩ lk hcd S hb
    refine ⟨fun x hx => ?_, fun c m h => ?_, T.cls, T.xm⟩
    · obtain ⟨f, h1, h2, h3⟩ := T.fn x hx
      refine ⟨f, h1, h2, ?_⟩
      show FnM g P w g.K mg base (k + 1) f (match fns.lookup x with
        | some (.fn i) => fnAt G (owL G st fns mts fuel k) fuel k i
        | some (.cls keep cn) => makeM keep cn ((owL G st fns mts fuel k).mt cn "__init__")
        | none => bad4)
      cases e : fns.lookup x with
      | none => exact fnm_bad
      | some en =>
        rw [e] at h3
        cases en with
        | fn i => exact def_ h3
        | cls keep cn =>
          obtain ⟨rfl, hm, hk⟩ := h3
          obtain ⟨fi, M, F⟩ := ih.mt cn "__init__" (by cases k <;> exact hm)
          exact cls_sound (hk fi M) F
    · obtain ⟨f, h1, h3⟩ := T.mt c m h
      refine ⟨f, h1, ?_⟩
      show FnM g P w g.K mg base (k + 1) f (match mts.lookup (c, m) with
        | some i => fnAt G (owL G st fns mts fuel k) fuel k i
        | none => bad4)
      cases e : mts.lookup (c, m) with
      | none => exact fnm_bad
      | some i =>
        rw [e] at h3
        exact def_ h3
end
end Mi

namespace Mi
open PySem L2 PySem.Spec PyProof.Rows

/-! ### the law's call, by its run -/
section
variable {P : Program} {w : World} {g : Gx} {mg mb : Str → Option Value} {k : Nat} {fa a : Addr} {s1 : Shared} {us : List Value} {ns : List Int} {m : List W → List (Str × W) → Store → R W}
theorem scr_core (KX : g.K.In s1.heap) (hG : s1.heap.Ns mainGlobals mg) (hB : s1.heap.Ns builtinsNs mb) (hbb : ∀ y : Str, y ≠ "__name__" → mb y = bootBuiltins y) (lim : s1.heap.NoLimit) (hg : s1.gens = #[]) (ha : s1.heap.get? a = some { cls := .type "list", data := .seq us.toArray })
    (hr : Room k callerA) (F : ∀ base : Heap, g.K.In base → base.Ns mainGlobals mg → FnM g P w g.K mg base k fa m) (hm : ∃ S, m [.d (.scr ns)] [] [] = .ok (.d (.bl true)) S)
    (H : Hp) (hO : Only H) (hS : SqL g.K H a (ns.map V.int)) (hok : HOk P w H s1.heap) (hA : ∀ b, H b ≠ none → b = a) (hK : H a ≠ none → g.K.lookup a = none) (hF : H a ≠ none ∨ g.K.lookup a ≠ none) :
    codeAny (model P w) callerA (.call (.ref fa) ⟨[.ref a], []⟩) (fun r s' => r = .ok (.ret (.bool true)) ∧ OldK s1.heap s'.heap ∧ s'.os = s1.os ∧ AllBare s'.gens) s1 := by
  have un : ∀ {b : Addr} {o : Obj}, s1.heap.get? b = some o → (∀ vs n, o.data ≠ .seq vs n) → H b = none := fun {b o} e d => by
    cases q : H b with
    | none => rfl
    | some u =>
      have eb := hA b (by rw [q]; simp)
      rw [eb, ha] at e
      cases e
      exact absurd rfl (d _ _)
  have keep : ∀ {b : Addr} {o : Obj}, s1.heap.get? b = some o → H b = none → (hidT s1.heap H).get? b = some o := fun e n => hidT_get e n
  have nsI : ∀ {b : Addr} {mm : Str → Option Value}, s1.heap.Ns b mm → (hidT s1.heap H).Ns b mm := fun {b mm} ⟨o, es, ep, e, d, q⟩ => ⟨o, es, ep, keep e (un e fun vs n z => by rw [d] at z; cases z), d, q⟩
  have KB : g.K.In (hidT s1.heap H) := fun b o e => keep (KX b o e) (by
    cases q : H b with
    | none => rfl
    | some u =>
      have eb := hA b (by rw [q]; simp)
      rw [eb] at e q
      rw [hK (by rw [q]; simp)] at e
      cases e)
  have M : Mod g.K mg (hidT s1.heap H) := by
    obtain ⟨mc, c1, c2⟩ := lim
    exact ⟨KB, nsI hG, ⟨mb, nsI hB, hbb⟩, mc, nsI c1, c2⟩
  have E0 : Env0 P w g.K mg (hidT s1.heap H) callerA [] s1 H := by
    refine ⟨rfl, M, fun b o e => of_hidT e, Nat.le_of_eq (hidT_size _ _), trivial, fun b hb => ?_, hok, .of_eq hg⟩
    cases hb
  obtain ⟨S1, hm⟩ := hm
  have rl : Rl g (fun _ => 0) (fun b => b = a ∧ H a ≠ none) H [] := by
    refine ⟨fun i c e => by simp at e, fun i j hi => absurd hi (Nat.not_lt_zero _), fun i c e => by simp at e, fun i hi => absurd hi (Nat.not_lt_zero _), fun b hb => ?_⟩
    obtain ⟨rfl, hb⟩ := hb
    exact Option.ne_none_iff_exists'.mp hb
  have rep : Rep g (fun b => b = a ∧ H a ≠ none) H (.ref a) (.scr ns) := by
    rcases hF with q | q
    · exact .scr (.inl ⟨rfl, q⟩) hS
    · refine .scr (.inr fun H' => ?_) hS
      rcases hS with hS | hS
      · have hn : H a ≠ none := by
          rcases hS with hS | ⟨o, hS⟩ <;> rw [hS] <;> simp
        exact absurd (hK hn) q
      · exact .inr hS
  refine codeAny_mono (F _ KB (nsI hG) callerA [] s1 H [.ref a] [.ref a] [] [] [] (fun v _ => v = .bl true) (fun _ _ _ => False) hr rfl E0 (.cons (show RelV (V.ref a) (Value.ref a) from rfl) .nil) .nil
    ⟨_, _, [], [.d (.scr ns)], [], rl, .cons rep .nil, .nil, ?_⟩) fun r s' h => ?_
  · show Post g _ [] (rpW g) _ _ _ _ _ (m [.d (.scr ns)] [] [])
    rw [hm]
    intro v ρ1 F1 H1 z L1 r1
    cases r1
    rfl
  · cases r with
    | error e =>
      obtain ⟨_, _, _, _, _, _, _, _, _, _, _, _, z⟩ := h
      exact z.elim
    | ok fl =>
      cases fl with
      | next => exact False.elim h
      | brk => exact False.elim h
      | cont => exact False.elim h
      | ret u =>
        obtain ⟨v, H', os, bare, un2, hok2, ru, q⟩ := h
        have q : v = .bl true := q
        subst q
        obtain rfl : u = Value.bool true := ru
        refine ⟨rfl, OldK.of_keep fun b o e => ?_, os, bare⟩
        cases q : H b with
        | none =>
          refine un2.keep b o e q (fun z => ?_) (by simp)
          cases z
        | some x =>
          rcases hO b with z | ⟨ob, xs, z⟩
          · rw [q] at z
            cases z
          · obtain ⟨y1, _⟩ := hok b _ z
            obtain ⟨y2, _⟩ := hok2 b _ (un2.frzs b ob _ z)
            rw [e] at y1
            cases y1
            exact y2
theorem scr_call (KX : g.K.In s1.heap) (hG : s1.heap.Ns mainGlobals mg) (hB : s1.heap.Ns builtinsNs mb) (hbb : ∀ y : Str, y ≠ "__name__" → mb y = bootBuiltins y) (lim : s1.heap.NoLimit) (hg : s1.gens = #[]) (ha : s1.heap.get? a = some { cls := .type "list", data := .seq us.toArray }) (hi : IntsAre us ns) (hl : ns.length ≤ sizeLine)
    (hr : Room k callerA) (F : ∀ base : Heap, g.K.In base → base.Ns mainGlobals mg → FnM g P w g.K mg base k fa m) (hm : ∃ S, m [.d (.scr ns)] [] [] = .ok (.d (.bl true)) S) :
    codeAny (model P w) callerA (.call (.ref fa) ⟨[.ref a], []⟩) (fun r s' => r = .ok (.ret (.bool true)) ∧ OldK s1.heap s'.heap ∧ s'.os = s1.os ∧ AllBare s'.gens) s1 := by
  have rv := vals_ints hi
  have hlen := hi.length
  cases hk : g.K.lookup a with
  | some o =>
    have e := KX a o hk
    rw [ha] at e
    cases e
    refine scr_core KX hG hB hbb lim hg ha hr F hm (fun _ => none) (fun _ => .inl rfl) (.inr ⟨_, us.toArray, _, hk, rfl, rfl, rfl, ?_, by simpa using rv⟩) (fun b u z => by cases z) (fun b z => absurd rfl z) (fun z => absurd rfl z) (.inr (by rw [hk]; simp))
    rw [List.size_toArray, hlen]
    exact hl
  | none =>
    have at_ : (fun b => if b = a then some (HO.frz { cls := .type "list", data := .seq us.toArray } (.lst (ns.map V.int))) else none : Hp) a = some (.frz { cls := .type "list", data := .seq us.toArray } (.lst (ns.map V.int))) := if_pos rfl
    refine scr_core KX hG hB hbb lim hg ha hr F hm (fun b => if b = a then some (.frz { cls := .type "list", data := .seq us.toArray } (.lst (ns.map V.int))) else none) (fun b => ?_) (.inl (.inr ⟨_, at_⟩)) (fun b u z => ?_) (fun b z => ?_) (fun _ => hk) (.inl (fun z => by have z2 := at_.symm.trans z; cases z2))
    · by_cases e : b = a
      · exact .inr ⟨_, _, if_pos e⟩
      · exact .inl (if_neg e)
    · by_cases e : b = a
      · subst e
        rw [at_] at z
        cases z
        exact ⟨ha, by rw [List.length_map]; exact hl, us, _, rv, ha⟩
      · have z2 := (if_neg e).symm.trans z
        cases z2
    · by_cases e : b = a
      · exact e
      · exact absurd (if_neg e) z
end
/-- a law holds if its run says so -/
theorem walk_mini {l : PySem.W.OpenLaw} {n k : Nat} {q : Program} {loose : List Str} {XP : (Str → Option Value) → Heap → Prop} {YP : World → Heap → Prop} {d : DefRec} (hn : l.most = some n) (hn2 : n ≤ sizeLine) (hdf : d.params.defaults = []) (hr : Room k callerA)
    (F : ∀ (w : World) (mg : Str → Option Value) (fa : Addr) (h : Heap), YP w h → h.Ns mainGlobals mg → mg d.name = some (.ref fa) → ∃ (g : Gx) (m : List W → List (Str × W) → Store → R W), g.K.In h ∧ (∀ base : Heap, g.K.In base → base.Ns mainGlobals mg → FnM g l.prog w g.K mg base k fa m) ∧
      ∀ ns : List Int, ns.length ≤ n → (∀ i ∈ ns, Builtin.Int.intBits i ≤ 1048576) → ∃ S, m [.d (.scr ns)] [] [] = .ok (.d (.bl true)) S) :
    PySem.W.WalkO q loose XP YP l.row.toRowW d [] (fun f vs => PySem.call f vs) := by
  refine Att.attach_callB hn hdf fun w s0 s1 mg mb fa o pm cd doc a us ns G Y ho hd hcd hmg hobj hints hlen hbits hg => ?_
  obtain ⟨g, m, KX, hF, hm⟩ := F w mg fa _ Y G.T.g hmg
  exact scr_call KX G.T.g G.T.b G.T.builtins G.T.nolimit hg hobj hints (Nat.le_trans hlen hn2) hr hF (hm ns hlen hbits)
end Mi

namespace Mi
open PySem L2 PySem.Spec PyProof.Rows
theorem seqNone : seqItems? Value.none = (pure none : Sem (Option (Array Value))) := by first | rfl | kernel_rfl
/-- def f(a, b, *rest, k1 = .., k2 = ..) -/
def pars2 (a b v k1 k2 : Arg) (kd : List (Option Expr)) : Arguments := { posonlyargs := [], args := [a, b], vararg := some v, kwonlyargs := [k1, k2], kw_defaults := kd, kwarg := none, defaults := [] }
theorem bind_both {name qual : Str} {body : List Stmt} {scope : Scope} {kV doc pm cdv ct : Value} {an : Option Addr} {a b v k1 k2 : Arg} {kd : List (Option Expr)} {u1 u2 w1 w2 : Value} {rest : List Value} (n12 : a.arg ≠ b.arg) (n13 : k1.arg ≠ a.arg) (n14 : k1.arg ≠ b.arg) (n23 : k2.arg ≠ a.arg) (n24 : k2.arg ≠ b.arg) (nk : k1.arg ≠ k2.arg) :
    bindArgs (PySem.W.fnOf name qual (pars2 a b v k1 k2 kd) body scope .none kV doc pm an cdv ct) ⟨u1 :: u2 :: rest, [(k1.arg, w1), (k2.arg, w2)]⟩ = (newTuple rest >>= fun t => pure [(a.arg, u1), (b.arg, u2), (k1.arg, w1), (k2.arg, w2), (v.arg, t)]) := by
  have b12 : (b.arg == a.arg) = false := beq_eq_false_iff_ne.mpr (Ne.symm n12)
  have b13 : (k1.arg == a.arg) = false := beq_eq_false_iff_ne.mpr n13
  have b14 : (k1.arg == b.arg) = false := beq_eq_false_iff_ne.mpr n14
  have b23 : (k2.arg == a.arg) = false := beq_eq_false_iff_ne.mpr n23
  have b24 : (k2.arg == b.arg) = false := beq_eq_false_iff_ne.mpr n24
  have bk : (k1.arg == k2.arg) = false := beq_eq_false_iff_ne.mpr nk
  have bk2 : (k2.arg == k1.arg) = false := beq_eq_false_iff_ne.mpr (Ne.symm nk)
  have b31 : (a.arg == k1.arg) = false := beq_eq_false_iff_ne.mpr (Ne.symm n13)
  unfold bindArgs
  simp [pars2, seqNone, List.lookup, b12, b13, b14, b23, b24, bk, bk2]
theorem bind_swap {name qual : Str} {body : List Stmt} {scope : Scope} {kV doc pm cdv ct : Value} {an : Option Addr} {a b v k1 k2 : Arg} {kd : List (Option Expr)} {u1 u2 w1 w2 : Value} {rest : List Value} (n12 : a.arg ≠ b.arg) (n13 : k1.arg ≠ a.arg) (n14 : k1.arg ≠ b.arg) (n23 : k2.arg ≠ a.arg) (n24 : k2.arg ≠ b.arg) (nk : k1.arg ≠ k2.arg) :
    bindArgs (PySem.W.fnOf name qual (pars2 a b v k1 k2 kd) body scope .none kV doc pm an cdv ct) ⟨u1 :: u2 :: rest, [(k2.arg, w2), (k1.arg, w1)]⟩ = (newTuple rest >>= fun t => pure [(a.arg, u1), (b.arg, u2), (k1.arg, w1), (k2.arg, w2), (v.arg, t)]) := by
  have b12 : (b.arg == a.arg) = false := beq_eq_false_iff_ne.mpr (Ne.symm n12)
  have b13 : (k1.arg == a.arg) = false := beq_eq_false_iff_ne.mpr n13
  have b14 : (k1.arg == b.arg) = false := beq_eq_false_iff_ne.mpr n14
  have b23 : (k2.arg == a.arg) = false := beq_eq_false_iff_ne.mpr n23
  have b24 : (k2.arg == b.arg) = false := beq_eq_false_iff_ne.mpr n24
  have bk : (k1.arg == k2.arg) = false := beq_eq_false_iff_ne.mpr nk
  have bk2 : (k2.arg == k1.arg) = false := beq_eq_false_iff_ne.mpr (Ne.symm nk)
  unfold bindArgs
  simp [pars2, seqNone, List.lookup, b12, b13, b14, b23, b24, bk, bk2]
theorem bind_none {name qual : Str} {body : List Stmt} {scope : Scope} {doc pm cdv ct : Value} {an : Option Addr} {Da : Addr} {a b v k1 k2 : Arg} {kd : List (Option Expr)} {u1 u2 w1 w2 : Value} {rest : List Value} (n12 : a.arg ≠ b.arg) (n13 : k1.arg ≠ a.arg) (n14 : k1.arg ≠ b.arg) (n23 : k2.arg ≠ a.arg) (n24 : k2.arg ≠ b.arg) (nk : k1.arg ≠ k2.arg)
    {M : Model} {A : Around} {E : Value → Shared → Prop} {s : Shared} {Q : List (Str × Value) → Shared → Prop} {K : PySem.W.Frag} (X : K.In s.heap) (h1 : PySem.W.nsIn K Da k1.arg = some (some w1)) (h2 : PySem.W.nsIn K Da k2.arg = some (some w2))
    (h : wpAny M A (newTuple rest >>= fun t => pure [(a.arg, u1), (b.arg, u2), (k1.arg, w1), (k2.arg, w2), (v.arg, t)]) Q E s) :
    wpAny M A (bindArgs (PySem.W.fnOf name qual (pars2 a b v k1 k2 kd) body scope .none (.ref Da) doc pm an cdv ct) ⟨u1 :: u2 :: rest, []⟩) Q E s := by
  have b12 : (b.arg == a.arg) = false := beq_eq_false_iff_ne.mpr (Ne.symm n12)
  have b13 : (k1.arg == a.arg) = false := beq_eq_false_iff_ne.mpr n13
  have b14 : (k1.arg == b.arg) = false := beq_eq_false_iff_ne.mpr n14
  have b23 : (k2.arg == a.arg) = false := beq_eq_false_iff_ne.mpr n23
  have b24 : (k2.arg == b.arg) = false := beq_eq_false_iff_ne.mpr n24
  have bk : (k1.arg == k2.arg) = false := beq_eq_false_iff_ne.mpr nk
  have bk2 : (k2.arg == k1.arg) = false := beq_eq_false_iff_ne.mpr (Ne.symm nk)
  unfold bindArgs
  simp [pars2, seqNone, List.lookup, b12, b13, b14, b23, b24, bk, bk2]
  refine wpAny_bind ((PySem.W.looks_nsIn X h1).here ?_)
  simp [List.lookup, b12, b13, b14, b23, b24, bk, bk2]
  refine wpAny_bind ((PySem.W.looks_nsIn X h2).here ?_)
  simp [List.lookup, b12, b13, b14, b23, b24, bk, bk2]
  simpa using h
/-! ### C(a, b, *rest, k1 = d1, k2 = d2) -/
def bndStar2 (k1 k2 : Str) (d1 d2 : D) : BndM := fun as kws => match as with
  | x :: y :: rest => match pureL rest with
    | some ds => if ds.length ≤ 100000 then match kws with
        | [] => some [x, y, .d d1, .d d2, .d (.tup ds)]
        | [(p, u), (q, v)] => if p = k1 ∧ q = k2 then some [x, y, u, v, .d (.tup ds)] else if p = k2 ∧ q = k1 then some [x, y, v, u, .d (.tup ds)] else none
        | _ => none
      else none
    | none => none
  | _ => none
theorem zip_nil_of {α β γ : Type} {ks : List α} {bs : List β} {ws : List γ} (h : ks.zip bs = []) (l : ws.length = bs.length) : ks.zip ws = [] := by
  have e : (ks.zip bs).length = 0 := by rw [h]; rfl
  have e2 : (ks.zip ws).length = 0 := by rw [List.length_zip] at e ⊢; omega
  exact List.length_eq_zero_iff.mp e2
section
variable {g : Gx} {P : Program} {w : World} {mg : Str → Option Value} {base : Heap} {name qual : Str} {body : List Stmt} {scope : Scope} {doc pm cdv ct : Value} {an : Option Addr} {Da : Addr} {a b v k1 k2 : Arg} {kd : List (Option Expr)}
theorem bndStar2_ok {d1 d2 : D} {w1 w2 : Value} {v1 v2 : V} (n12 : a.arg ≠ b.arg) (n13 : k1.arg ≠ a.arg) (n14 : k1.arg ≠ b.arg) (n23 : k2.arg ≠ a.arg) (n24 : k2.arg ≠ b.arg) (nk : k1.arg ≠ k2.arg)
    (h1 : PySem.W.nsIn g.K Da k1.arg = some (some w1)) (h2 : PySem.W.nsIn g.K Da k2.arg = some (some w2)) (r1 : RelV v1 w1) (r2 : RelV v2 w2) (q1 : ∀ F H, Rep g F H v1 d1) (q2 : ∀ F H, Rep g F H v2 d2) :
    BndOk g P w g.K mg base (PySem.W.fnOf name qual (pars2 a b v k1 k2 kd) body scope .none (.ref Da) doc pm an cdv ct) [a.arg, b.arg, k1.arg, k2.arg, v.arg] (bndStar2 k1.arg k2.arg d1 d2) := by
  intro A outer s H E us vs ks ws zs ρ F S as bs pw e0 rv rz L ra rb hp
  unfold bndStar2 at hp
  split at hp
  · rename_i x y rest
    split at hp
    · rename_i ds hds
      split at hp
      · rename_i hlen
        cases ra with
        | @cons vx _ vs1 _ rx ra =>
        cases ra with
        | @cons vy _ vs2 _ ry ra =>
        cases rv with
        | @cons _ ux _ us1 rux rv =>
        cases rv with
        | @cons _ uy _ us2 ruy rv =>
        rw [pureL_eq hds] at ra
        have rd := ws_reps ra
        have lv : vs2.length = ds.length := reps_len rd
        have lu : us2.length ≤ sizeLine := by
          rw [← Paired.length rv, lv]
          exact Nat.le_trans hlen (by decide)
        have KX : g.K.In s.heap := e0.mod.kin.keeps fun b o e => (e0.bs b o e).1
        have hn : H s.heap.objs.size = none := e0.hok.fresh (Nat.le_refl _)
        have lw : ws.length = bs.length := by rw [← Paired.length rz, paired_len rb]
        intro A' Ex Q' hq
        -- behind the binding: the tuple is laid
        have fin : ∀ (wa wb : Value) (za zb : V) (pa pb : W), RelV za wa → RelV zb wb → RepW g ρ S.length F H za pa → RepW g ρ S.length F H zb pb → pw = [x, y, pa, pb, .d (.tup ds)] →
            wpAny (model P w) A' (newTuple us2 >>= fun t => pure [(a.arg, ux), (b.arg, uy), (k1.arg, wa), (k2.arg, wb), (v.arg, t)]) Q' Ex s := by
          intro wa wb za zb pa pb c1 c2 c3 c4 ep
          subst ep
          refine wpAny_bind (wpAny_newTuple (wpAny_pure ?_) lu)
          have new : ObjOk P w (upd H s.heap.objs.size (.tup vs2)) (s.heap.push ({ cls := .type "tuple", data := .seq us2.toArray } : Obj)) s.heap.objs.size (.tup vs2) := ⟨by rw [lv]; exact Nat.le_trans hlen (by decide), us2, rv, _, Heap.get?_push_size _ rfl, rfl, _, rfl⟩
          have un := StX.un_laid (fs := frs outer) (s := s) (o := ({ cls := .type "tuple", data := .seq us2.toArray } : Obj)) (u := .tup vs2) hn
          have zz := gr_frz (o := .tup vs2) L hn
          exact hq _ _ [vx, vy, za, zb, .ref s.heap.objs.size] [ux, uy, wa, wb, .ref s.heap.objs.size] (StX.env0_laid e0 new) un rfl (fun e s' => StX.cxUp outer s H _ _ E e s' un (fun b o q => Heap.get?_push_of_some _ q) rfl)
            (.cons rux (.cons ruy (.cons c1 (.cons c2 (.cons rfl .nil))))) rfl
            ⟨_, zz, rl_frz L hn, .cons (rx.mono zz) (.cons (ry.mono zz) (.cons (c3.mono zz) (.cons (c4.mono zz) (.cons (show Rep g _ _ _ _ from .tup (.inr rfl) upd_same (rd.mono zz.fz)) .nil))))⟩
        split at hp
        · rename_i hk
          cases hp
          rw [zip_nil_of hk lw]
          exact bind_none n12 n13 n14 n23 n24 nk KX h1 h2 (fin w1 w2 v1 v2 (.d d1) (.d d2) r1 r2 (q1 _ _) (q2 _ _) rfl)
        · rename_i p u q z hk
          cases ks with
          | nil => cases hk
          | cons kp ks =>
          cases bs with
          | nil => cases hk
          | cons bu bs =>
          cases ks with
          | nil => cases hk
          | cons kq ks =>
          cases bs with
          | nil => cases hk
          | cons bv bs =>
          rw [List.zip_cons_cons, List.zip_cons_cons] at hk
          obtain ⟨e1, hk1⟩ := List.cons.inj hk
          obtain ⟨e2, hk2⟩ := List.cons.inj hk1
          clear hk hk1
          cases e1
          cases e2
          cases rb with
          | @cons z1 _ zs1 _ rb1 rb =>
          cases rb with
          | @cons z2 _ zs2 _ rb2 rb =>
          cases rz with
          | @cons _ ww1 _ ws1 rw1 rz =>
          cases rz with
          | @cons _ ww2 _ ws2 rw2 rz =>
          have ez : ks.zip ws2 = [] := zip_nil_of hk2 (by simpa using lw)
          rw [List.zip_cons_cons, List.zip_cons_cons, ez]
          split at hp
          · rename_i hh
            obtain ⟨rfl, rfl⟩ := hh
            cases hp
            rw [bind_both n12 n13 n14 n23 n24 nk]
            exact fin ww1 ww2 z1 z2 _ _ rw1 rw2 rb1 rb2 rfl
          · split at hp
            · rename_i hh
              obtain ⟨rfl, rfl⟩ := hh
              cases hp
              rw [bind_swap n12 n13 n14 n23 n24 nk]
              exact fin ww2 ww1 z2 z1 _ _ rw2 rw1 rb2 rb1 rfl
            · cases hp
        · cases hp
      · cases hp
    · cases hp
  · cases hp
end
end Mi

namespace Mi
open PySem L2 PySem.Spec PyProof.Rows

/-! ### plain parameters -/
def plainPars (p : Arguments) : Bool := p.posonlyargs.isEmpty && p.vararg.isNone && p.kwonlyargs.isEmpty && p.kwarg.isNone
theorem look_zip {ps : List Str} (nd : ps.Nodup) : ∀ {us : List Value}, us.length = ps.length → ps.filterMap (fun n => ((ps.zip us).lookup n).map fun v => (n, v)) = ps.zip us := by
  intro us hl
  have key : ∀ (qs : List Str) (zs : List Value) (l : List (Str × Value)), zs.length = qs.length → (∀ (i : Nat) (n : Str), qs[i]? = some n → l.lookup n = zs[i]?) → qs.filterMap (fun n => (l.lookup n).map fun v => (n, v)) = qs.zip zs := by
    intro qs
    induction qs with
    | nil => intro zs l _ _; rfl
    | cons q qs ih =>
      intro zs l h1 h2
      cases zs with
      | nil => cases h1
      | cons z zs =>
        rw [List.filterMap_cons, h2 0 q rfl]
        show (q, z) :: _ = (q, z) :: _
        rw [ih zs l (by simpa using h1) fun i n e => h2 (i + 1) n e]
        rfl
  refine key ps us (ps.zip us) hl fun i n e => ?_
  have lt : i < us.length := by
    rw [hl]
    exact (List.getElem?_eq_some_iff.mp e).1
  have h3 := List.getElem?_eq_getElem lt
  rw [h3]
  clear hl key
  induction ps generalizing us i with
  | nil => cases e
  | cons p ps ih =>
    cases us with
    | nil => cases h3
    | cons u us =>
      rw [List.zip_cons_cons, List.lookup_cons]
      cases i with
      | zero =>
        cases e
        simp
      | succ i =>
        rw [List.nodup_cons] at nd
        have ne : (n == p) = false := by
          rw [beq_eq_false_iff_ne]
          rintro rfl
          exact nd.1 (List.mem_of_getElem? e)
        rw [ne]
        exact ih nd.2 i e (by simpa using lt) (by simpa using h3)
theorem lookup_some {ps : List Str} {us : List Value} (hl : us.length = ps.length) : ∀ n ∈ ps, ((ps.zip us).lookup n).isNone = false := by
  intro n hn
  induction ps generalizing us with
  | nil => cases hn
  | cons p ps ih =>
    cases us with
    | nil => cases hl
    | cons u us =>
      rw [List.zip_cons_cons, List.lookup_cons]
      cases e : n == p with
      | true => rfl
      | false =>
        rcases List.mem_cons.mp hn with rfl | hn
        · simp at e
        · exact ih (by simpa using hl) hn
theorem bind_plain {fd : FuncData} (hp : plainPars fd.params = true) (hd : fd.defaults = .none) (nd : (fd.params.args.map (·.arg)).Nodup) {us : List Value} (hl : us.length = (fd.params.args.map (·.arg)).length) : bindArgs fd ⟨us, []⟩ = pure ((fd.params.args.map (·.arg)).zip us) := by
  obtain ⟨nm, qn, ⟨po, ar, va, ko, kd, ka, df⟩, bo, sc, gl, cl, dv, kv, dc, pmm, ann, co, ctt, bl⟩ := fd
  simp only [plainPars, Bool.and_eq_true, List.isEmpty_iff, Option.isNone_iff_eq_none] at hp
  obtain ⟨⟨⟨rfl, rfl⟩, rfl⟩, rfl⟩ := hp
  dsimp only at hd nd hl
  subst hd
  have e1 : ∀ k, ((ar.map (·.arg)).take k).filter (fun n => (((ar.map (·.arg)).zip us).lookup n).isNone) = [] := by
    intro k
    rw [List.filter_eq_nil_iff]
    intro n hn z
    rw [lookup_some hl n (List.mem_of_mem_take hn)] at z
    cases z
  have e2 := look_zip nd hl
  have e3 : ¬ us.length > ar.length := by
    rw [List.length_map] at hl
    omega
  rw [List.length_map] at hl
  unfold bindArgs
  simp [seqNone, hl]
  rw [if_neg (by simp only [List.map_nil, List.nil_append]; rw [e1]; simp)]
  refine congrArg pure ?_
  rw [← List.filterMap_map]
  exact e2
end Mi

namespace Mi
open PySem L2 PySem.Spec PyProof.Rows

/-! ### what the written part must say of an own exception: one Bool -/
def fdAt (K : PySem.W.Frag) (f : Addr) : Option FuncData := match K.lookup f with
  | some o => match o.data with
    | .func fd => some fd
    | _ => none
  | none => none
theorem fdAt_ok {K : PySem.W.Frag} {f : Addr} {fd : FuncData} (h : fdAt K f = some fd) : ∃ o, K.lookup f = some o ∧ o.data = .func fd := by
  unfold fdAt at h
  split at h
  · rename_i o e
    split at h
    · rename_i fd2 d
      cases h
      exact ⟨o, e, d⟩
    · cases h
  · cases h
/-- super().__init__(text), then the assignments -/
def xBody (sf : Str) : List Stmt → Option (List (Str × Str))
  | .Expr (.Call (.Attribute (.Call (.Name a _) [] [] _) b ap) [.Constant (.str _) _ _] [] cp) _ :: rest => if a = ("super" : Str) ∧ b = ("__init__" : Str) ∧ (ap.endLine == cp.line) = true then asgs sf rest else none
  | _ => none
theorem xBody_ok {sf : Str} {body : List Stmt} {l : List (Str × Str)} (h : xBody sf body = some l) : ∃ (p0 p1 ap cp ep q : Pos) (m : Str) (j : Nat) (rest : List Stmt), body = .Expr (.Call (.Attribute (.Call (.Name "super" p0) [] [] p1) "__init__" ap) [.Constant (.str m) j q] [] cp) ep :: rest ∧ (ap.endLine == cp.line) = true ∧ asgs sf rest = some l := by
  unfold xBody at h
  split at h
  · split at h
    · rename_i hh
      obtain ⟨rfl, rfl, e⟩ := hh
      exact ⟨_, _, _, _, _, _, _, _, _, rfl, e, h⟩
    · cases h
  · cases h
def codeFile (K : PySem.W.Frag) (c : Addr) (file : Str) : Bool := match K.lookup c with
  | some o => match o.data with
    | .fields vs => match (vs[2]? : Option Value) with
      | some (.str f _) => file == f
      | _ => false
    | _ => false
  | none => false
def cellIs (K : PySem.W.Frag) (c C : Addr) : Bool := match K.lookup c with
  | some o => match o.data with
    | .cell (some (.ref D)) => decide (D = C)
    | _ => false
  | none => false
def xstB (K : PySem.W.Frag) (C : Addr) (bmB : List Value) (nm : Str) : Bool := decide (PySem.W.findIn K (.ref C) "__setattr__" = some (some (.builtin "object.__setattr__"))) && PySem.W.excOver K C bmB && decide (PySem.W.takerIn K C nm = some none) && PySem.W.hasDictIn K C
/-- the facts of the class's __init__ -/
def xfnB (file : Str) (K : PySem.W.Frag) (C fI : Addr) (bmB : List Value) (fd : FuncData) (fs : List Str) : Bool := match fd.body, fd.code, fd.closure, fd.params.args with
  | .stmts body, .ref cda, [(nm, cc)], a0 :: as => match xBody a0.arg body with
    | some l => decide (nm = ("__class__" : Str)) && decide (l.map (·.1) = fs) && decide (l.map (·.2) = as.map (·.arg)) && plainPars fd.params && decide (fd.defaults = .none) && decide ((a0.arg :: l.map (·.2)).Nodup) && decide (l.length ≤ 900)
        && decide (fd.globals = mainGlobals) && decide (fd.builtins = builtinsNs) && PySem.W.codeIn K (.ref cda) fd.qualname && codeFile K cda file && cellIs K cc C
        && decide (fd.scope.kind = .function) && !fd.scope.isCoroutine && !fd.scope.isGenerator && fd.scope.names.all (fun y => decide (y.2 ≠ .cell)) && decide (fd.scope.names.lookup ("super" : Str) = some .globalImplicit) && decide (fd.scope.names.lookup ("__class__" : Str) = some .free) && decide (fd.scope.names.lookup a0.arg = some .local)
        && l.all (fun p => decide (fd.scope.names.lookup p.2 = some .local) && !(p.2 == ("__debug__" : Str)) && xstB K C bmB p.1) && !(a0.arg == ("__debug__" : Str))
    | none => false
  | _, _, _, _ => false
def xiB (file : Str) (K : PySem.W.Frag) (C : Addr) (B newId initId : String) (bmB : List Value) (fs : List Str) : Bool := match PySem.W.findIn K (.ref C) "__init__" with
  | some (some (.ref fI)) => match fdAt K fI with
    | some fd => PySem.W.excInitIn K C bmB newId && decide (PySem.W.typeIn K (.ref fI) = some (.type "function")) && decide (PySem.W.mroIn K C (.ref C) = some true) && decide (PySem.W.ks_superIn K C C "__init__" = some (some (.builtin initId))) && decide (PySem.W.subIn K (.ref C) (.type B) = some true)
        && decide (PySem.W.nsIn K cStatics "thirdparty.any" = some none) && xfnB file K C fI bmB fd fs && decide fs.Nodup
    | none => false
  | _ => false
theorem xi_ok {P : Program} {w : World} {K : PySem.W.Frag} {mg : Str → Option Value} {C : Addr} {B newId initId : String} {bmB : List Value} {fs : List Str} (fb : ∃ O, PySem.Mi5.XBase B O newId initId bmB) (kf : PySem.W.KxsFacts B initId) (so : StoreFacts B bmB "object.__setattr__" "object") (ms : mg "super" = none) (tps : (P.main.scope.names.lookup ("super" : Str)).isSome = false)
    (h : xiB P.main.file K C B newId initId bmB fs = true) : XMk P w K mg C fs := by
  unfold xiB at h
  split at h
  · rename_i fI hi
    split at h
    · rename_i fd hfd
      simp only [Bool.and_eq_true, decide_eq_true_eq] at h
      obtain ⟨⟨⟨⟨⟨⟨⟨h1, h2⟩, h3⟩, h4⟩, h5⟩, h6⟩, h7⟩, h8⟩ := h
      unfold xfnB at h7
      split at h7
      · rename_i body cda nm cc a0 as eb ec ecl ea
        split at h7
        · rename_i l hl
          simp only [Bool.and_eq_true, decide_eq_true_eq, Bool.not_eq_true', List.all_eq_true] at h7
          obtain ⟨⟨⟨⟨⟨⟨⟨⟨⟨⟨⟨⟨⟨⟨⟨⟨⟨⟨⟨⟨k1, k2⟩, k3⟩, k4⟩, k5⟩, k6⟩, k7⟩, k8⟩, k9⟩, k10⟩, k11⟩, k12⟩, k13⟩, k14⟩, k15⟩, k16⟩, k17⟩, k18⟩, k19⟩, k20⟩, k21⟩ := h7
          have hargs : fd.params.args.map (·.arg) = a0.arg :: l.map (·.2) := by
            rw [ea, k3]
            rfl
          have T : XInit P K mg C B newId initId bmB a0.arg l fI cc cda fd body fd.scope := {
            fb := fb
            kf := kf
            so := so
            ci := h1
            iC := hi
            tI := h2
            fo := fdAt_ok hfd
            fdb := eb
            fds := rfl
            fdg := k8
            fdl := k9
            fdc := by rw [ecl, k1]
            fdo := ec
            co := k10
            cf := by
              unfold codeFile at k11
              split at k11
              · rename_i o e
                split at k11
                · rename_i vs dd
                  split at k11
                  · rename_i f tf ev
                    exact ⟨o, vs, f, tf, e, dd, ev, k11⟩
                  · cases k11
                · cases k11
              · cases k11
            ce := by
              unfold cellIs at k12
              split at k12
              · rename_i o e
                split at k12
                · rename_i D dd
                  exact ⟨o, e, by rw [dd, of_decide_eq_true k12]⟩
                · cases k12
              · cases k12
            mr := h3
            su := h4
            sb := h5
            tp := h6
            ms := ms
            tps := tps
            ar := ⟨a0, by
              have e0 : fd.params.posonlyargs = [] := by
                simp only [plainPars, Bool.and_eq_true, List.isEmpty_iff] at k4
                exact k4.1.1.1
              rw [e0, ea]
              rfl, rfl⟩
            sk := k13
            sc := k14
            sg := k15
            nc := k16
            ns := k17
            nk := k18
            nf := k19
            np := fun p hp => ⟨(k20 p hp).1.1, (k20 p hp).1.2⟩
            nd := k21
            bd := fun us hu => by
              rw [bind_plain k4 k5 (by rw [hargs]; exact k6) (by rw [hargs, List.length_cons, List.length_map]; exact hu), hargs]
            un := k6
            st := fun p hp => by
              have z := (k20 p hp).2
              simp only [xstB, Bool.and_eq_true, decide_eq_true_eq] at z
              exact ⟨z.1.1.1, z.1.1.2, z.1.2, z.2⟩
            bo := xBody_ok hl
            ll := k7 }
          rw [← k2]
          exact xmk_of T (by rw [k2]; exact h8)
        · cases h7
      · cases h7
    · cases h
  · cases h
end Mi

namespace Mi
open PySem L2 PySem.Spec PyProof.Rows

/-! ### data of the written part -/
mutual
def repB (K : PySem.W.Frag) : D → Value → Bool
  | .non, u => decide (u = .none)
  | .bl b, u => decide (u = .bool b)
  | .int i, .int j _ => decide (i = j)
  | .str x, .str y _ => decide (x = y)
  | .tup ds, .ref a => match K.lookup a with
    | some o => decide (o.cls = .type "tuple") && (match o.data with
      | .seq its _ => decide (its.size ≤ 1000) && repBs K ds its.toList
      | _ => false)
    | none => false
  | _, _ => false
def repBs (K : PySem.W.Frag) : List D → List Value → Bool
  | [], [] => true
  | d :: ds, u :: us => repB K d u && repBs K ds us
  | _, _ => false
end
mutual
theorem repB_ok {g : Gx} : ∀ {d : D} {u : Value}, repB g.K d u = true → ∃ v, RelV v u ∧ ∀ F H, Rep g F H v d
  | .non, u, h => by
    simp only [repB, decide_eq_true_eq] at h
    exact ⟨.non, h, fun _ _ => .non⟩
  | .bl b, u, h => by
    simp only [repB, decide_eq_true_eq] at h
    exact ⟨.bl b, h, fun _ _ => .bl b⟩
  | .int i, u, h => by
    cases u <;> first | (simp [repB] at h; done) | skip
    rename_i j t
    simp only [repB, decide_eq_true_eq] at h
    subst h
    exact ⟨.int i, ⟨t, rfl⟩, fun _ _ => .int i⟩
  | .str x, u, h => by
    cases u <;> first | (simp [repB] at h; done) | skip
    rename_i y t
    simp only [repB, decide_eq_true_eq] at h
    subst h
    exact ⟨.str x, ⟨t, rfl⟩, fun _ _ => .str x⟩
  | .tup ds, u, h => by
    cases u <;> first | (simp [repB] at h; done) | skip
    rename_i a
    simp only [repB] at h
    split at h
    · rename_i o ho
      rw [Bool.and_eq_true, decide_eq_true_eq] at h
      obtain ⟨h1, h2⟩ := h
      split at h2
      · rename_i its n hd
        rw [Bool.and_eq_true, decide_eq_true_eq] at h2
        obtain ⟨vs, rv, rr⟩ := repBs_ok h2.2
        exact ⟨.ref a, rfl, fun F H => .tupK (fun H' => .inr ⟨o, its, n, ho, h1, hd, Nat.le_trans h2.1 (by decide), rv⟩) (rr F H)⟩
      · cases h2
    · cases h
  | .lst _, u, h => by cases u <;> simp [repB] at h
  | .scr _, u, h => by cases u <;> simp [repB] at h
  | .ins _ _, u, h => by cases u <;> simp [repB] at h
theorem repBs_ok {g : Gx} : ∀ {ds : List D} {us : List Value}, repBs g.K ds us = true → ∃ vs, Vals vs us ∧ ∀ F H, Reps g F H vs ds
  | [], [], _ => ⟨[], .nil, fun _ _ => .nil⟩
  | d :: ds, u :: us, h => by
    simp only [repBs, Bool.and_eq_true] at h
    obtain ⟨v, h1, h2⟩ := repB_ok h.1
    obtain ⟨vs, h3, h4⟩ := repBs_ok h.2
    exact ⟨v :: vs, .cons h1 h3, fun F H => .cons (h2 F H) (h4 F H)⟩
  | [], _ :: _, h => by simp [repBs] at h
  | _ :: _, [], h => by simp [repBs] at h
end
end Mi

namespace Mi
open PySem L2 PySem.Spec PyProof.Rows

/-! ### a law's tables, and one Bool that the written part keeps them -/
structure Tables where
  G : GTab
  fns : List (Str × Ent)
  mts : List ((Str × Str) × FInfo)
  flds : List (Str × Str)
  xflds : List (Str × Str)
  clss : List Str
  ins : List Str
  xcs : List Str
  isaT : List ((Kd × Kd) × Bool)
  exmT : List ((Str × Kd) × Bool)
  nfT : List (Str × Kd)
  xmkT : List (Str × List Str)
def Tables.own (T : Tables) : Own where
  fn := fun _ => bad4
  mt := fun _ _ => bad4
  mts := T.mts.map (·.1)
  flds := T.flds
  xflds := T.xflds
  clss := T.clss
  ins := T.ins
  xcs := T.xcs
  xmk := fun x => T.xmkT.lookup x
  isa := fun a b => (T.isaT.find? fun p => p.1.1.same a && p.1.2.same b).map (·.2)
  exm := fun a b => (T.exmT.find? fun p => decide (p.1.1 = a) && p.1.2.same b).map (·.2)
  nf := fun a b => T.nfT.any fun p => decide (p.1 = a) && p.2.same b
def gx (K : PySem.W.Frag) : Gx := ⟨K, He.ga K, none⟩
def insB (K : PySem.W.Frag) (x : Str) : Bool := (He.Fa.cls x).ok K && decide (PySem.W.findIn K (.ref (He.ga K x)) "__class__" = some (some (.builtin "object.__class__"))) && decide (PySem.W.specialIn K (.builtin "object.__class__") "__get__" = some (some (.builtin "getset_descriptor.__get__")))
  && decide (PySem.W.takesIn K (.builtin "object.__class__") = some true) && decide (PySem.W.mroIn K (He.ga K x) (.type "object") = some true) && decide (PySem.W.findIn K (.ref (He.ga K x)) "__ne__" = some (some (.builtin "object.__ne__")))
def xcB (K : PySem.W.Frag) (C : Addr) : Bool := (PySem.W.clsIn K C).isSome && decide (PySem.W.findIn K (.ref C) "__getattribute__" = some (some (.builtin "BaseException.__getattribute__"))) && decide (PySem.W.findIn K (.ref C) "__getattr__" = some none) && decide (PySem.W.subIn K (.ref C) (.type "BaseException") = some true) && PySem.W.hasDictIn K C
  && decide (PySem.W.findIn K (.ref C) "__class__" = some (some (.builtin "object.__class__"))) && decide (PySem.W.specialIn K (.builtin "object.__class__") "__get__" = some (some (.builtin "getset_descriptor.__get__"))) && decide (PySem.W.takesIn K (.builtin "object.__class__") = some true) && decide (PySem.W.mroIn K C (.type "object") = some true)
/-- a name's kind -/
def gkB (K : PySem.W.Frag) (p : Str × GK) : Bool := match p.2 with
  | .cst d => (match PySem.W.nsIn K mainGlobals p.1 with
    | some (some u) => repB K d u
    | _ => false)
  | .own => (He.Fa.glo p.1).ok K && PySem.W.keepIn K (.ref (He.ga K p.1))
  | .bf _ => (He.Fa.free p.1).ok K
  | .bt _ => (He.Fa.free p.1).ok K
def Tables.chk (T : Tables) (K : PySem.W.Frag) : Bool :=
  T.G.all (gkB K) && T.flds.all (fun p => (He.Fa.cls p.1).ok K && (He.Fa.noat p.1 p.2).ok K) && T.xflds.all (fun p => decide (PySem.W.findIn K (.ref (He.ga K p.1)) p.2 = some none)) && T.clss.all (fun x => (He.Fa.glo x).ok K) && T.ins.all (insB K) && T.xcs.all (fun x => xcB K (He.ga K x))
    && T.isaT.all (fun p => decide (PySem.W.kitOne K (p.1.1.val (gx K)) (p.1.2.val (gx K)) = some p.2)) && T.exmT.all (fun p => decide (PySem.W.exmOne K (.ref (He.ga K p.1.1)) (p.1.2.val (gx K)) = some p.2)) && T.nfT.all (fun p => PySem.W.notFirst K (He.ga K p.1) (p.2.val (gx K)))
/-- the built-in names are what they are at the start -/
def Tables.boot (T : Tables) : Bool := T.G.all fun p => match p.2 with
  | .bf id => decide (bootBuiltins p.1 = some (.builtin id))
  | .bt t => decide (bootBuiltins p.1 = some (.type t))
  | _ => true
theorem look_mem {G : GTab} {x : Str} {k : GK} (h : G.lookup x = some k) : (x, k) ∈ G := PySem.mem_of_lookup h
section
variable {T : Tables} {K : PySem.W.Frag} {h : Heap} {mg : Str → Option Value}
theorem go_of (X : K.In h) (N : h.Ns mainGlobals mg) (hb : T.boot = true) (hc : T.chk K = true) : GOk (gx K) T.G T.own mg := by
  simp only [Tables.chk, Bool.and_eq_true, List.all_eq_true, decide_eq_true_eq] at hc
  obtain ⟨⟨⟨⟨⟨⟨⟨⟨c1, c2⟩, c3⟩, c4⟩, c5⟩, c6⟩, c7⟩, c8⟩, c9⟩ := hc
  have hb' := List.all_eq_true.mp hb
  refine ⟨rfl, ⟨fun c f m => ?_, fun c f m => c3 (c, f) m, fun x m => He.glo_ok X N (c4 x m), fun x m => ?_, fun x m => ?_, fun a b r e => ?_, fun a b e => ?_, fun a b r e => ?_⟩, fun x d e => ?_, fun x id e => ?_, fun x t e => ?_⟩
  · exact ⟨He.cls_ok (c2 (c, f) m).1, He.noat_ok (c2 (c, f) m).2⟩
  · have z := c5 x m
    simp only [insB, Bool.and_eq_true, decide_eq_true_eq] at z
    exact ⟨He.cls_ok z.1.1.1.1.1, z.1.1.1.1.2, z.1.1.1.2, z.1.1.2, z.1.2, z.2⟩
  · have z := c6 x m
    simp only [xcB, Bool.and_eq_true, decide_eq_true_eq] at z
    exact ⟨z.1.1.1.1.1.1.1.1, z.1.1.1.1.1.1.1.2, z.1.1.1.1.1.1.2, z.1.1.1.1.1.2, z.1.1.1.1.2, z.1.1.1.2, z.1.1.2, z.1.2, z.2⟩
  · obtain ⟨p, h1, h2⟩ := Option.map_eq_some_iff.mp e
    have q := List.find?_some h1
    rw [Bool.and_eq_true] at q
    rw [← Kd.same_eq q.1, ← Kd.same_eq q.2, ← h2]
    exact c7 p (List.mem_of_find?_eq_some h1)
  · obtain ⟨p, h1, h2⟩ := List.any_eq_true.mp e
    rw [Bool.and_eq_true, decide_eq_true_eq] at h2
    rw [← h2.1, ← Kd.same_eq h2.2]
    exact c9 p h1
  · obtain ⟨p, h1, h2⟩ := Option.map_eq_some_iff.mp e
    have q := List.find?_some h1
    rw [Bool.and_eq_true, decide_eq_true_eq] at q
    rw [← q.1, ← Kd.same_eq q.2, ← h2]
    exact c8 p (List.mem_of_find?_eq_some h1)
  · have z := c1 (x, .cst d) (look_mem e)
    unfold gkB at z
    dsimp only at z
    split at z
    · rename_i u hu
      obtain ⟨v, r1, r2⟩ := repB_ok (g := gx K) z
      exact ⟨u, v, PySem.W.mg_of X N hu, r1, r2⟩
    · cases z
  · exact ⟨He.free_ok X N (c1 (x, .bf id) (look_mem e)), of_decide_eq_true (hb' (x, .bf id) (look_mem e))⟩
  · exact ⟨He.free_ok X N (c1 (x, .bt t) (look_mem e)), of_decide_eq_true (hb' (x, .bt t) (look_mem e))⟩
end
end Mi

namespace Mi
open PySem L2 PySem.Spec PyProof.Rows

/-! ### defs of the text, by what the head tells of them -/
/-- names and parameters fit -/
def scopeB (N ps : List Str) (sc : Scope) : Bool := decide (sc.kind = .function) && !sc.isCoroutine && !sc.isGenerator && decide N.Nodup && decide (N.take ps.length = ps) && ps.all (fun x => decide (sc.names.lookup x = some .local) || decide (sc.names.lookup x = some .cell)) && sc.names.all (fun y => decide (y.2 ≠ .free))
theorem scopeB_ok {N ps : List Str} {sc : Scope} (h : scopeB N ps sc = true) : FnScope N ps sc := by
  simp only [scopeB, Bool.and_eq_true, decide_eq_true_eq, Bool.not_eq_true', List.all_eq_true, Bool.or_eq_true] at h
  obtain ⟨⟨⟨⟨⟨⟨h1, h2⟩, h3⟩, h4⟩, h5⟩, h6⟩, h7⟩ := h
  exact ⟨h1, h2, h3, h4, h5, h6, h7⟩
/-- a def with plain parameters -/
def plainB (i : FInfo) (params : Arguments) : Bool := plainPars params && decide (params.args.map (·.arg)).Nodup && scopeB i.N (params.args.map (·.arg)) i.scope
section
variable {P : Program} {w : World} {K : PySem.W.Frag} {mg : Str → Option Value} {base : Heap} {x qual : Str} {params : Arguments} {f : Addr} {fd : FuncData}
theorem fdef_plain {i : FInfo} (F : FunD K x qual params i.body i.scope [] [] f fd) (h : plainB i params = true) (hb : i.bm = bndPlain (params.args.map (·.arg)).length) : FDef (gx K) P w mg base i f := by
  simp only [plainB, Bool.and_eq_true, decide_eq_true_eq] at h
  obtain ⟨⟨h1, h2⟩, h3⟩ := h
  obtain ⟨oc, od, dV, kV, doc, pm, an, cdv, ct, osl, rfl, lk, hcd, hd, _⟩ := F.ex
  rcases hd with ⟨_, rfl⟩ | ⟨z, _⟩
  · refine ⟨x, qual, params, .none, kV, doc, pm, cdv, ct, oc, an, od, osl, params.args.map (·.arg), lk, hcd, scopeB_ok h3, ?_⟩
    rw [hb]
    exact bndPlain_ok fun us hl => bind_plain (fd := PySem.W.fnOf x qual params i.body i.scope .none kV doc pm an cdv ct) h1 rfl h2 hl
  · exact absurd rfl z
theorem fdef_star2 {i : FInfo} {a b v k1 k2 : Arg} {kd : List (Option Expr)} {v1 v2 : V} {d1 d2 : D} (F : FunD K x qual (pars2 a b v k1 k2 kd) i.body i.scope [] [(k1.arg, v1), (k2.arg, v2)] f fd) (hs : scopeB i.N [a.arg, b.arg, k1.arg, k2.arg, v.arg] i.scope = true) (hn : ([a.arg, b.arg, k1.arg, k2.arg]).Nodup)
    (q1 : ∀ F H, Rep (gx K) F H v1 d1) (q2 : ∀ F H, Rep (gx K) F H v2 d2) (hb : i.bm = bndStar2 k1.arg k2.arg d1 d2) : FDef (gx K) P w mg base i f := by
  obtain ⟨oc, od, dV, kV, doc, pm, an, cdv, ct, osl, rfl, lk, hcd, hd, hk⟩ := F.ex
  rcases hd with ⟨_, rfl⟩ | ⟨z, _⟩
  · rcases hk with z | ⟨Da, rfl, hq⟩
    · cases z
    · obtain ⟨u1, e1, r1⟩ := hq (k1.arg, v1) List.mem_cons_self
      obtain ⟨u2, e2, r2⟩ := hq (k2.arg, v2) (List.mem_cons_of_mem _ List.mem_cons_self)
      refine ⟨x, qual, _, .none, .ref Da, doc, pm, cdv, ct, oc, an, od, osl, _, lk, hcd, scopeB_ok hs, ?_⟩
      rw [hb]
      simp only [List.nodup_cons, List.mem_cons, List.not_mem_nil, or_false, not_or, not_false_eq_true, List.nodup_nil, and_true] at hn
      obtain ⟨⟨m1, m2, m3⟩, ⟨m4, m5⟩, m6⟩ := hn
      exact bndStar2_ok m1 (Ne.symm m2) (Ne.symm m4) (Ne.symm m3) (Ne.symm m5) m6 e1 e2 r1 r2 q1 q2
  · exact absurd rfl z
end
/-- a class's __init__ is one -/
theorem mk_meth {K : PySem.W.Frag} {C fi f : Addr} (M : Mk K C f) (m : Meth K C "__init__" fi) : Mk K C fi := by
  have e := M.init.symm.trans m.at_
  cases e
  exact M
end Mi

namespace Mi
open PySem L2 PySem.Spec PyProof.Rows
/-- the written part that the head tells: with the object at cStatics -/
def partK (g : Addr → Option Obj) (n : Nat) : PySem.W.Frag := He.frT g (cStatics :: He.asD g n)
def obsM (n : Nat) (fn : List He.DefD) (ex : PySem.W.Frag → Bool) (g : Addr → Option Obj) : He.AlX := (He.obsT [] fn [] (partK g n), ex (partK g n))
def hookM (n : Nat) (fn : List He.DefD) (ex : PySem.W.Frag → Bool) : PySem.W.Hook where
  α := He.AlX
  obs := fun s => obsM n fn ex s.heap.get?
  val := fun w => (He.valT fn [] w, true)
  says := fun w h => ∃ K : PySem.W.Frag, K.In h ∧ He.SaysT [] fn [] w K ∧ ex K = true
  of := fun w h e => ⟨_, He.frT_in, congrArg (fun z : He.AlX => z.1) e, congrArg (fun z : He.AlX => z.2) e⟩
  keeps := fun _ _ _ ⟨K, hK, c⟩ k => ⟨K, PySem.W.Frag.In.keeps hK k, c⟩
theorem obsM_eq {n : Nat} {fn : List He.DefD} {ex : PySem.W.Frag → Bool} {g : Addr → Option Obj} {s : Shared} (h : ∀ a, g a = s.heap.get? a) : obsM n fn ex g = (hookM n fn ex).obs s := by
  have e : g = s.heap.get? := funext h
  rw [e]
  rfl
end Mi

namespace Mi
open PySem L2 PySem.Spec PyProof.Rows
/-- a plain def of the text: where it stands, its info, the head's datum -/
def plainD (d : He.DefD) (i : FInfo) : Prop := d.body = i.body ∧ d.scope = i.scope ∧ d.dfl = [] ∧ d.kwd = [] ∧ plainB i d.params = true ∧ i.bm = bndPlain (d.params.args.map (·.arg)).length
theorem fdef_of {P : Program} {w : World} {K : PySem.W.Frag} {mg : Str → Option Value} {base : Heap} {fn : List He.DefD} {d : He.DefD} {i : FInfo} (c : He.SaysD [] fn K) (hd : d ∈ fn) (h : plainD d i) : FDef (gx K) P w mg base i (He.fAd K d.at_) := by
  obtain ⟨fd, F⟩ := c.defs hd
  obtain ⟨h1, h2, h3, h4, h5, h6⟩ := h
  rw [h1, h2, He.DefD.dvs, He.DefD.kws, h3, h4] at F
  exact fdef_plain F h5 h6
end Mi

namespace Mi
open PySem L2 PySem.Spec PyProof.Rows
theorem forIn_by {α β : Type} (f : α → β → Sem (ForInStep β)) (g : α → β → β) (P : List α → β → Prop) (h : ∀ x r b, P (x :: r) b → f x b = pure (.yield (g x b)) ∧ P r (g x b)) : ∀ (l : List α) (b : β), P l b → forIn l b f = pure (l.foldl (fun b x => g x b) b)
  | [], b, _ => by rw [List.forIn_nil]; rfl
  | x :: r, b, hb => by
    obtain ⟨e, hr⟩ := h x r b hb
    rw [List.forIn_cons, e, pure_bind]
    exact forIn_by f g P h r (g x b) hr
theorem look_app {α β : Type} [BEq α] {a : α} : ∀ {l m : List (α × β)}, (l ++ m).lookup a = (l.lookup a).or (m.lookup a)
  | [], m => by simp [List.lookup]
  | (k, v) :: r, m => by
    rw [List.cons_append, List.lookup_cons, List.lookup_cons]
    cases a == k with
    | true => rfl
    | false => exact look_app
theorem foldl_app {α β : Type} : ∀ (l : List (α × β)) (a : List (α × β)) (e : List (α × β)), l.foldl (fun (b : List (α × β) × List (α × β)) x => (b.1 ++ [(x.1, x.2)], b.2)) (a, e) = (a ++ l, e)
  | [], a, e => by simp
  | x :: r, a, e => by rw [List.foldl_cons, foldl_app r]; simp
/-- the defaults of keyword parameters that are not given -/
def fillK (dv : Str → Value) : List Str → List (Str × Value) → List (Str × Value)
  | [], sl => sl
  | k :: r, sl => fillK dv r (if (sl.lookup k).isNone then sl ++ [(k, dv k)] else sl)
theorem fill_look {dv : Str → Value} {n : Str} : ∀ (ks : List Str) (sl : List (Str × Value)), (fillK dv ks sl).lookup n = (sl.lookup n).or (if n ∈ ks then some (dv n) else none)
  | [], sl => by simp [fillK]
  | k :: r, sl => by
    unfold fillK
    rw [fill_look r]
    by_cases e : n = k
    · subst e
      cases q : sl.lookup n with
      | none => simp [look_app, q, List.lookup]
      | some v => simp [q]
    · have ne : (n == k) = false := beq_eq_false_iff_ne.mpr e
      have e2 : (if (sl.lookup k).isNone then sl ++ [(k, dv k)] else sl).lookup n = sl.lookup n := by
        split
        · rw [look_app]
          simp [List.lookup, ne]
        · rfl
      rw [e2]
      simp [e]
section
variable {M : Model} {A : Around} {E : Value → Shared → Prop} {s : Shared} {K : PySem.W.Frag} {fd : FuncData}
theorem bind_gen {us : List Value} {kw : List (Str × Value)} {ps ks : List Str} {dv : Str → Value} {Q : List (Str × Value) → Shared → Prop} (X : K.In s.heap) (hp : fd.params.posonlyargs = []) (hk : fd.params.kwarg = none) (hd : fd.defaults = .none) (hps : fd.params.args.map (·.arg) = ps) (hks : fd.params.kwonlyargs.map (·.arg) = ks)
    (hc : ∀ p ∈ kw, p.1 ∈ ps ∨ p.1 ∈ ks) (nd : (kw.map (·.1)).Nodup) (fr : ∀ p ∈ kw, (ps.zip us).lookup p.1 = none) (cnt : us.length ≤ ps.length ∨ fd.params.vararg.isSome = true)
    (pos : ∀ n ∈ ps, ((ps.zip us ++ kw).lookup n).isSome = true) (nk : ks.Nodup) (df : ∀ k ∈ ks, ((ps.zip us ++ kw).lookup k).isSome = true ∨ ∃ Da, fd.kwdefaults = .ref Da ∧ PySem.W.nsIn K Da k = some (some (dv k)))
    (h : wpAny M A (match fd.params.vararg with
      | some a => newTuple (us.drop ps.length) >>= fun t => pure ((ps ++ ks).map (fun n => (n, ((ps.zip us ++ kw).lookup n).getD (dv n))) ++ [(a.arg, t)])
      | none => pure ((ps ++ ks).map fun n => (n, ((ps.zip us ++ kw).lookup n).getD (dv n)))) Q E s) : wpAny M A (bindArgs fd ⟨us, kw⟩) Q E s := by
  unfold bindArgs
  simp only [hp, hk, hd, hps, hks, List.map_nil, List.nil_append, Option.isSome_none, Bool.false_eq_true, if_false]
  rw [forIn_by _ (fun (x : Str × Value) (b : List (Str × Value) × List (Str × Value)) => (b.1 ++ [(x.1, x.2)], b.2)) (fun l b => (∀ p ∈ l, p.1 ∈ ps ∨ p.1 ∈ ks) ∧ (l.map (·.1)).Nodup ∧ ∀ p ∈ l, b.1.lookup p.1 = none) ?_ kw (ps.zip us, []) ⟨hc, nd, fr⟩]
  · rw [foldl_app, pure_bind]
    have e0 : seqItems? Value.none = pure none := rfl
    rw [e0, pure_bind]
    simp only [Option.getD_none, Array.toList_empty, List.drop_nil, List.length_nil, Nat.sub_zero, List.take_length, List.drop_length, List.zip_nil_left, List.zip_nil_right, List.forIn_nil, pure_bind]
    have m0 : (ps.filter fun n => (List.lookup n (ps.zip us ++ kw)).isNone) = [] := List.filter_eq_nil_iff.mpr fun n hn => by
      have := pos n hn
      cases q : List.lookup n (ps.zip us ++ kw) with
      | none => rw [q] at this; cases this
      | some _ => simp
    have cn : (decide (us.length > ps.length) && fd.params.vararg.isNone) = false := by
      rcases cnt with c | c
      · rw [decide_eq_false (by omega)]; rfl
      · cases q : fd.params.vararg with
        | none => rw [q] at c; cases c
        | some _ => simp
    simp only [cn, m0, Bool.false_eq_true, if_false, List.isEmpty_nil, Bool.not_true]
    have loop : ∀ (l : List Str) (sl : List (Str × Value)) (k : List (Str × Value) × List Str → Sem (List (Str × Value))), (∀ n ∈ l, (sl.lookup n).isSome = true ∨ ∃ Da, fd.kwdefaults = .ref Da ∧ PySem.W.nsIn K Da n = some (some (dv n))) → wpAny M A (k (fillK dv l sl, [])) Q E s →
        wpAny M A (forIn l (sl, ([] : List Str)) (fun name __s => if (List.lookup name __s.fst).isNone = true then
              match fd.kwdefaults with
              | Value.ref d => do
                let dflt ← nsGet d name
                match dflt with
                  | some v => pure (ForInStep.yield (__s.fst ++ [(name, v)], __s.snd))
                  | none => pure (ForInStep.yield (__s.fst, __s.snd ++ [name]))
              | x => pure (ForInStep.yield (__s.fst, __s.snd ++ [name]))
            else pure (ForInStep.yield (__s.fst, __s.snd))) >>= k) Q E s := by
      intro l
      induction l with
      | nil =>
        intro sl k _ hk
        rw [List.forIn_nil, pure_bind]
        exact hk
      | cons n r ih =>
        intro sl k hl hk
        rw [List.forIn_cons]
        unfold fillK at hk
        cases q : sl.lookup n with
        | some v =>
          rw [q] at hk
          simp only [Option.isNone_some, Bool.false_eq_true, if_false, pure_bind] at hk ⊢
          exact ih sl k (fun m hm => hl m (List.mem_cons_of_mem _ hm)) hk
        | none =>
          rw [q] at hk
          rcases hl n (List.mem_cons_self ..) with h1 | ⟨Da, e1, e2⟩
          · rw [q] at h1; cases h1
          · rw [e1] at ih ⊢
            simp only [Option.isNone_none, if_true, bind_assoc] at hk ⊢
            refine wpAny_bind ((PySem.W.looks_nsIn X e2).here ?_)
            simp only [pure_bind]
            refine ih (sl ++ [(n, dv n)]) k (fun m hm => ?_) hk
            rcases hl m (List.mem_cons_of_mem _ hm) with h2 | ⟨Db, e3, e4⟩
            · refine .inl ?_
              rw [look_app]
              cases z : sl.lookup m with
              | none => rw [z] at h2; cases h2
              | some _ => rfl
            · rw [e1] at e3
              cases e3
              exact .inr ⟨Da, rfl, e4⟩
    refine loop ks (ps.zip us ++ kw) _ df ?_
    have fm : List.filterMap (fun n => Option.map (fun x => (n, x)) (List.lookup n (fillK dv ks (ps.zip us ++ kw)))) (ps ++ ks) = (ps ++ ks).map fun n => (n, ((ps.zip us ++ kw).lookup n).getD (dv n)) := by
      have ff : ∀ l : List Str, (∀ n ∈ l, List.lookup n (fillK dv ks (ps.zip us ++ kw)) = some (((ps.zip us ++ kw).lookup n).getD (dv n))) → List.filterMap (fun n => Option.map (fun x => (n, x)) (List.lookup n (fillK dv ks (ps.zip us ++ kw)))) l = l.map fun n => (n, ((ps.zip us ++ kw).lookup n).getD (dv n)) := by
        intro l
        induction l with
        | nil => intro _; rfl
        | cons n r ih =>
          intro hl
          rw [List.filterMap_cons, hl n (List.mem_cons_self ..), ih fun m hm => hl m (List.mem_cons_of_mem _ hm)]
          rfl
      refine ff _ fun n hn => ?_
      rw [fill_look]
      cases q : (ps.zip us ++ kw).lookup n with
      | some v => rfl
      | none =>
        rcases List.mem_append.mp hn with hn | hn
        · have := pos n hn
          rw [q] at this
          cases this
        · rw [if_pos hn]; rfl
    simp only [List.isEmpty_nil, Bool.not_true, Bool.false_eq_true, if_false, fm]
    cases q : fd.params.vararg with
    | none => rw [q] at h; exact h
    | some a => rw [q] at h; exact h
  · rintro x r b ⟨h1, h2, h3⟩
    have hx := h1 x (List.mem_cons_self ..)
    have hin : (ps.contains x.1 || ks.contains x.1) = true := by
      rw [Bool.or_eq_true]
      exact hx.imp List.contains_iff_mem.mpr List.contains_iff_mem.mpr
    have hl := h3 x (List.mem_cons_self ..)
    refine ⟨?_, fun p hp => h1 p (List.mem_cons_of_mem _ hp), (List.nodup_cons.mp h2).2, fun p hp => ?_⟩
    · rw [if_pos hin, hl]
      simp
    · rw [look_app, h3 p (List.mem_cons_of_mem _ hp)]
      have ne : (p.1 == x.1) = false := by
        rw [beq_eq_false_iff_ne]
        intro e
        have hm : x.1 ∈ r.map (·.1) := by rw [← e]; exact List.mem_map.mpr ⟨p, hp, rfl⟩
        exact (List.nodup_cons.mp h2).1 hm
      simp [List.lookup, ne]
end
/-! ### any parameters: positional ones, *rest, keyword-only ones with a default -/
def bndP (ps : List Str) (ks : List (Str × D)) (xs : List W) (kws : List (Str × W)) : Option (List W) :=
  if (kws.all fun p => ps.contains p.1 || (ks.map (·.1)).contains p.1) && decide (kws.map (·.1)).Nodup && (kws.all fun p => ((ps.zip xs).lookup p.1).isNone) && ps.all fun n => ((ps.zip xs ++ kws).lookup n).isSome then
    some (ps.map (fun n => ((ps.zip xs ++ kws).lookup n).getD (.d .non)) ++ ks.map fun p => ((ps.zip xs ++ kws).lookup p.1).getD (.d p.2))
  else none
def bndG (ps : List Str) (va : Bool) (ks : List (Str × D)) : BndM := fun as kws => match bndP ps ks (as.take ps.length) kws with
  | some l => if va then (match pureL (as.drop ps.length) with
      | some ds => if ds.length ≤ 100000 then some (l ++ [.d (.tup ds)]) else none
      | none => none)
    else if as.length ≤ ps.length then some l else none
  | none => none
theorem zlook {α β : Type} {R : α → β → Prop} {n : Str} : ∀ {ks : List Str} {xs : List α} {ys : List β}, Paired R xs ys → ((ks.zip xs).lookup n = none ∧ (ks.zip ys).lookup n = none) ∨ ∃ x y, (ks.zip xs).lookup n = some x ∧ (ks.zip ys).lookup n = some y ∧ R x y
  | [], _, _, _ => .inl ⟨by simp, by simp⟩
  | k :: ks, _, _, .nil => .inl ⟨by simp, by simp⟩
  | k :: ks, _, _, .cons h t => by
    rw [List.zip_cons_cons, List.zip_cons_cons, List.lookup_cons, List.lookup_cons]
    cases n == k with
    | true => exact .inr ⟨_, _, rfl, rfl, h⟩
    | false => exact zlook t
theorem zip_take {α : Type} : ∀ (ps : List Str) (xs : List α), ps.zip (xs.take ps.length) = ps.zip xs
  | [], _ => by simp
  | p :: ps, [] => by simp
  | p :: ps, x :: xs => by simp [zip_take ps xs]
theorem two_look {α β : Type} {R : α → β → Prop} {n : Str} {ps kn : List Str} {xs xs2 : List α} {ys ys2 : List β} (h : Paired R xs ys) (h2 : Paired R xs2 ys2) :
    ((ps.zip xs ++ kn.zip xs2).lookup n = none ∧ (ps.zip ys ++ kn.zip ys2).lookup n = none) ∨ ∃ x y, (ps.zip xs ++ kn.zip xs2).lookup n = some x ∧ (ps.zip ys ++ kn.zip ys2).lookup n = some y ∧ R x y := by
  rw [look_app, look_app]
  rcases zlook (ks := ps) (n := n) h with ⟨a, b⟩ | ⟨x, y, a, b, r⟩
  · rw [a, b]
    exact zlook (ks := kn) h2
  · rw [a, b]
    exact .inr ⟨x, y, rfl, rfl, r⟩
theorem paired_pick {g : Gx} {ρ : Nat → Addr} {n : Nat} {F : Addr → Prop} {H : Hp} {fU : Str → Value} {fW : Str → W} : ∀ l : List Str, (∀ x ∈ l, ∃ v, RelV v (fU x) ∧ RepW g ρ n F H v (fW x)) → ∃ vs, Vals vs (l.map fU) ∧ RepWs g ρ n F H vs (l.map fW)
  | [], _ => ⟨[], .nil, .nil⟩
  | x :: r, h => by
    obtain ⟨v, h1, h2⟩ := h x (List.mem_cons_self ..)
    obtain ⟨vs, h3, h4⟩ := paired_pick r fun y hy => h y (List.mem_cons_of_mem _ hy)
    exact ⟨v :: vs, .cons h1 h3, .cons h2 h4⟩
theorem rel3 {g : Gx} {ρ : Nat → Addr} {n : Nat} {F : Addr → Prop} {H : Hp} : ∀ {vs : List V} {us : List Value} {as : List W}, Vals vs us → RepWs g ρ n F H vs as → Paired (fun w u => ∃ v, RelV v u ∧ RepW g ρ n F H v w) as us
  | _, _, _, .nil, .nil => .nil
  | _, _, _, .cons a r, .cons b q => .cons ⟨_, a, b⟩ (rel3 r q)
theorem zip_maps {α : Type} (f : Str → α) : ∀ l : List Str, l.zip (l.map f) = l.map fun n => (n, f n)
  | [] => rfl
  | x :: r => by simp [zip_maps f r]
theorem look_nodup {β : Type} : ∀ {ks : List (Str × β)}, (ks.map (·.1)).Nodup → ∀ {p : Str × β}, p ∈ ks → ks.lookup p.1 = some p.2
  | [], _, p, h => by cases h
  | (k, d) :: r, nd, p, h => by
    rw [List.lookup_cons]
    rcases List.mem_cons.mp h with rfl | h
    · simp
    · rw [List.map_cons, List.nodup_cons] at nd
      have ne : (p.1 == k) = false := beq_eq_false_iff_ne.mpr fun e => nd.1 (by rw [← e]; exact List.mem_map.mpr ⟨p, h, rfl⟩)
      rw [ne]
      exact look_nodup nd.2 h
theorem zip_names {α : Type} {ks : List Str} {xs : List α} {p : Str × α} (h : p ∈ ks.zip xs) : p.1 ∈ ks := (List.of_mem_zip h).1
section
variable {g : Gx} {P : Program} {w : World} {mg : Str → Option Value} {base : Heap} {fd : FuncData}
theorem bndG_ok {ps : List Str} {ks : List (Str × D)} {dv : Str → Value} (hp : fd.params.posonlyargs = []) (hk : fd.params.kwarg = none) (hd : fd.defaults = .none) (hps : fd.params.args.map (·.arg) = ps) (hks : fd.params.kwonlyargs.map (·.arg) = ks.map (·.1)) (nk : (ks.map (·.1)).Nodup)
    (df : ∀ p ∈ ks, ∃ Da v, fd.kwdefaults = .ref Da ∧ PySem.W.nsIn g.K Da p.1 = some (some (dv p.1)) ∧ RelV v (dv p.1) ∧ ∀ F H, Rep g F H v p.2) :
    BndOk g P w g.K mg base fd (ps ++ ks.map (·.1) ++ (fd.params.vararg.map (·.arg)).toList) (bndG ps fd.params.vararg.isSome ks) := by
  intro A outer s H E us vs kn ws zs ρ F S as bs pw e0 rv rz L ra rb hb
  have KX : g.K.In s.heap := e0.mod.kin.keeps fun b o e => (e0.bs b o e).1
  have la : as.length = us.length := by rw [← paired_len ra, Paired.length rv]
  have r3 := rel3 rv ra
  have r4 := rel3 rz rb
  have look : ∀ n, _ := fun n => two_look (n := n) (ps := ps) (kn := kn) r3 r4
  have look1 : ∀ n, _ := fun n => zlook (n := n) (ks := ps) r3
  unfold bndG at hb
  split at hb
  · rename_i l hl
    unfold bndP at hl
    rw [zip_take] at hl
    split at hl
    · rename_i hc
      cases hl
      simp only [Bool.and_eq_true, List.all_eq_true, decide_eq_true_eq, Bool.or_eq_true, List.contains_iff_mem] at hc
      obtain ⟨⟨⟨c1, c2⟩, c3⟩, c4⟩ := hc
      have lzb : bs.length = ws.length := by rw [← paired_len rb, Paired.length rz]
      have names : (kn.zip ws).map (·.1) = (kn.zip bs).map (·.1) := by
        have nm : ∀ {α : Type} (a : List Str) (b : List α), (a.zip b).map (·.1) = a.take b.length := by
          intro α a
          induction a with
          | nil => intro b; simp
          | cons x r ih =>
            intro b
            cases b with
            | nil => simp
            | cons y z => simp [ih z]
        rw [nm, nm, lzb]
      have inK : ∀ p ∈ kn.zip ws, ∃ q ∈ kn.zip bs, q.1 = p.1 := fun p hp => by
        have : p.1 ∈ (kn.zip bs).map (·.1) := by rw [← names]; exact List.mem_map.mpr ⟨p, hp, rfl⟩
        obtain ⟨q, hq, e⟩ := List.mem_map.mp this
        exact ⟨q, hq, e⟩
      intro A' Ex Q' hq
      have cnt : us.length ≤ ps.length ∨ fd.params.vararg.isSome = true := by
        cases q : fd.params.vararg with
        | some a => exact .inr rfl
        | none =>
          rw [q] at hb
          simp only [Option.isSome_none, Bool.false_eq_true, if_false] at hb
          split at hb
          · exact .inl (by omega)
          · cases hb
      -- the values of the parameters
      have val : ∀ x ∈ ps ++ ks.map (·.1), ∃ v, RelV v (((ps.zip us ++ kn.zip ws).lookup x).getD (dv x)) ∧ RepW g ρ S.length F H v (((ps.zip as ++ kn.zip bs).lookup x).getD (.d ((ks.lookup x).getD .non))) := fun x hx => by
        rcases look x with ⟨a, b⟩ | ⟨y, u, a, b, v, r1, r2⟩
        · rw [a, b]
          rcases List.mem_append.mp hx with hx | hx
          · have := c4 x hx
            rw [a] at this
            cases this
          · obtain ⟨p, hp, rfl⟩ := List.mem_map.mp hx
            obtain ⟨Da, v, _, _, d3, d4⟩ := df p hp
            refine ⟨v, d3, ?_⟩
            have e : ks.lookup p.1 = some p.2 := look_nodup nk hp
            rw [e]
            exact d4 F H
        · rw [a, b]
          exact ⟨v, r1, r2⟩
      obtain ⟨vs', rv', ra'⟩ := paired_pick _ val
      have pwE : (ps.map (fun n => ((ps.zip as ++ kn.zip bs).lookup n).getD (.d .non)) ++ ks.map fun p => ((ps.zip as ++ kn.zip bs).lookup p.1).getD (.d p.2)) = (ps ++ ks.map (·.1)).map fun x => ((ps.zip as ++ kn.zip bs).lookup x).getD (.d ((ks.lookup x).getD .non)) := by
        rw [List.map_append, List.map_map]
        congr 1
        · refine List.map_congr_left fun x hx => ?_
          have := c4 x hx
          cases q : (ps.zip as ++ kn.zip bs).lookup x with
          | none => rw [q] at this; cases this
          | some y => rfl
        · refine List.map_congr_left fun p hp => ?_
          simp only [Function.comp]
          rw [look_nodup nk hp]
          rfl
      have lvs : vs'.length = (ps ++ ks.map (·.1)).length := by rw [Paired.length rv', List.length_map]
      refine bind_gen (dv := dv) KX hp hk hd hps hks (fun p hp => ?_) (by rw [names]; exact c2) (fun p hp => ?_) cnt (fun n hn => ?_) nk (fun k hk => ?_) ?_
      · obtain ⟨q, hq, e⟩ := inK p hp
        rw [← e]
        exact c1 q hq
      · obtain ⟨q, hq, e⟩ := inK p hp
        have := c3 q hq
        rw [e] at this
        rcases look1 p.1 with ⟨_, b⟩ | ⟨y, u, a, b, _⟩
        · exact b
        · rw [a] at this; cases this
      · have := c4 n hn
        rcases look n with ⟨a, b⟩ | ⟨y, u, a, b, _⟩
        · rw [a] at this; cases this
        · rw [b]; rfl
      · obtain ⟨p, hp, rfl⟩ := List.mem_map.mp hk
        obtain ⟨Da, v, d1, d2, _⟩ := df p hp
        exact .inr ⟨Da, d1, d2⟩
      · cases qv : fd.params.vararg with
        | none =>
          rw [qv] at hb hq
          simp only [Option.isSome_none, Bool.false_eq_true, if_false] at hb
          split at hb
          · cases hb
            refine wpAny_pure ?_
            have := hq s H vs' _ e0 Un.refl rfl (fun _ _ z => z) rv' (by rw [lvs]; simp) ⟨F, Gr.refl, L, by rw [pwE]; exact ra'⟩
            simp only [Option.map_none, Option.toList_none, List.append_nil] at this
            rw [zip_maps] at this
            exact this
          · cases hb
        | some a =>
          rw [qv] at hb hq
          simp only [Option.isSome_some, if_true] at hb
          split at hb
          · rename_i ds hds
            split at hb
            · rename_i hlen
              cases hb
              have rd : RepWs g ρ S.length F H (vs.drop ps.length) (as.drop ps.length) := paired_drop _ ra
              rw [pureL_eq hds] at rd
              have rd := ws_reps rd
              have lv : (vs.drop ps.length).length = ds.length := reps_len rd
              have ru : Vals (vs.drop ps.length) (us.drop ps.length) := paired_drop _ rv
              have lu : (us.drop ps.length).length ≤ sizeLine := by
                rw [← Paired.length ru, lv]
                exact Nat.le_trans hlen (by decide)
              have hn : H s.heap.objs.size = none := e0.hok.fresh (Nat.le_refl _)
              refine wpAny_bind (wpAny_newTuple (wpAny_pure ?_) lu)
              have new : ObjOk P w (upd H s.heap.objs.size (.tup (vs.drop ps.length))) (s.heap.push ({ cls := .type "tuple", data := .seq (us.drop ps.length).toArray } : Obj)) s.heap.objs.size (.tup (vs.drop ps.length)) := ⟨by rw [lv]; exact Nat.le_trans hlen (by decide), us.drop ps.length, ru, _, Heap.get?_push_size _ rfl, rfl, _, rfl⟩
              have un := StX.un_laid (fs := frs outer) (s := s) (o := ({ cls := .type "tuple", data := .seq (us.drop ps.length).toArray } : Obj)) (u := .tup (vs.drop ps.length)) hn
              have zz := gr_frz (o := .tup (vs.drop ps.length)) L hn
              have := hq _ _ (vs' ++ [.ref s.heap.objs.size]) (_ ++ [.ref s.heap.objs.size]) (StX.env0_laid e0 new) un rfl (fun e s' => StX.cxUp outer s H _ _ E e s' un (fun b o q => Heap.get?_push_of_some _ q) rfl)
                (paired_app rv' (.cons (show RelV (V.ref s.heap.objs.size) (Value.ref s.heap.objs.size) from rfl) .nil)) (by rw [List.length_append, lvs, List.length_append (as := ps ++ ks.map (·.1))]; rfl) ⟨_, zz, rl_frz L hn, by
                  rw [pwE]
                  exact paired_app (ra'.mono zz) (.cons (show Rep g _ _ _ _ from .tup (.inr rfl) upd_same (rd.mono zz.fz)) .nil)⟩
              simp only [Option.map_some, Option.toList_some] at this
              rw [List.zip_append (by rw [List.length_map]), zip_maps] at this
              exact this
            · cases hb
          · cases hb
    · cases hl
  · cases hb
end
end Mi

namespace Mi
open PySem L2 PySem.Spec PyProof.Rows

/-! ### one list of the text's defs: what the head tells and what the run reads -/
inductive BK where
  | plain | gen (ks : List (Str × D))
structure E1 where
  at_ : Str × Option Str
  qual : Str
  st : Stmt
  bk : BK
  keep : Bool
  N : List Str
  box : List Str
def E1.name (e : E1) : Str := e.at_.2.getD e.at_.1
def E1.bm (e : E1) : BndM := match e.bk with
  | .plain => bndPlain ((L2.defArgs e.st).args.map (·.arg)).length
  | .gen ks => bndG ((L2.defArgs e.st).args.map (·.arg)) (L2.defArgs e.st).vararg.isSome ks
def E1.dd (e : E1) : He.DefD := ⟨e.at_, e.name, e.qual, L2.defArgs e.st, L2.defBody e.st, L2.defScope e.st, [], []⟩
def E1.info (e : E1) : FInfo := ⟨e.bm, e.keep, e.N, L2.defScope e.st, e.box, L2.defBody e.st⟩
def E1.ok (e : E1) : Bool := match e.bk with
  | .plain => plainB e.info (L2.defArgs e.st)
  | .gen ks => (L2.defArgs e.st).posonlyargs.isEmpty && (L2.defArgs e.st).kwarg.isNone && decide ((L2.defArgs e.st).kwonlyargs.map (·.arg) = ks.map (·.1)) && decide (ks.map (·.1)).Nodup && scopeB e.N ((L2.defArgs e.st).args.map (·.arg) ++ ks.map (·.1) ++ ((L2.defArgs e.st).vararg.map (·.arg)).toList) (L2.defScope e.st)
/-- the defaults stand in the written part -/
def kwV (K : PySem.W.Frag) (kV : Value) (k : Str) : Option Value := match kV with
  | .ref Da => (match PySem.W.nsIn K Da k with
    | some (some u) => some u
    | _ => none)
  | _ => none
theorem kwV_ok {K : PySem.W.Frag} {kV : Value} {k : Str} {u : Value} (h : kwV K kV k = some u) : ∃ Da, kV = .ref Da ∧ PySem.W.nsIn K Da k = some (some u) := by
  unfold kwV at h
  split at h
  · rename_i Da
    split at h
    · rename_i u' e
      cases h
      exact ⟨Da, rfl, e⟩
    · cases h
  · cases h
def kwO (K : PySem.W.Frag) (kV : Value) (p : Str × D) : Bool := match kwV K kV p.1 with
  | some u => repB K p.2 u
  | none => false
def kwB (K : PySem.W.Frag) (f : Addr) (ks : List (Str × D)) : Bool := match K.lookup f with
  | some ⟨_, _, .func fd, _⟩ => ks.all (kwO K fd.kwdefaults)
  | _ => false
def E1.kchk (K : PySem.W.Frag) (e : E1) : Bool := match e.bk with
  | .plain => true
  | .gen ks => kwB K (He.fAd K e.at_) ks
section
variable {P : Program} {w : World} {K : PySem.W.Frag} {mg : Str → Option Value} {base : Heap}
theorem E1.fdef {fn : List He.DefD} (c : He.SaysD [] fn K) {e : E1} (hm : e.dd ∈ fn) (h : e.ok = true) (hK : e.kchk K = true) : FDef (gx K) P w mg base e.info (He.fAd K e.at_) := by
  obtain ⟨fd, F⟩ := c.defs hm
  have F : FunD K e.name e.qual (L2.defArgs e.st) e.info.body e.info.scope [] [] (He.fAd K e.at_) fd := by
    have q := F
    simp only [E1.dd, He.DefD.dvs, He.DefD.kws, List.map_nil] at q
    exact q
  unfold E1.ok at h
  split at h
  · rename_i hb
    exact fdef_plain F h (by show e.bm = _; unfold E1.bm; rw [hb])
  · rename_i ks hb
    simp only [Bool.and_eq_true, decide_eq_true_eq] at h
    obtain ⟨⟨⟨⟨h1, h2⟩, h3⟩, h4⟩, h5⟩ := h
    obtain ⟨oc, od, dV, kV, doc, pm, an, cdv, ct, osl, rfl, lk, hcd, hd, _⟩ := F.ex
    rcases hd with ⟨_, rfl⟩ | ⟨z, _⟩
    · unfold E1.kchk at hK
      rw [hb] at hK
      have hK : kwB K (He.fAd K e.at_) ks = true := hK
      unfold kwB at hK
      rw [lk] at hK
      have hK : ks.all (kwO K kV) = true := hK
      refine ⟨e.name, e.qual, L2.defArgs e.st, .none, kV, doc, pm, cdv, ct, oc, an, od, osl, _, lk, hcd, scopeB_ok h5, ?_⟩
      rw [show e.info.bm = bndG ((L2.defArgs e.st).args.map (·.arg)) (L2.defArgs e.st).vararg.isSome ks from by show e.bm = _; unfold E1.bm; rw [hb]]
      refine bndG_ok (g := gx K) (fd := PySem.W.fnOf e.name e.qual (L2.defArgs e.st) e.info.body e.info.scope .none kV doc pm an cdv ct) (dv := fun k => (kwV K kV k).getD .none) (by simpa using h1) (by simpa using h2) rfl rfl h3 h4 fun p hp => ?_
      have z := List.all_eq_true.mp hK p hp
      unfold kwO at z
      split at z
      · rename_i u hu
        obtain ⟨Da, e1, e2⟩ := kwV_ok hu
        obtain ⟨v, r1, r2⟩ := repB_ok (g := gx K) z
        exact ⟨Da, v, e1, by rw [hu]; exact e2, by rw [hu]; exact r1, r2⟩
      · cases z
    · exact absurd rfl z
end
theorem mem_look {α β : Type} [BEq α] [LawfulBEq α] {a : α} {b : β} : ∀ {l : List (α × β)}, l.lookup a = some b → (a, b) ∈ l
  | [], h => by cases h
  | (k, v) :: r, h => by
    rw [List.lookup_cons] at h
    cases q : a == k with
    | true =>
      rw [q] at h
      cases h
      rw [eq_of_beq q]
      exact List.mem_cons_self ..
    | false =>
      rw [q] at h
      exact List.mem_cons_of_mem _ (mem_look h)
def esFns (es : List E1) (cl : List (Str × Bool)) : List (Str × Ent) := (es.filterMap fun e => match e.at_.2 with
  | none => some (e.at_.1, Ent.fn e.info)
  | some _ => none) ++ cl.map fun p => (p.1, Ent.cls p.2 p.1)
def esMts (es : List E1) : List ((Str × Str) × FInfo) := es.filterMap fun e => match e.at_.2 with
  | some m => some ((e.at_.1, m), e.info)
  | none => none
/-- what the written part must keep of classes and methods -/
def mtsB (K : PySem.W.Frag) (mts : List ((Str × Str) × FInfo)) (cl : List (Str × Bool)) : Bool := (mts.all fun p => (He.Fa.meth p.1.1 p.1.2).ok K && (He.Fa.cls p.1.1).ok K) && cl.all fun p => (He.Fa.mkr p.1).ok K && mts.any fun q => decide (q.1 = (p.1, ("__init__" : Str)))
theorem tab_of {P : Program} {w : World} {K : PySem.W.Frag} {mg : Str → Option Value} {base h : Heap} {T : Tables} {es : List E1} {cl : List (Str × Bool)} (X : K.In h) (N : h.Ns mainGlobals mg) (hf : T.fns = esFns es cl) (hm : T.mts = esMts es) (hk : T.chk K = true) (hs : mtsB K T.mts cl = true) (ho : es.all E1.ok = true) (hkw : es.all (E1.kchk K) = true) (c : He.SaysD [] (es.map E1.dd) K)
    (hx : ∀ x fs, T.xmkT.lookup x = some fs → mg x = some (.ref (He.ga K x)) ∧ XRaise P w K mg (He.ga K x) fs) : Tab (gx K) T.G T.own P w mg base T.fns T.mts := by
  have fd : ∀ {e : E1}, e ∈ es → FDef (gx K) P w mg base e.info (He.fAd K e.at_) := fun {e} he => E1.fdef c (List.mem_map.mpr ⟨e, he, rfl⟩) (List.all_eq_true.mp ho e he) (List.all_eq_true.mp hkw e he)
  have hk1 : T.G.all (gkB K) = true := by
    simp only [Tables.chk, Bool.and_eq_true] at hk
    exact hk.1.1.1.1.1.1.1.1
  unfold mtsB at hs
  simp only [Bool.and_eq_true] at hs
  have own : ∀ x, (x, true) ∈ ownNames T.G → (He.Fa.glo x).ok K = true ∧ PySem.W.keepIn K (.ref (He.ga K x)) = true := fun x hx => by
    unfold ownNames at hx
    obtain ⟨p, hp, e⟩ := List.mem_filterMap.mp hx
    split at e
    · rename_i q
      cases e
      have z := List.all_eq_true.mp hk1 p hp
      unfold gkB at z
      rw [q] at z
      simp only [Bool.and_eq_true] at z
      exact z
    · cases e
  refine ⟨fun x hx => ?_, fun cn m h => ?_, fun cn m h => ?_, fun x fs h => hx x fs h⟩
  · obtain ⟨o1, o2⟩ := own x hx
    refine ⟨He.ga K x, He.glo_ok X N o1, o2, ?_⟩
    cases e : T.fns.lookup x with
    | none => trivial
    | some en =>
      have hme := mem_look e
      rw [hf] at hme
      unfold esFns at hme
      rcases List.mem_append.mp hme with hme | hme
      · obtain ⟨q, hq, e2⟩ := List.mem_filterMap.mp hme
        split at e2
        · rename_i hn
          cases e2
          have := fd hq
          unfold He.fAd at this
          rw [hn] at this
          exact this
        · cases e2
      · obtain ⟨q, hq, e2⟩ := List.mem_map.mp hme
        cases e2
        have z := List.all_eq_true.mp hs.2 q hq
        rw [Bool.and_eq_true] at z
        obtain ⟨r, hr, e3⟩ := List.any_eq_true.mp z.2
        refine ⟨rfl, List.mem_map.mpr ⟨r, hr, of_decide_eq_true e3⟩, fun fi M => mk_meth (He.mkr_ok z.1) M⟩
  · obtain ⟨p, hp, e⟩ := List.mem_map.mp h
    have z := List.all_eq_true.mp hs.1 p hp
    rw [Bool.and_eq_true, e] at z
    refine ⟨_, He.meth_ok z.1, ?_⟩
    cases e2 : T.mts.lookup (cn, m) with
    | none => trivial
    | some i =>
      have hme := mem_look e2
      rw [hm] at hme
      unfold esMts at hme
      obtain ⟨q, hq, e3⟩ := List.mem_filterMap.mp hme
      split at e3
      · rename_i m' hn
        cases e3
        have := fd hq
        unfold He.fAd at this
        rw [hn] at this
        exact this
      · cases e3
  · obtain ⟨p, hp, e⟩ := List.mem_map.mp h
    have z := List.all_eq_true.mp hs.1 p hp
    rw [Bool.and_eq_true, e] at z
    exact He.cls_ok z.2
end Mi

namespace Mi
open PySem L2

/-! ### the text of a def without its places: names are slots -/
inductive Tg where
  | nm (i : Nat) | tup (is : List Nat)
mutual
inductive IE where
  | nm (i : Nat) | cst (d : D) | bin (op : Operator) (a b : IE) | no (a : IE) | neg (a : IE)
  | cmp (k : Bool) (op : CmpOp) (a b : IE) | chain (o1 o2 : CmpOp) (a b d : IE) | and (a b : IE) | or (a b : IE) | ife (t : IT) (a b : IE)
  | ix (a b : IE) | sl (a : IE) (lo hi : IO) | tup (es : IA) | lst (es : IA) | box (es : IA)
  | comp (bx : Bool) (tg : Tg) (wp : List Nat) (it : II) (t : IT) (e : IE)
  | call (f : Str) (as : IA) (ks : List Str) (bs : IA) | isi (ks : List Kd) (a : IE) | bi (k : Bool) (id : String) (as : IA) | lens (a : IE) | rpr (as : IA)
  | ty (T : String) (as : IA) | bty (T : String) (as : IA)
  | mt (o : IE) (m : Str) (as : IA) (ks : List Str) (bs : IA) | lm (o : IE) (id : String) (as : IA) | fld (o : IE) (f : Str)
inductive IT where
  | no (a : IT) | and (a b : IT) | or (a b : IT) | cmp (k : Bool) (op : CmpOp) (a b : IE) | chain (o1 o2 : CmpOp) (a b d : IE) | tru (e : IE) | yes
inductive IA where
  | nil | cons (e : IE) (r : IA) | star (e : IE) (r : IA)
inductive IO where
  | non | som (e : IE)
inductive II where
  | rng (e : IE) | it (e : IE)
end
mutual
inductive IS where
  | expr (e : IE) | set (i : Nat) (e : IE) | asg (tg : Tg) (e : IE) | par (is : List Nat) (es : IA) | putix (e o i : IE) | putf (e o : IE) (f : Str)
  | ret (e : IE) | ret0 | pass | brk | cont | ife (t : IT) (a b : ISs) | loop (tg : Tg) (it : II) (body : ISs) | whil (t : IT) (body : ISs)
  | raise (x : Str) (fs : List Str) (as : IA) | tri (body : ISs) (hs : IH)
inductive ISs where
  | nil | cons (s : IS) (r : ISs)
inductive IH where
  | nil | cons (k : Kd) (i : Option Nat) (su : ISs) (r : IH)
end
def asgIs : List Nat → List W → EnvM → Option EnvM
  | [], [], env => some env
  | i :: is, w :: ws, env => asgIs is ws (env.set i (some w))
  | _, _, _ => none
def tgW : Tg → W → EnvM → Option EnvM
  | .nm i, w, env => some (env.set i (some w))
  | .tup is, .d (.tup ds), env => asgIs is (ds.map W.d) env
  | .tup is, .d (.lst ds), env => asgIs is (ds.map W.d) env
  | _, _, _ => none
def getS (i : Nat) (env : EnvM) (S : Store) : R W := match env[i]? with
  | some (some w) => .ok w S
  | _ => .bad

/-! what stands behind a piece, by names -/
def fBin (op : Operator) (g : Store → R W) (x : W) (S : Store) : R W := (g S).bind (binW op x)
def fNo (b : Bool) (S : Store) : R W := .ok (.d (.bl !b)) S
def fCmp (ow : Own) (k : Bool) (op : CmpOp) (g : Store → R W) (x : W) (S : Store) : R W := (g S).bind (cmpX ow k op x)
def fCh3 (o2 : CmpOp) (g3 : Store → R W) (y k : W) (S : Store) : R W := match k with
  | .d (.bl true) => (g3 S).bind fun z S4 => cmpW o2 y z S4
  | .d (.bl false) => .ok (.d (.bl false)) S
  | _ => .bad
def fCh2 (o1 o2 : CmpOp) (g3 : Store → R W) (x y : W) (S : Store) : R W := (cmpW o1 x y S).bind (fCh3 o2 g3 y)
def fCh1 (o1 o2 : CmpOp) (g2 g3 : Store → R W) (x : W) (S : Store) : R W := (g2 S).bind (fCh2 o1 o2 g3 x)
def fAndE (k : Store → R W) (w : W) (S : Store) : R W := match truW S w with
  | some true => k S
  | some false => .ok w S
  | none => .bad
def fOrE (k : Store → R W) (w : W) (S : Store) : R W := match truW S w with
  | some true => .ok w S
  | some false => k S
  | none => .bad
def fIf {α : Type} (f g : Store → α) (k : Bool) (S : Store) : α := if k then f S else g S
def fNeg (w : W) (S : Store) : R W := match w with
  | .d (.int i) => .ok (.d (.int (-i))) S
  | _ => .bad
def fIx (g : Store → R W) (x : W) (S : Store) : R W := (g S).bind (ixW x)
def fSl2 (hi : Store → R (Option Int)) (x : W) (l : Option Int) (S : Store) : R W := (hi S).bind (slW x l)
def fSl (lo hi : Store → R (Option Int)) (x : W) (S : Store) : R W := (lo S).bind (fSl2 hi x)
def fCall2 (ow : Own) (f : Str) (ks : List Str) (xs ys : List W) (S : Store) : R W := ow.fn f xs (ks.zip ys) S
def fCall (ow : Own) (f : Str) (ks : List Str) (fb : Store → R (List W)) (xs : List W) (S : Store) : R W := (fb S).bind (fCall2 ow f ks xs)
def fMt2 (ow : Own) (cn m : Str) (w : W) (ks : List Str) (xs ys : List W) (S : Store) : R W := ow.mt cn m (w :: xs) (ks.zip ys) S
def fMt (ow : Own) (cn m : Str) (w : W) (ks : List Str) (fb : Store → R (List W)) (xs : List W) (S : Store) : R W := (fb S).bind (fMt2 ow cn m w ks xs)
def mtC (ow : Own) (m : Str) (fa : Store → R (List W)) (ks : List Str) (fb : Store → R (List W)) (w : W) (S0 : Store) : R W := if isLst S0 w then (match ks, mtName m with
      | [], some id => (fa S0).bind (mtW id w)
      | _, _ => .bad)
    else match mtOwn ow m w S0 with
      | some cn => (fa S0).bind (fMt ow cn m w ks fb)
      | none => .bad
def fLm (id : String) (fa : Store → R (List W)) (w : W) (S0 : Store) : R W := if isLst S0 w then (fa S0).bind (mtW id w) else .bad
def fCons2 (w : W) (ws : List W) (S : Store) : R (List W) := .ok (w :: ws) S
def fCons (g : Store → R (List W)) (w : W) (S : Store) : R (List W) := (g S).bind (fCons2 w)
def fComp (bx : Bool) (tg : Tg) (mt : EnvM → Store → R Bool) (me : EnvM → Store → R W) (env : EnvM) (ws : List W) (S1 : Store) : R W :=
  compFin bx S1.length (compL (fun _ => tgW tg) mt me env S1.length ws (S1 ++ [.lst []]))
def fNot (b : Bool) (S : Store) : R Bool := .ok (!b) S
def fAnd (g : Store → R Bool) (k : Bool) (S : Store) : R Bool := if k then g S else .ok false S
def fOr (g : Store → R Bool) (k : Bool) (S : Store) : R Bool := if k then .ok true S else g S
def fRng1 (w : W) (S : Store) : R (List W) := (R.ok [] S).bind (fCons2 w)
def fRng (ws : List W) (S : Store) : R (List W) := match ws with
  | [.d (.int j)] => if j ≤ 100000 ∧ -100000 ≤ j then .ok (intsW 0 j.toNat) S else .bad
  | _ => .bad
mutual
def evE (ow : Own) : IE → EnvM → Store → R W
  | .nm i, env, S => getS i env S
  | .cst d, _, S => .ok (.d d) S
  | .bin op a b, env, S => (evE ow a env S).bind (fBin op (evE ow b env))
  | .no a, env, S => (truR (evE ow a env S)).bind fNo
  | .neg a, env, S => (evE ow a env S).bind fNeg
  | .cmp k op a b, env, S => (evE ow a env S).bind (fCmp ow k op (evE ow b env))
  | .chain o1 o2 a b d, env, S => (evE ow a env S).bind (fCh1 o1 o2 (evE ow b env) (evE ow d env))
  | .and a b, env, S => (evE ow a env S).bind (fAndE (evE ow b env))
  | .or a b, env, S => (evE ow a env S).bind (fOrE (evE ow b env))
  | .ife t a b, env, S => (evT ow t env S).bind (fIf (evE ow a env) (evE ow b env))
  | .ix a b, env, S => (evE ow a env S).bind (fIx (evE ow b env))
  | .sl a lo hi, env, S => (evE ow a env S).bind (fSl (evO ow lo env) (evO ow hi env))
  | .tup es, env, S => (evA ow es env S).bind tupOf
  | .lst es, env, S => (evA ow es env S).bind lstOf
  | .box es, env, S => (evA ow es env S).bind boxOf
  | .comp bx tg wp it t e, env, S => (evI ow it env S).bind (fComp bx tg (evT ow t) (evE ow e) (wipeM env wp))
  | .call f as ks bs, env, S => (evA ow as env S).bind (fCall ow f ks (evA ow bs env))
  | .isi ks a, env, S => (evE ow a env S).bind (isiM ow ks)
  | .bi k id as, env, S => (evA ow as env S).bind (callB k id)
  | .lens a, env, S => (evE ow a env S).bind lenSetM
  | .rpr as, env, S => (evA ow as env S).bind reprM
  | .ty T as, env, S => (evA ow as env S).bind (callTy T)
  | .bty T as, env, S => (evA ow as env S).bind (boxTy T)
  | .mt o m as ks bs, env, S => (evE ow o env S).bind (mtC ow m (evA ow as env) ks (evA ow bs env))
  | .lm o id as, env, S => (evE ow o env S).bind (fLm id (evA ow as env))
  | .fld o f, env, S => (evE ow o env S).bind (fldX ow f)
def evT (ow : Own) : IT → EnvM → Store → R Bool
  | .no a, env, S => (evT ow a env S).bind fNot
  | .and a b, env, S => (evT ow a env S).bind (fAnd (evT ow b env))
  | .or a b, env, S => (evT ow a env S).bind (fOr (evT ow b env))
  | .cmp k op a b, env, S => asBool ((evE ow a env S).bind (fCmp ow k op (evE ow b env)))
  | .chain o1 o2 a b d, env, S => asBool ((evE ow a env S).bind (fCh1 o1 o2 (evE ow b env) (evE ow d env)))
  | .tru e, env, S => truR (evE ow e env S)
  | .yes, _, S => .ok true S
def evA (ow : Own) : IA → EnvM → Store → R (List W)
  | .nil, _, S => .ok [] S
  | .cons e r, env, S => (evE ow e env S).bind (fCons (evA ow r env))
  | .star e r, env, S => (evE ow e env S).bind (fStar (evA ow r env))
def evO (ow : Own) : IO → EnvM → Store → R (Option Int)
  | .non, _, S => .ok none S
  | .som e, env, S => partOf (evE ow e env S)
def evI (ow : Own) : II → EnvM → Store → R (List W)
  | .rng e, env, S => ((evE ow e env S).bind fRng1).bind fRng
  | .it e, env, S => iterV (evE ow e env S)
end
/-! statements -/
def nextE (S : Store) : Option EnvM → RS
  | some env => .next env S
  | none => .bad
def nextS (env : EnvM) : Option Store → RS
  | some S => .next env S
  | none => .bad
def kNext (env : EnvM) (_ : W) (S : Store) : RS := .next env S
def kSet (env : EnvM) (i : Nat) (w : W) (S : Store) : RS := .next (env.set i (some w)) S
def kAsg (env : EnvM) (tg : Tg) (w : W) (S : Store) : RS := nextE S (tgW tg w env)
def kPar (env : EnvM) (is : List Nat) (ws : List W) (S : Store) : RS := nextE S (putAllM env is ws)
def kPut3 (env : EnvM) (w x y : W) (S : Store) : RS := nextS env (putIx x y w S)
def kPut2 (env : EnvM) (gi : Store → R W) (w x : W) (S : Store) : RS := RS.ofR env (gi S) (kPut3 env w x)
def kPut (env : EnvM) (go gi : Store → R W) (w : W) (S : Store) : RS := RS.ofR env (go S) (kPut2 env gi w)
def kFld2 (ow : Own) (env : EnvM) (f : Str) (w x : W) (S : Store) : RS := nextS env (putFld ow f x w S)
def kFld (ow : Own) (env : EnvM) (f : Str) (go : Store → R W) (w : W) (S : Store) : RS := RS.ofR env (go S) (kFld2 ow env f w)
def kRet (w : W) (S : Store) : RS := .ret w S
def kFor (env : EnvM) (tg : Tg) (body : EnvM → Store → RS) (ws : List W) (S : Store) : RS := forL (fun _ => tgW tg) body ws env S
def kBad (_ : W) (_ : Store) : RS := .bad
def triS (r : RS) (h : Str → List (Str × D) → EnvM → Store → RS) : RS := match r with
  | .exc cn fs env' S' => h cn fs env' S'
  | q => q
def asEnv (i : Option Nat) (w : W) (env : EnvM) : EnvM := match i with
  | some i => env.set i (some w)
  | none => env
def fHd (ow : Own) (cn : Str) (i : Option Nat) (su : EnvM → Store → RS) (fs : List (Str × D)) (env : EnvM) (S : Store) : RS := if ow.xcs.contains cn then ((su (asEnv i (.x cn fs) env) S).nox).unname i else .bad
mutual
def evS (ow : Own) : IS → EnvM → Store → RS
  | .expr e, env, S => RS.ofR env (evE ow e env S) (kNext env)
  | .set i e, env, S => RS.ofR env (evE ow e env S) (kSet env i)
  | .asg tg e, env, S => RS.ofR env (evE ow e env S) (kAsg env tg)
  | .par is es, env, S => RS.ofR env (evA ow es env S) (kPar env is)
  | .putix e o i, env, S => RS.ofR env (evE ow e env S) (kPut env (evE ow o env) (evE ow i env))
  | .putf e o f, env, S => RS.ofR env (evE ow e env S) (kFld ow env f (evE ow o env))
  | .ret e, env, S => RS.ofR env (evE ow e env S) kRet
  | .ret0, _, S => .ret (.d .non) S
  | .pass, env, S => .next env S
  | .brk, env, S => .brk env S
  | .cont, env, S => .cont env S
  | .ife t a b, env, S => RS.ofR env (evT ow t env S) (fIf (evSs ow a env) (evSs ow b env))
  | .loop tg it body, env, S => RS.ofR env (evI ow it env S) (kFor env tg (evSs ow body))
  | .whil t body, env, S => whileL (evT ow t) (evSs ow body) 1000000 env S
  | .raise x fs as, env, S => RS.ofR env ((evA ow as env S).bind (excM x fs)) kBad
  | .tri body hs, env, S => triS (evSs ow body env S) (evH ow hs)
def evSs (ow : Own) : ISs → EnvM → Store → RS
  | .nil, env, S => .next env S
  | .cons s r, env, S => (evS ow s env S).seq (evSs ow r)
def evH (ow : Own) : IH → Str → List (Str × D) → EnvM → Store → RS
  | .nil, cn, fs, env, S => .exc cn fs env S
  | .cons k i su r, cn, fs, env, S => match ow.exm cn k with
      | some true => fHd ow cn i (evSs ow su) fs env S
      | some false => evH ow r cn fs env S
      | none => .bad
end
/-- a def -/
structure FI where
  bm : BndM
  keep : Bool
  n : Nat
  body : ISs
def startI (n : Nat) (pw : List W) : EnvM := pw.map some ++ List.replicate (n - pw.length) none
def evF (ow : Own) (f : FI) (as : List W) (kws : List (Str × W)) (S : Store) : R W := match f.bm as kws with
  | some pw => finM f.keep S.length (evSs ow f.body (startI f.n pw) S)
  | none => .bad
end Mi

namespace Mi
open PySem L2

/-! ### rules of the run -/
section
variable {α β : Type}
theorem b_ok (a : α) (S : Store) (f : α → Store → R β) : (R.ok a S).bind f = f a S := rfl
theorem b_exc (c : Str) (fs : List (Str × D)) (S : Store) (f : α → Store → R β) : (R.exc c fs S : R α).bind f = .exc c fs S := rfl
theorem b_bad (f : α → Store → R β) : (R.bad : R α).bind f = .bad := rfl
theorem b_ite {p : Prop} [Decidable p] (a b : R α) (f : α → Store → R β) : (if p then a else b).bind f = if p then a.bind f else b.bind f := by split <;> rfl
theorem o_ok (env : EnvM) (a : α) (S : Store) (k : α → Store → RS) : RS.ofR env (.ok a S) k = k a S := rfl
theorem o_exc (env : EnvM) (c : Str) (fs : List (Str × D)) (S : Store) (k : α → Store → RS) : RS.ofR env (.exc c fs S) k = .exc c fs env S := rfl
theorem o_ite {p : Prop} [Decidable p] (env : EnvM) (a b : R α) (k : α → Store → RS) : RS.ofR env (if p then a else b) k = if p then RS.ofR env a k else RS.ofR env b k := by split <;> rfl
theorem s_next (e : EnvM) (S : Store) (k : EnvM → Store → RS) : (RS.next e S).seq k = k e S := rfl
theorem s_ret (w : W) (S : Store) (k : EnvM → Store → RS) : (RS.ret w S).seq k = .ret w S := rfl
theorem s_exc (c : Str) (fs : List (Str × D)) (e : EnvM) (S : Store) (k : EnvM → Store → RS) : (RS.exc c fs e S).seq k = .exc c fs e S := rfl
theorem s_brk (e : EnvM) (S : Store) (k : EnvM → Store → RS) : (RS.brk e S).seq k = .brk e S := rfl
theorem s_cont (e : EnvM) (S : Store) (k : EnvM → Store → RS) : (RS.cont e S).seq k = .cont e S := rfl
theorem s_ite {p : Prop} [Decidable p] (a b : RS) (k : EnvM → Store → RS) : (if p then a else b).seq k = if p then a.seq k else b.seq k := by split <;> rfl
theorem ab_ok (b : Bool) (S : Store) : asBool (.ok (.d (.bl b)) S) = .ok b S := rfl
theorem tr_bl (b : Bool) (S : Store) : truR (.ok (.d (.bl b)) S) = .ok b S := rfl
end
/-- the store's words stand within it -/
def WF (S : Store) : Prop := S.all (Cell.below S.length) = true
theorem cut_self {S : Store} (h : WF S) : cutTo S.length S = some S := by
  unfold cutTo
  rw [List.take_length]
  exact if_pos h
theorem cut_app {S T : Store} (h : WF S) : cutTo S.length (S ++ T) = some S := by
  unfold cutTo
  rw [List.take_left]
  exact if_pos h
theorem W.below_le {m n : Nat} (h : m ≤ n) {w : W} (b : w.below m = true) : w.below n = true := by
  cases w with
  | o i => exact decide_eq_true (Nat.lt_of_lt_of_le (of_decide_eq_true b) h)
  | _ => rfl
theorem Cell.below_le {m n : Nat} (h : m ≤ n) {c : Cell} (b : c.below m = true) : c.below n = true := by
  cases c with
  | lst ws => exact List.all_eq_true.mpr fun w hw => W.below_le h (List.all_eq_true.mp b w hw)
  | ins c fs => exact List.all_eq_true.mpr fun w hw => W.below_le h (List.all_eq_true.mp b w hw)
  | dead => rfl
theorem wf_nil : WF [] := rfl
theorem wf_app {S : Store} {c : Cell} (h : WF S) (hc : c.below (S.length + 1) = true) : WF (S ++ [c]) := by
  unfold WF at *
  rw [List.length_append, List.all_append, Bool.and_eq_true]
  exact ⟨List.all_eq_true.mpr fun x hx => Cell.below_le (Nat.le_add_right _ _) (List.all_eq_true.mp h x hx), by simpa using hc⟩
theorem wf_set {S : Store} {c : Cell} {i : Nat} (h : WF S) (hc : c.below S.length = true) : WF (S.set i c) := by
  unfold WF at *
  rw [List.length_set]
  refine List.all_eq_true.mpr fun x hx => ?_
  rcases List.mem_or_eq_of_mem_set hx with hx | hx
  · exact List.all_eq_true.mp h x hx
  · rw [hx]; exact hc
theorem pure_below (n : Nat) (ds : List D) : (Cell.lst (ds.map W.d)).below n = true := by
  show (ds.map W.d).all (W.below n) = true
  rw [List.all_map]
  exact List.all_eq_true.mpr fun x _ => rfl
/-- the ends of a def -/
theorem finW_d {S S1 : Store} {n : Nat} (h : cutTo n S = some S1) (keep : Bool) (x : D) : finW keep n (.d x) S = .ok (.d x) S1 := by
  unfold finW
  rw [h]
theorem fin_dT {S T : Store} (h : WF S) (keep : Bool) (x : D) : finM keep S.length (.ret (.d x) (S ++ T)) = .ok (.d x) S :=
  (if_pos (by simp)).trans (finW_d (cut_app h) keep x)
theorem fin_d {S : Store} (h : WF S) (keep : Bool) (x : D) : finM keep S.length (.ret (.d x) S) = .ok (.d x) S :=
  (if_pos (Nat.le_refl _)).trans (finW_d (cut_self h) keep x)
theorem fin_n {S : Store} (h : WF S) (keep : Bool) (e : EnvM) : finM keep S.length (.next e S) = .ok (.d .non) S :=
  (if_pos (Nat.le_refl _)).trans (finW_d (cut_self h) keep .non)
theorem fin_nT {S T : Store} (h : WF S) (keep : Bool) (e : EnvM) : finM keep S.length (.next e (S ++ T)) = .ok (.d .non) S :=
  (if_pos (by simp)).trans (finW_d (cut_app h) keep .non)
theorem fin_xT {S T : Store} (h : WF S) (keep : Bool) (c : Str) (fs : List (Str × D)) (e : EnvM) : finM keep S.length (.exc c fs e (S ++ T)) = .exc c fs S := by
  refine (if_pos (by simp)).trans ?_
  rw [cut_app h]
theorem fin_x {S : Store} (h : WF S) (keep : Bool) (c : Str) (fs : List (Str × D)) (e : EnvM) : finM keep S.length (.exc c fs e S) = .exc c fs S := by
  refine (if_pos (Nat.le_refl _)).trans ?_
  rw [cut_self h]
theorem fin_nL {S : Store} {n : Nat} (hl : S.length = n) (h : WF S) (keep : Bool) (e : EnvM) : finM keep n (.next e S) = .ok (.d .non) S := hl ▸ fin_n h keep e
theorem fin_dL {S : Store} {n : Nat} (hl : S.length = n) (h : WF S) (keep : Bool) (x : D) : finM keep n (.ret (.d x) S) = .ok (.d x) S := hl ▸ fin_d h keep x
theorem fin_xL {S : Store} {n : Nat} (hl : S.length = n) (h : WF S) (keep : Bool) (c : Str) (fs : List (Str × D)) (e : EnvM) : finM keep n (.exc c fs e S) = .exc c fs S := hl ▸ fin_x h keep c fs e
theorem pureL_d : ∀ ds : List D, pureL (ds.map W.d) = some ds
  | [] => rfl
  | x :: r => by
    show (pureL (r.map W.d)).map (x :: ·) = _
    rw [pureL_d r]; rfl
/-- a new list is handed back, frozen -/
theorem fin_o {S : Store} (h : WF S) (ds : List D) (T : Store) : finM false S.length (.ret (.o S.length) (S ++ .lst (ds.map W.d) :: T)) = .ok (.d (.lst ds)) S := by
  refine (if_pos (by simp)).trans ?_
  unfold finW
  rw [cut_app h]
  simp [cellD, pureL_d]
/-! ### pieces -/
theorem eE_nm {ow : Own} {i : Nat} {env : EnvM} {S : Store} : evE ow (.nm i) env S = getS i env S := rfl
theorem eE_cst {ow : Own} {d : D} {env : EnvM} {S : Store} : evE ow (.cst d) env S = .ok (.d d) S := rfl
theorem eE_bin {ow : Own} {op : Operator} {a : IE} {b : IE} {env : EnvM} {S : Store} : evE ow (.bin op a b) env S = (evE ow a env S).bind (fBin op (evE ow b env)) := rfl
theorem eE_no {ow : Own} {a : IE} {env : EnvM} {S : Store} : evE ow (.no a) env S = (truR (evE ow a env S)).bind fNo := rfl
theorem eE_neg {ow : Own} {a : IE} {env : EnvM} {S : Store} : evE ow (.neg a) env S = (evE ow a env S).bind fNeg := rfl
theorem eE_cmp {ow : Own} {k : Bool} {op : CmpOp} {a : IE} {b : IE} {env : EnvM} {S : Store} : evE ow (.cmp k op a b) env S = (evE ow a env S).bind (fCmp ow k op (evE ow b env)) := rfl
theorem eE_chain {ow : Own} {o1 : CmpOp} {o2 : CmpOp} {a : IE} {b : IE} {d : IE} {env : EnvM} {S : Store} : evE ow (.chain o1 o2 a b d) env S = (evE ow a env S).bind (fCh1 o1 o2 (evE ow b env) (evE ow d env)) := rfl
theorem eE_and {ow : Own} {a : IE} {b : IE} {env : EnvM} {S : Store} : evE ow (.and a b) env S = (evE ow a env S).bind (fAndE (evE ow b env)) := rfl
theorem eE_or {ow : Own} {a : IE} {b : IE} {env : EnvM} {S : Store} : evE ow (.or a b) env S = (evE ow a env S).bind (fOrE (evE ow b env)) := rfl
theorem eE_ife {ow : Own} {t : IT} {a : IE} {b : IE} {env : EnvM} {S : Store} : evE ow (.ife t a b) env S = (evT ow t env S).bind (fIf (evE ow a env) (evE ow b env)) := rfl
theorem eE_ix {ow : Own} {a : IE} {b : IE} {env : EnvM} {S : Store} : evE ow (.ix a b) env S = (evE ow a env S).bind (fIx (evE ow b env)) := rfl
theorem eE_sl {ow : Own} {a : IE} {lo : IO} {hi : IO} {env : EnvM} {S : Store} : evE ow (.sl a lo hi) env S = (evE ow a env S).bind (fSl (evO ow lo env) (evO ow hi env)) := rfl
theorem eE_tup {ow : Own} {es : IA} {env : EnvM} {S : Store} : evE ow (.tup es) env S = (evA ow es env S).bind tupOf := rfl
theorem eE_lst {ow : Own} {es : IA} {env : EnvM} {S : Store} : evE ow (.lst es) env S = (evA ow es env S).bind lstOf := rfl
theorem eE_box {ow : Own} {es : IA} {env : EnvM} {S : Store} : evE ow (.box es) env S = (evA ow es env S).bind boxOf := rfl
theorem eE_comp {ow : Own} {bx : Bool} {tg : Tg} {wp : List Nat} {it : II} {t : IT} {e : IE} {env : EnvM} {S : Store} : evE ow (.comp bx tg wp it t e) env S = (evI ow it env S).bind (fComp bx tg (evT ow t) (evE ow e) (wipeM env wp)) := rfl
theorem eE_call {ow : Own} {f : Str} {as : IA} {ks : List Str} {bs : IA} {env : EnvM} {S : Store} : evE ow (.call f as ks bs) env S = (evA ow as env S).bind (fCall ow f ks (evA ow bs env)) := rfl
theorem eE_isi {ow : Own} {ks : List Kd} {a : IE} {env : EnvM} {S : Store} : evE ow (.isi ks a) env S = (evE ow a env S).bind (isiM ow ks) := rfl
theorem eE_bi {ow : Own} {k : Bool} {id : String} {as : IA} {env : EnvM} {S : Store} : evE ow (.bi k id as) env S = (evA ow as env S).bind (callB k id) := rfl
theorem eE_lens {ow : Own} {a : IE} {env : EnvM} {S : Store} : evE ow (.lens a) env S = (evE ow a env S).bind lenSetM := rfl
theorem eE_rpr {ow : Own} {as : IA} {env : EnvM} {S : Store} : evE ow (.rpr as) env S = (evA ow as env S).bind reprM := rfl
theorem eE_ty {ow : Own} {T : String} {as : IA} {env : EnvM} {S : Store} : evE ow (.ty T as) env S = (evA ow as env S).bind (callTy T) := rfl
theorem eE_bty {ow : Own} {T : String} {as : IA} {env : EnvM} {S : Store} : evE ow (.bty T as) env S = (evA ow as env S).bind (boxTy T) := rfl
theorem eE_mt {ow : Own} {o : IE} {m : Str} {as : IA} {ks : List Str} {bs : IA} {env : EnvM} {S : Store} : evE ow (.mt o m as ks bs) env S = (evE ow o env S).bind (mtC ow m (evA ow as env) ks (evA ow bs env)) := rfl
theorem eE_lm {ow : Own} {o : IE} {id : String} {as : IA} {env : EnvM} {S : Store} : evE ow (.lm o id as) env S = (evE ow o env S).bind (fLm id (evA ow as env)) := rfl
theorem eE_fld {ow : Own} {o : IE} {f : Str} {env : EnvM} {S : Store} : evE ow (.fld o f) env S = (evE ow o env S).bind (fldX ow f) := rfl
theorem eT_no {ow : Own} {a : IT} {env : EnvM} {S : Store} : evT ow (.no a) env S = (evT ow a env S).bind fNot := rfl
theorem eT_and {ow : Own} {a : IT} {b : IT} {env : EnvM} {S : Store} : evT ow (.and a b) env S = (evT ow a env S).bind (fAnd (evT ow b env)) := rfl
theorem eT_or {ow : Own} {a : IT} {b : IT} {env : EnvM} {S : Store} : evT ow (.or a b) env S = (evT ow a env S).bind (fOr (evT ow b env)) := rfl
theorem eT_cmp {ow : Own} {k : Bool} {op : CmpOp} {a : IE} {b : IE} {env : EnvM} {S : Store} : evT ow (.cmp k op a b) env S = asBool ((evE ow a env S).bind (fCmp ow k op (evE ow b env))) := rfl
theorem eT_chain {ow : Own} {o1 : CmpOp} {o2 : CmpOp} {a : IE} {b : IE} {d : IE} {env : EnvM} {S : Store} : evT ow (.chain o1 o2 a b d) env S = asBool ((evE ow a env S).bind (fCh1 o1 o2 (evE ow b env) (evE ow d env))) := rfl
theorem eT_tru {ow : Own} {e : IE} {env : EnvM} {S : Store} : evT ow (.tru e) env S = truR (evE ow e env S) := rfl
theorem eT_yes {ow : Own}  {env : EnvM} {S : Store} : evT ow (.yes) env S = .ok true S := rfl
theorem eA_nil {ow : Own}  {env : EnvM} {S : Store} : evA ow (.nil) env S = .ok [] S := rfl
theorem eA_star {ow : Own} {e : IE} {r : IA} {env : EnvM} {S : Store} : evA ow (.star e r) env S = (evE ow e env S).bind (fStar (evA ow r env)) := rfl
theorem eA_cons {ow : Own} {e : IE} {r : IA} {env : EnvM} {S : Store} : evA ow (.cons e r) env S = (evE ow e env S).bind (fCons (evA ow r env)) := rfl
theorem eO_non {ow : Own}  {env : EnvM} {S : Store} : evO ow (.non) env S = .ok none S := rfl
theorem eO_som {ow : Own} {e : IE} {env : EnvM} {S : Store} : evO ow (.som e) env S = partOf (evE ow e env S) := rfl
theorem eI_rng {ow : Own} {e : IE} {env : EnvM} {S : Store} : evI ow (.rng e) env S = ((evE ow e env S).bind fRng1).bind fRng := rfl
theorem eI_it {ow : Own} {e : IE} {env : EnvM} {S : Store} : evI ow (.it e) env S = iterV (evE ow e env S) := rfl
theorem eS_expr {ow : Own} {e : IE} {env : EnvM} {S : Store} : evS ow (.expr e) env S = RS.ofR env (evE ow e env S) (kNext env) := rfl
theorem eS_set {ow : Own} {i : Nat} {e : IE} {env : EnvM} {S : Store} : evS ow (.set i e) env S = RS.ofR env (evE ow e env S) (kSet env i) := rfl
theorem eS_asg {ow : Own} {tg : Tg} {e : IE} {env : EnvM} {S : Store} : evS ow (.asg tg e) env S = RS.ofR env (evE ow e env S) (kAsg env tg) := rfl
theorem eS_par {ow : Own} {is : List Nat} {es : IA} {env : EnvM} {S : Store} : evS ow (.par is es) env S = RS.ofR env (evA ow es env S) (kPar env is) := rfl
theorem eS_putix {ow : Own} {e : IE} {o : IE} {i : IE} {env : EnvM} {S : Store} : evS ow (.putix e o i) env S = RS.ofR env (evE ow e env S) (kPut env (evE ow o env) (evE ow i env)) := rfl
theorem eS_putf {ow : Own} {e : IE} {o : IE} {f : Str} {env : EnvM} {S : Store} : evS ow (.putf e o f) env S = RS.ofR env (evE ow e env S) (kFld ow env f (evE ow o env)) := rfl
theorem eS_ret {ow : Own} {e : IE} {env : EnvM} {S : Store} : evS ow (.ret e) env S = RS.ofR env (evE ow e env S) kRet := rfl
theorem eS_ret0 {ow : Own}  {env : EnvM} {S : Store} : evS ow (.ret0) env S = .ret (.d .non) S := rfl
theorem eS_pass {ow : Own}  {env : EnvM} {S : Store} : evS ow (.pass) env S = .next env S := rfl
theorem eS_brk {ow : Own}  {env : EnvM} {S : Store} : evS ow (.brk) env S = .brk env S := rfl
theorem eS_cont {ow : Own}  {env : EnvM} {S : Store} : evS ow (.cont) env S = .cont env S := rfl
theorem eS_ife {ow : Own} {t : IT} {a : ISs} {b : ISs} {env : EnvM} {S : Store} : evS ow (.ife t a b) env S = RS.ofR env (evT ow t env S) (fIf (evSs ow a env) (evSs ow b env)) := rfl
theorem eS_loop {ow : Own} {tg : Tg} {it : II} {body : ISs} {env : EnvM} {S : Store} : evS ow (.loop tg it body) env S = RS.ofR env (evI ow it env S) (kFor env tg (evSs ow body)) := rfl
theorem eS_whil {ow : Own} {t : IT} {body : ISs} {env : EnvM} {S : Store} : evS ow (.whil t body) env S = whileL (evT ow t) (evSs ow body) 1000000 env S := rfl
theorem eS_raise {ow : Own} {x : Str} {fs : List Str} {as : IA} {env : EnvM} {S : Store} : evS ow (.raise x fs as) env S = RS.ofR env ((evA ow as env S).bind (excM x fs)) kBad := rfl
theorem eS_tri {ow : Own} {body : ISs} {hs : IH} {env : EnvM} {S : Store} : evS ow (.tri body hs) env S = triS (evSs ow body env S) (evH ow hs) := rfl
theorem eSs_nil {ow : Own}  {env : EnvM} {S : Store} : evSs ow (.nil) env S = .next env S := rfl
theorem eSs_cons {ow : Own} {s : IS} {r : ISs} {env : EnvM} {S : Store} : evSs ow (.cons s r) env S = (evS ow s env S).seq (evSs ow r) := rfl
theorem eH_t {ow : Own} {k : Kd} {i : Option Nat} {su : ISs} {r : IH} {cn : Str} {fs : List (Str × D)} {env : EnvM} {S : Store} (h : ow.exm cn k = some true) : evH ow (.cons k i su r) cn fs env S = fHd ow cn i (evSs ow su) fs env S := by
  conv => lhs; unfold evH
  rw [h]
theorem eH_f {ow : Own} {k : Kd} {i : Option Nat} {su : ISs} {r : IH} {cn : Str} {fs : List (Str × D)} {env : EnvM} {S : Store} (h : ow.exm cn k = some false) : evH ow (.cons k i su r) cn fs env S = evH ow r cn fs env S := by
  conv => lhs; unfold evH
  rw [h]
theorem g_0 {w : W} {r : EnvM} {S : Store} : getS 0 (some w :: r) S = .ok w S := rfl
theorem g_s {o : Option W} {r : EnvM} {i : Nat} {S : Store} : getS (i + 1) (o :: r) S = getS i r S := rfl
section
variable (S : Store)
theorem if_t {α : Type} (f g : Store → α) : fIf f g true S = f S := rfl
theorem if_f {α : Type} (f g : Store → α) : fIf f g false S = g S := rfl
theorem anE_t (k : Store → R W) : fAndE k (.d (.bl true)) S = k S := rfl
theorem anE_f (k : Store → R W) : fAndE k (.d (.bl false)) S = .ok (.d (.bl false)) S := rfl
theorem orE_t (k : Store → R W) : fOrE k (.d (.bl true)) S = .ok (.d (.bl true)) S := rfl
theorem orE_f (k : Store → R W) : fOrE k (.d (.bl false)) S = k S := rfl
theorem an_t (k : Store → R Bool) : fAnd k true S = k S := rfl
theorem an_f (k : Store → R Bool) : fAnd k false S = .ok false S := rfl
theorem or_t (k : Store → R Bool) : fOr k true S = .ok true S := rfl
theorem or_f (k : Store → R Bool) : fOr k false S = k S := rfl
theorem ch_t (o : CmpOp) (g : Store → R W) (y : W) : fCh3 o g y (.d (.bl true)) S = (g S).bind (cmpW o y) := rfl
theorem ch_f (o : CmpOp) (g : Store → R W) (y : W) : fCh3 o g y (.d (.bl false)) S = .ok (.d (.bl false)) S := rfl
theorem ng_i (i : Int) : fNeg (.d (.int i)) S = .ok (.d (.int (-i))) S := rfl
theorem rg_i (j : Int) : fRng [.d (.int j)] S = if j ≤ 100000 ∧ -100000 ≤ j then .ok (intsW 0 j.toNat) S else .bad := rfl
theorem ne_s (env : EnvM) : nextE S (some env) = .next env S := rfl
theorem ns_s (env : EnvM) : nextS env (some S) = .next env S := rfl
theorem tri_x (c : Str) (fs : List (Str × D)) (e : EnvM) (h : Str → List (Str × D) → EnvM → Store → RS) : triS (.exc c fs e S) h = h c fs e S := rfl
theorem tri_r (w : W) (h : Str → List (Str × D) → EnvM → Store → RS) : triS (.ret w S) h = .ret w S := rfl
theorem tri_n (e : EnvM) (h : Str → List (Str × D) → EnvM → Store → RS) : triS (.next e S) h = .next e S := rfl
theorem it_l (ds : List D) : iterV (.ok (.d (.lst ds)) S) = .ok (ds.map W.d) S := rfl
theorem it_t (ds : List D) : iterV (.ok (.d (.tup ds)) S) = .ok (ds.map W.d) S := rfl
theorem it_s (x : Str) : iterV (.ok (.d (.str x)) S) = .ok (signsW x) S := rfl
theorem po_i (i : Int) : partOf (.ok (.d (.int i)) S) = .ok (some i) S := rfl
theorem fl_n (asg : Store → W → EnvM → Option EnvM) (body : EnvM → Store → RS) (env : EnvM) : forL asg body [] env S = .next env S := rfl
/-- a turn's end -/
def turn (k : EnvM → Store → RS) : RS → RS
  | .next e S2 => k e S2
  | .cont e S2 => k e S2
  | .brk e S2 => .next e S2
  | .ret w S2 => .ret w S2
  | .exc c fs e S2 => .exc c fs e S2
  | .bad => .bad
theorem fl_c (asg : Store → W → EnvM → Option EnvM) (body : EnvM → Store → RS) (w : W) (r : List W) (env env2 : EnvM) (h : asg S w env = some env2) : forL asg body (w :: r) env S = turn (forL asg body r) (body env2 S) := by
  conv => lhs; unfold forL
  rw [h]
  dsimp only
  cases body env2 S <;> rfl
theorem wh_c (tst : EnvM → Store → R Bool) (body : EnvM → Store → RS) (n : Nat) (env : EnvM) {S S1 : Store} (h : tst env S = .ok true S1) : whileL tst body (n + 1) env S = turn (whileL tst body n) (body env S1) := by
  conv => lhs; unfold whileL
  rw [h]
  dsimp only
  cases body env S1 <;> rfl
theorem wh_f (tst : EnvM → Store → R Bool) (body : EnvM → Store → RS) (n : Nat) (env : EnvM) {S S1 : Store} (h : tst env S = .ok false S1) : whileL tst body (n + 1) env S = .next env S1 := by
  conv => lhs; unfold whileL
  rw [h]
theorem tn_n (k : EnvM → Store → RS) (e : EnvM) : turn k (.next e S) = k e S := rfl
theorem tn_c (k : EnvM → Store → RS) (e : EnvM) : turn k (.cont e S) = k e S := rfl
theorem tn_b (k : EnvM → Store → RS) (e : EnvM) : turn k (.brk e S) = .next e S := rfl
theorem tn_r (k : EnvM → Store → RS) (w : W) : turn k (.ret w S) = .ret w S := rfl
theorem tn_x (k : EnvM → Store → RS) (c : Str) (fs : List (Str × D)) (e : EnvM) : turn k (.exc c fs e S) = .exc c fs e S := rfl
theorem cw_lt (i j : Int) : cmpW .Lt (.d (.int i)) (.d (.int j)) S = .ok (.d (.bl (decide (i < j)))) S := rfl
theorem cw_le (i j : Int) : cmpW .LtE (.d (.int i)) (.d (.int j)) S = .ok (.d (.bl (decide (i ≤ j)))) S := rfl
/-! ints -/
theorem add_i (i j : Int) : binW .Add (.d (.int i)) (.d (.int j)) S = .ok (.d (.int (i + j))) S := rfl
theorem sub_i (i j : Int) : binW .Sub (.d (.int i)) (.d (.int j)) S = .ok (.d (.int (i - j))) S := rfl
theorem mul_i (i j : Int) (h : (smallI i || smallI j) = true) : binW .Mult (.d (.int i)) (.d (.int j)) S = .ok (.d (.int (i * j))) S := if_pos h
theorem div_i (i j : Int) (h : j ≠ 0 ∧ j.natAbs < 1073741824) : binW .FloorDiv (.d (.int i)) (.d (.int j)) S = .ok (.d (.int (i.fdiv j))) S := if_pos (decide_eq_true h)
theorem mod_i (i j : Int) (h : j ≠ 0) : binW .Mod (.d (.int i)) (.d (.int j)) S = .ok (.d (.int (i.fmod j))) S := if_pos (decide_eq_true h)
theorem pow_i (i j : Int) (h : 0 ≤ j ∧ j ≤ 1000000 ∧ i.natAbs < 2 ^ 64) : binW .Pow (.d (.int i)) (.d (.int j)) S = .ok (.d (.int (i ^ j.toNat))) S := if_pos (decide_eq_true h)
theorem lt_i (i j : Int) (ow : Own) (k : Bool) : cmpX ow k .Lt (.d (.int i)) (.d (.int j)) S = .ok (.d (.bl (decide (i < j)))) S := rfl
theorem le_i (i j : Int) (ow : Own) (k : Bool) : cmpX ow k .LtE (.d (.int i)) (.d (.int j)) S = .ok (.d (.bl (decide (i ≤ j)))) S := rfl
theorem gt_i (i j : Int) (ow : Own) (k : Bool) : cmpX ow k .Gt (.d (.int i)) (.d (.int j)) S = .ok (.d (.bl (decide (j < i)))) S := rfl
theorem ge_i (i j : Int) (ow : Own) (k : Bool) : cmpX ow k .GtE (.d (.int i)) (.d (.int j)) S = .ok (.d (.bl (decide (j ≤ i)))) S := rfl
def D.noIns : D → Bool
  | .ins _ _ => false
  | _ => true
theorem cx_eq {x : D} (h : x.noIns = true) (y : W) (ow : Own) (k : Bool) : cmpX ow k .Eq (.d x) y S = orDeep ow k false (.d x) y S (eqW false (.d x) y S) := by
  cases x <;> first | rfl | cases h
theorem cx_ne {x : D} (h : x.noIns = true) (y : W) (ow : Own) (k : Bool) : cmpX ow k .NotEq (.d x) y S = orDeep ow k true (.d x) y S (eqW true (.d x) y S) := by
  cases x <;> first | rfl | cases h
theorem od_ok (ow : Own) (k neg : Bool) (x y : W) (S : Store) (w : W) (S1 : Store) : orDeep ow k neg x y S (.ok w S1) = .ok w S1 := rfl
theorem eqW_d (neg : Bool) {x y : D} {b : Bool} (h : eqD x y = some b) : eqW neg (.d x) (.d y) S = .ok (.d (.bl (if neg then !b else b))) S := by
  unfold eqW
  simp only [asD, h]
theorem eqD_i (i j : Int) : eqD (.int i) (.int j) = some (decide (i = j)) := by
  unfold eqD
  simp only [D.ok, D.plain, D.py, SeqAt.shaped, PyData.canLay0, PyData.depth, PyData.eqv]
  simp
  rfl
theorem eq_i (i j : Int) (ow : Own) (k : Bool) : cmpX ow k .Eq (.d (.int i)) (.d (.int j)) S = .ok (.d (.bl (decide (i = j)))) S := by
  rw [cx_eq S rfl, eqW_d S false (eqD_i i j)]; rfl
theorem ne_i (i j : Int) (ow : Own) (k : Bool) : cmpX ow k .NotEq (.d (.int i)) (.d (.int j)) S = .ok (.d (.bl (!decide (i = j)))) S := by
  rw [cx_ne S rfl, eqW_d S true (eqD_i i j)]; rfl
theorem eq_s (i j : Str) (ow : Own) (k : Bool) : cmpX ow k .Eq (.d (.str i)) (.d (.str j)) S = .ok (.d (.bl (decide (i = j)))) S := rfl
theorem ne_s' (i j : Str) (ow : Own) (k : Bool) : cmpX ow k .NotEq (.d (.str i)) (.d (.str j)) S = .ok (.d (.bl (!decide (i = j)))) S := rfl
theorem is_n (w : W) (ow : Own) (k : Bool) : cmpX ow k .Is w (.d .non) S = .ok (.d (.bl (isNonB w))) S := rfl
theorem isnt_n (w : W) (ow : Own) (k : Bool) : cmpX ow k .IsNot w (.d .non) S = .ok (.d (.bl (!isNonB w))) S := rfl
theorem len_l (ds : List D) (k : Bool) : callB k "len" [.d (.lst ds)] S = .ok (.d (.int ds.length)) S := rfl
theorem len_t (ds : List D) (k : Bool) : callB k "len" [.d (.tup ds)] S = .ok (.d (.int ds.length)) S := rfl
theorem len_s (x : Str) (k : Bool) (h : x.length ≤ 100000) : callB k "len" [.d (.str x)] S = .ok (.d (.int x.length)) S := by
  unfold callB lenN
  simp [h]
end
end Mi

namespace Mi
open PySem L2

/-! ### comprehensions and loops of plain data -/
/-- a store with a list in the making -/
abbrev tmpS (S : Store) (ac : List D) : Store := S ++ [Cell.lst (ac.map W.d)]
/-- one item of a comprehension -/
def CompAt (tst : EnvM → Store → R Bool) (elt : EnvM → Store → R W) (f : D → Option D) (x : D) (env : EnvM) (S : Store) : Prop :=
  (f x = none ∧ tst env S = .ok false S) ∨ (∃ y, f x = some y ∧ tst env S = .ok true S ∧ elt env S = .ok (.d y) S)
theorem compL_pure {asg : Store → W → EnvM → Option EnvM} {tst : EnvM → Store → R Bool} {elt : EnvM → Store → R W} {env : EnvM} {S : Store} {f : D → Option D} : ∀ (xs acc : List D),
    acc.length + xs.length ≤ 100000 →
    (∀ x ∈ xs, ∃ env2, (∀ S', asg S' (.d x) env = some env2) ∧ ∀ ac : List D, CompAt tst elt f x env2 (tmpS S ac)) →
    compL asg tst elt env S.length (xs.map W.d) (tmpS S acc) = .ok () (tmpS S (acc ++ xs.filterMap f))
  | [], acc, _, _ => by simp [compL]
  | x :: r, acc, hl, h => by
    obtain ⟨env2, h1, h2⟩ := h x (List.mem_cons_self ..)
    rw [List.length_cons] at hl
    rw [List.map_cons]
    unfold compL
    rw [h1]
    rcases h2 acc with ⟨a, b⟩ | ⟨y, a, b, c⟩
    · simp only [b]
      rw [compL_pure r acc (by omega) fun z hz => h z (List.mem_cons_of_mem _ hz), List.filterMap_cons, a]
    · simp only [b, c]
      rw [List.getElem?_append_right (Nat.le_refl _), Nat.sub_self]
      simp only [List.getElem?_cons_zero, List.length_map]
      rw [if_pos (by omega)]
      have e : (tmpS S acc).set S.length (Cell.lst (acc.map W.d ++ [W.d y])) = tmpS S (acc ++ [y]) := by
        simp [tmpS]
      rw [e, compL_pure r (acc ++ [y]) (by simp; omega) fun z hz => h z (List.mem_cons_of_mem _ hz), List.filterMap_cons, a]
      simp
theorem comp_pure {asg : Store → W → EnvM → Option EnvM} {tst : EnvM → Store → R Bool} {elt : EnvM → Store → R W} {env : EnvM} {S : Store} (f : D → Option D) {xs : List D} (hS : WF S) (hl : xs.length ≤ 100000)
    (h : ∀ x ∈ xs, ∃ env2, (∀ S', asg S' (.d x) env = some env2) ∧ ∀ ac : List D, CompAt tst elt f x env2 (tmpS S ac)) :
    compFin false S.length (compL asg tst elt env S.length (xs.map W.d) (S ++ [.lst []])) = .ok (.d (.lst (xs.filterMap f))) S := by
  have e := compL_pure (asg := asg) (tst := tst) (elt := elt) (env := env) (S := S) (f := f) xs [] (by simpa using hl) h
  simp only [List.map_nil, List.nil_append, tmpS] at e
  rw [e]
  rw [show ∀ n r, compFin false n r = compEnd n r from fun _ _ => rfl]
  unfold compEnd
  rw [b_ok]
  rw [List.getElem?_append_right (Nat.le_refl _), Nat.sub_self]
  simp [pureL_d, cut_app hS]
theorem signs_eq (x : Str) : signsW x = (x.cps.toList.map fun c => D.str ⟨#[c]⟩).map W.d := by
  unfold signsW
  rw [List.map_map]
  rfl
theorem boolsOf_map {α : Type} (f : α → Bool) : ∀ xs : List α, boolsOf (xs.map fun x => D.bl (f x)) = some (xs.map f)
  | [] => rfl
  | x :: r => by
    show (boolsOf _).map _ = _
    rw [boolsOf_map f r]; rfl
theorem all_b {α : Type} (f : α → Bool) (xs : List α) (S : Store) : callB true "all" [.d (.lst (xs.map fun x => .bl (f x)))] S = .ok (.d (.bl (xs.all f))) S := by
  unfold callB
  simp [asD, boolsOf_map]
  rfl
theorem any_b {α : Type} (f : α → Bool) (xs : List α) (S : Store) : callB true "any" [.d (.lst (xs.map fun x => .bl (f x)))] S = .ok (.d (.bl (xs.any f))) S := by
  unfold callB
  simp [asD, boolsOf_map]
  rfl
theorem fm_map {α β : Type} (f : α → β) : ∀ xs : List α, xs.filterMap (fun x => some (f x)) = xs.map f
  | [] => rfl
  | x :: r => by rw [List.filterMap_cons, List.map_cons, fm_map f r]
/-- a comprehension without an if -/
theorem comp_map {asg : Store → W → EnvM → Option EnvM} {tst : EnvM → Store → R Bool} {elt : EnvM → Store → R W} {env : EnvM} {S : Store} (f : D → D) {xs : List D} (hS : WF S) (hl : xs.length ≤ 100000)
    (h : ∀ x ∈ xs, ∃ env2, (∀ S', asg S' (.d x) env = some env2) ∧ ∀ ac : List D, tst env2 (tmpS S ac) = .ok true (tmpS S ac) ∧ elt env2 (tmpS S ac) = .ok (.d (f x)) (tmpS S ac)) :
    compFin false S.length (compL asg tst elt env S.length (xs.map W.d) (S ++ [.lst []])) = .ok (.d (.lst (xs.map f))) S := by
  rw [comp_pure (fun x => some (f x)) hS hl fun x hx => ?_, fm_map]
  obtain ⟨env2, h1, h2⟩ := h x hx
  exact ⟨env2, h1, fun ac => .inr ⟨_, rfl, (h2 ac).1, (h2 ac).2⟩⟩
/-- one with an if, its items as they are -/
theorem comp_filter {asg : Store → W → EnvM → Option EnvM} {tst : EnvM → Store → R Bool} {elt : EnvM → Store → R W} {env : EnvM} {S : Store} (p : D → Bool) (f : D → D) {xs : List D} (hS : WF S) (hl : xs.length ≤ 100000)
    (h : ∀ x ∈ xs, ∃ env2, (∀ S', asg S' (.d x) env = some env2) ∧ ∀ ac : List D, tst env2 (tmpS S ac) = .ok (p x) (tmpS S ac) ∧ (p x = true → elt env2 (tmpS S ac) = .ok (.d (f x)) (tmpS S ac))) :
    compFin false S.length (compL asg tst elt env S.length (xs.map W.d) (S ++ [.lst []])) = .ok (.d (.lst ((xs.filter p).map f))) S := by
  rw [comp_pure (fun x => if p x then some (f x) else none) hS hl fun x hx => ?_]
  · congr 3
    clear h hl
    induction xs with
    | nil => rfl
    | cons x r ih =>
      rw [List.filterMap_cons, List.filter_cons]
      cases p x <;> simp [ih]
  · obtain ⟨env2, h1, h2⟩ := h x hx
    refine ⟨env2, h1, fun ac => ?_⟩
    unfold CompAt
    have a := (h2 ac).1
    have b := (h2 ac).2
    cases q : p x with
    | true =>
      rw [q] at a
      exact .inr ⟨_, if_pos q, a, b q⟩
    | false =>
      rw [q] at a
      exact .inl ⟨if_neg (by simp [q]), a⟩
/-! ### lists in the store -/
theorem at_new (S : Store) (c : Cell) (T : Store) : (S ++ c :: T)[S.length]? = some c := by simp
theorem set_new (S : Store) (c d : Cell) (T : Store) : (S ++ c :: T).set S.length d = S ++ d :: T := by simp
theorem isLst_new (S : Store) (ws : List W) (T : Store) : isLst (S ++ .lst ws :: T) (.o S.length) = true := by
  unfold isLst
  simp
theorem asD_new (S : Store) (ds : List D) (T : Store) : asD (S ++ .lst (ds.map W.d) :: T) (.o S.length) = some (.lst ds) := by
  unfold asD
  simp [pureL_d]
theorem mtC_lst {ow : Own} {m : Str} {fa fb : Store → R (List W)} {w : W} {S : Store} {id : String} (h : isLst S w = true) (hm : mtName m = some id) : mtC ow m fa [] fb w S = (fa S).bind (mtW id w) := by
  unfold mtC
  rw [if_pos h, hm]
theorem append_new {S : Store} {ds : List D} {T : Store} {x : D} (h : ds.length < 100000) : mtW "list.append" (.o S.length) [.d x] (S ++ .lst (ds.map W.d) :: T) = .ok (.d .non) (S ++ .lst ((ds ++ [x]).map W.d) :: T) := by
  unfold mtW
  simp [h]
theorem in_strs (deep : Bool) (s : Str) (xs : List Str) : inD deep (.str s) (xs.map D.str) = some (decide (s ∈ xs)) := by
  unfold inD
  rw [if_pos (by simp [D.flat])]
  congr 1
  rw [List.any_map, Bool.eq_iff_iff]
  simp [eqF]
theorem inW_l {neg : Bool} {S : Store} {x : D} {w : W} {ys : List D} {b : Bool} (h : asD S w = some (.lst ys)) (hi : inD true x ys = some b) : inW neg (.d x) w S = .ok (.d (.bl (if neg then !b else b))) S := by
  unfold inW
  cases w with
  | d y =>
    cases h
    cases x <;> simp [asD, hi]
  | o n => cases x <;> simp [asD] at h ⊢ <;> simp [h, hi]
  | x c fs => cases h
theorem inW_t {neg : Bool} {S : Store} {x : D} {ys : List D} {b : Bool} (hi : inD false x ys = some b) : inW neg (.d x) (.d (.tup ys)) S = .ok (.d (.bl (if neg then !b else b))) S := by
  unfold inW
  cases x <;> simp [asD, hi]
theorem cx_in (ow : Own) (k : Bool) (x y : W) (S : Store) : cmpX ow k .In x y S = inW false x y S := rfl
theorem cx_nin (ow : Own) (k : Bool) (x y : W) (S : Store) : cmpX ow k .NotIn x y S = inW true x y S := rfl
theorem ix_tup {ds : List D} {i : Int} {x : D} (h : L2.atI ds i = some x) (S : Store) : ixW (.d (.tup ds)) (.d (.int i)) S = .ok (.d x) S := by
  show (match L2.atI ds i with | some x => R.ok (W.d x) S | none => R.bad) = _
  rw [h]
theorem ix_lst {ds : List D} {i : Int} {x : D} (h : L2.atI ds i = some x) (S : Store) : ixW (.d (.lst ds)) (.d (.int i)) S = .ok (.d x) S := by
  show (match L2.atI ds i with | some x => R.ok (W.d x) S | none => R.bad) = _
  rw [h]
theorem atN {α : Type} {xs : List α} {i : Int} (n : Nat) {x : α} (hi : i = (n : Int)) (h : xs[n]? = some x) : L2.atI xs i = some x := by
  rw [hi]
  exact L2.atI_nat h
/-! ### kinds -/
/-- an instance is one of a class that is known -/
def Kn (ow : Own) (v : D) : Prop := ∀ c fs, v = .ins c fs → c ∈ ow.ins
def isT (T : String) : D → Bool
  | .non => decide (T = "NoneType")
  | .bl _ => decide (T = "bool") || decide (T = "int")
  | .int _ => decide (T = "int")
  | .str _ => decide (T = "str")
  | .tup _ => decide (T = "tuple")
  | .lst _ => decide (T = "list")
  | .scr _ => decide (T = "list")
  | .ins _ _ => false
def isaB (ow : Own) (T : String) : Bool :=
  (([("NoneType", decide (T = "NoneType")), ("bool", decide (T = "bool") || decide (T = "int")), ("int", decide (T = "int")), ("str", decide (T = "str")), ("tuple", decide (T = "tuple")), ("list", decide (T = "list"))] : List (String × Bool)).all fun (p : String × Bool) => decide (ow.isa (.b p.1) (.b T) = some p.2)) &&
  ow.ins.all fun c => decide (ow.isa (.c c) (.b T) = some false)
theorem isi_of {ow : Own} {k q : Kd} {w : W} {S : Store} {b : Bool} (h : tyW ow S w = some k) (h2 : ow.isa k q = some b) : isiM ow [q] w S = .ok (.d (.bl b)) S := by
  unfold isiM
  rw [h]
  dsimp only [isaAny]
  rw [h2]
  cases b <;> rfl
theorem ty_ins {ow : Own} {c : Str} {fs : List (Str × D)} {S : Store} (h : c ∈ ow.ins) : tyW ow S (.d (.ins c fs)) = some (.c c) := if_pos (List.contains_iff_mem.mpr h)
theorem isi_b {ow : Own} {T : String} (h : isaB ow T = true) {v : D} (S : Store) (k : Kn ow v) : isiM ow [.b T] (.d v) S = .ok (.d (.bl (isT T v))) S := by
  unfold isaB at h
  simp only [List.all_cons, List.all_nil, Bool.and_true, Bool.and_eq_true, decide_eq_true_eq] at h
  obtain ⟨⟨h1, h2, h3, h4, h5, h6⟩, h7⟩ := h
  cases v with
  | non => exact isi_of rfl h1
  | bl b => exact isi_of rfl h2
  | int i => exact isi_of rfl h3
  | str x => exact isi_of rfl h4
  | tup x => exact isi_of rfl h5
  | lst x => exact isi_of rfl h6
  | scr x => exact isi_of rfl h6
  | ins c fs => exact isi_of (ty_ins (k c fs rfl)) (of_decide_eq_true (List.all_eq_true.mp h7 c (k c fs rfl)))
def isC (n : Str) : D → Bool
  | .ins c _ => decide (c = n)
  | _ => false
def isaC (ow : Own) (n : Str) : Bool :=
  ((["NoneType", "bool", "int", "str", "tuple", "list"] : List String).all fun (p : String) => decide (ow.isa (.b p) (.c n) = some false)) && ow.ins.all fun c => decide (ow.isa (.c c) (.c n) = some (decide (c = n)))
theorem isi_c {ow : Own} {n : Str} (h : isaC ow n = true) {v : D} (S : Store) (k : Kn ow v) : isiM ow [.c n] (.d v) S = .ok (.d (.bl (isC n v))) S := by
  unfold isaC at h
  simp only [List.all_cons, List.all_nil, Bool.and_true, Bool.and_eq_true, decide_eq_true_eq] at h
  obtain ⟨⟨h1, h2, h3, h4, h5, h6⟩, h7⟩ := h
  cases v with
  | non => exact isi_of rfl h1
  | bl b => exact isi_of rfl h2
  | int i => exact isi_of rfl h3
  | str x => exact isi_of rfl h4
  | tup x => exact isi_of rfl h5
  | lst x => exact isi_of rfl h6
  | scr x => exact isi_of rfl h6
  | ins c fs => exact isi_of (ty_ins (k c fs rfl)) (of_decide_eq_true (List.all_eq_true.mp h7 c (k c fs rfl)))
end Mi

namespace Mi
open PySem L2

/-! ### equality of plain data -/
structure Ok (n : Nat) (x : D) : Prop where
  p : x.plain = true
  c : x.py.canLay0 = true
  d : x.py.depth ≤ n
theorem Ok.mono {m n : Nat} {x : D} (h : Ok m x) (l : m ≤ n) : Ok n x := ⟨h.p, h.c, Nat.le_trans h.d l⟩
theorem Ok.non {n : Nat} : Ok n .non := ⟨rfl, by simp [D.py, PyData.canLay0], by simp [D.py, PyData.depth]⟩
theorem Ok.bl {n : Nat} {b : Bool} : Ok n (.bl b) := ⟨rfl, by simp [D.py, PyData.canLay0], by simp [D.py, PyData.depth]⟩
theorem Ok.int {n : Nat} {i : Int} : Ok n (.int i) := ⟨rfl, by simp [D.py, PyData.canLay0], by simp [D.py, PyData.depth]⟩
theorem Ok.str {n : Nat} {s : Str} (h : PyData.strOk s = true) : Ok n (.str s) := ⟨rfl, by simpa [D.py, PyData.canLay0] using h, by simp [D.py, PyData.depth]⟩
theorem Ok.all {n : Nat} : ∀ {xs : List D}, (∀ x ∈ xs, Ok n x) → plainL xs = true ∧ PyData.canLayAll0 (pyL xs) = true ∧ PyData.depthAll (pyL xs) ≤ n
  | [], _ => ⟨rfl, by simp [pyL, PyData.canLayAll0], by simp [pyL, PyData.depthAll]⟩
  | x :: r, h => by
    obtain ⟨a, b, c⟩ := Ok.all (n := n) (xs := r) fun y hy => h y (List.mem_cons_of_mem _ hy)
    obtain ⟨p, q, s⟩ := h x (List.mem_cons_self ..)
    refine ⟨by simp [plainL, p, a], by simp [pyL, PyData.canLayAll0, q, b], ?_⟩
    simp only [pyL, PyData.depthAll]
    exact Nat.max_le.mpr ⟨s, c⟩
theorem Ok.tup {n : Nat} {xs : List D} (h : ∀ x ∈ xs, Ok n x) : Ok (n + 1) (.tup xs) := by
  obtain ⟨a, b, c⟩ := Ok.all h
  exact ⟨by simpa [D.plain] using a, by simpa [D.py, PyData.canLay0] using b, by simp only [D.py, PyData.depth]; omega⟩
theorem Ok.lst {n : Nat} {xs : List D} (h : ∀ x ∈ xs, Ok n x) : Ok (n + 1) (.lst xs) := by
  obtain ⟨a, b, c⟩ := Ok.all h
  exact ⟨by simpa [D.plain] using a, by simpa [D.py, PyData.canLay0] using b, by simp only [D.py, PyData.depth]; omega⟩
theorem Ok.ok {x : D} {n : Nat} (h : Ok n x) (l : n ≤ 64) : x.ok = true := by
  unfold D.ok SeqAt.shaped
  simp only [h.p, h.c, Bool.true_and, decide_eq_true_eq]
  exact Nat.le_trans h.d l
theorem eqD_ok {x y : D} {m n : Nat} (h : Ok m x) (k : Ok n y) (l : m ≤ 64 := by decide) (l' : n ≤ 64 := by decide) : eqD x y = some (PyData.eqv x.py y.py) := by
  unfold eqD
  split
  · simp only [D.py, PyData.eqv]
    rfl
  · rw [if_pos (by rw [h.ok l, k.ok l']; rfl)]
/-- no bools, no objects: equal is the same -/
def D.nb : D → Bool
  | .non => true
  | .int _ => true
  | .str _ => true
  | .tup xs => nbL xs
  | .lst xs => nbL xs
  | _ => false
where nbL : List D → Bool
  | [] => true
  | x :: r => x.nb && nbL r
mutual
theorem eqv_nb : ∀ {x y : D}, x.nb = true → y.nb = true → (PyData.eqv x.py y.py = true ↔ x = y)
  | .non, y, _, h => by cases y <;> simp_all [D.py, PyData.eqv, D.nb]
  | .int i, y, _, h => by cases y <;> simp_all [D.py, PyData.eqv, D.nb]
  | .str s, y, _, h => by cases y <;> simp_all [D.py, PyData.eqv, D.nb]
  | .tup xs, y, hx, h => by
    cases y <;> simp only [D.nb] at hx h <;> first | (simp [D.py, PyData.eqv]; done) | (cases h; done) | skip
    rename_i ys
    simp only [D.py, PyData.eqv, D.tup.injEq]
    exact eqvL_nb hx h
  | .lst xs, y, hx, h => by
    cases y <;> simp only [D.nb] at hx h <;> first | (simp [D.py, PyData.eqv]; done) | (cases h; done) | skip
    rename_i ys
    simp only [D.py, PyData.eqv, D.lst.injEq]
    exact eqvL_nb hx h
  | .bl _, _, h, _ => by simp [D.nb] at h
  | .scr _, _, h, _ => by simp [D.nb] at h
  | .ins _ _, _, h, _ => by simp [D.nb] at h
theorem eqvL_nb : ∀ {xs ys : List D}, D.nb.nbL xs = true → D.nb.nbL ys = true → (PyData.eqvAll (pyL xs) (pyL ys) = true ↔ xs = ys)
  | [], [], _, _ => by simp [pyL, PyData.eqvAll]
  | [], y :: ys, _, _ => by simp [pyL, PyData.eqvAll]
  | x :: xs, [], _, _ => by simp [pyL, PyData.eqvAll]
  | x :: xs, y :: ys, h, k => by
    simp only [D.nb.nbL, Bool.and_eq_true] at h k
    simp only [pyL, PyData.eqvAll, Bool.and_eq_true, List.cons.injEq]
    rw [eqv_nb h.1 k.1, eqvL_nb h.2 k.2]
end
/-- what is plain equals itself -/
theorem eqvAll_refl : ∀ {xs : List D}, (∀ x ∈ xs, PyData.eqv x.py x.py = true) → PyData.eqvAll (pyL xs) (pyL xs) = true
  | [], _ => by simp [pyL, PyData.eqvAll]
  | x :: r, h => by
    simp only [pyL, PyData.eqvAll, Bool.and_eq_true]
    exact ⟨h x (List.mem_cons_self ..), eqvAll_refl fun y hy => h y (List.mem_cons_of_mem _ hy)⟩
mutual
theorem eqv_refl : ∀ {x : D}, x.plain = true → PyData.eqv x.py x.py = true
  | .non, _ => by simp [D.py, PyData.eqv]
  | .bl _, _ => by simp [D.py, PyData.eqv]
  | .int i, _ => by simp [D.py, PyData.eqv]
  | .str s, _ => by simp [D.py, PyData.eqv]
  | .tup xs, h => by
    simp only [D.py, PyData.eqv]
    exact eqvL_refl (by simpa [D.plain] using h)
  | .lst xs, h => by
    simp only [D.py, PyData.eqv]
    exact eqvL_refl (by simpa [D.plain] using h)
  | .scr _, h => by simp [D.plain] at h
  | .ins _ _, h => by simp [D.plain] at h
theorem eqvL_refl : ∀ {xs : List D}, plainL xs = true → PyData.eqvAll (pyL xs) (pyL xs) = true
  | [], _ => by simp [pyL, PyData.eqvAll]
  | x :: r, h => by
    simp only [plainL, Bool.and_eq_true] at h
    simp only [pyL, PyData.eqvAll, Bool.and_eq_true]
    exact ⟨eqv_refl h.1, eqvL_refl h.2⟩
end
end Mi

namespace Mi
open PySem L2

/-! ### displays -/
theorem l_0 (S : Store) : lstOf [] S = .ok (.d (.lst [])) S := rfl
theorem t_0 (S : Store) : tupOf [] S = .ok (.d (.tup [])) S := rfl
theorem l_1 (x0 : D) (S : Store) : lstOf [.d x0] S = .ok (.d (.lst [x0])) S := rfl
theorem t_1 (x0 : D) (S : Store) : tupOf [.d x0] S = .ok (.d (.tup [x0])) S := rfl
theorem l_2 (x0 x1 : D) (S : Store) : lstOf [.d x0, .d x1] S = .ok (.d (.lst [x0, x1])) S := rfl
theorem t_2 (x0 x1 : D) (S : Store) : tupOf [.d x0, .d x1] S = .ok (.d (.tup [x0, x1])) S := rfl
theorem l_3 (x0 x1 x2 : D) (S : Store) : lstOf [.d x0, .d x1, .d x2] S = .ok (.d (.lst [x0, x1, x2])) S := rfl
theorem t_3 (x0 x1 x2 : D) (S : Store) : tupOf [.d x0, .d x1, .d x2] S = .ok (.d (.tup [x0, x1, x2])) S := rfl
theorem l_4 (x0 x1 x2 x3 : D) (S : Store) : lstOf [.d x0, .d x1, .d x2, .d x3] S = .ok (.d (.lst [x0, x1, x2, x3])) S := rfl
theorem t_4 (x0 x1 x2 x3 : D) (S : Store) : tupOf [.d x0, .d x1, .d x2, .d x3] S = .ok (.d (.tup [x0, x1, x2, x3])) S := rfl
theorem l_5 (x0 x1 x2 x3 x4 : D) (S : Store) : lstOf [.d x0, .d x1, .d x2, .d x3, .d x4] S = .ok (.d (.lst [x0, x1, x2, x3, x4])) S := rfl
theorem t_5 (x0 x1 x2 x3 x4 : D) (S : Store) : tupOf [.d x0, .d x1, .d x2, .d x3, .d x4] S = .ok (.d (.tup [x0, x1, x2, x3, x4])) S := rfl
theorem l_6 (x0 x1 x2 x3 x4 x5 : D) (S : Store) : lstOf [.d x0, .d x1, .d x2, .d x3, .d x4, .d x5] S = .ok (.d (.lst [x0, x1, x2, x3, x4, x5])) S := rfl
theorem t_6 (x0 x1 x2 x3 x4 x5 : D) (S : Store) : tupOf [.d x0, .d x1, .d x2, .d x3, .d x4, .d x5] S = .ok (.d (.tup [x0, x1, x2, x3, x4, x5])) S := rfl
theorem l_7 (x0 x1 x2 x3 x4 x5 x6 : D) (S : Store) : lstOf [.d x0, .d x1, .d x2, .d x3, .d x4, .d x5, .d x6] S = .ok (.d (.lst [x0, x1, x2, x3, x4, x5, x6])) S := rfl
theorem t_7 (x0 x1 x2 x3 x4 x5 x6 : D) (S : Store) : tupOf [.d x0, .d x1, .d x2, .d x3, .d x4, .d x5, .d x6] S = .ok (.d (.tup [x0, x1, x2, x3, x4, x5, x6])) S := rfl
theorem l_8 (x0 x1 x2 x3 x4 x5 x6 x7 : D) (S : Store) : lstOf [.d x0, .d x1, .d x2, .d x3, .d x4, .d x5, .d x6, .d x7] S = .ok (.d (.lst [x0, x1, x2, x3, x4, x5, x6, x7])) S := rfl
theorem t_8 (x0 x1 x2 x3 x4 x5 x6 x7 : D) (S : Store) : tupOf [.d x0, .d x1, .d x2, .d x3, .d x4, .d x5, .d x6, .d x7] S = .ok (.d (.tup [x0, x1, x2, x3, x4, x5, x6, x7])) S := rfl
theorem l_9 (x0 x1 x2 x3 x4 x5 x6 x7 x8 : D) (S : Store) : lstOf [.d x0, .d x1, .d x2, .d x3, .d x4, .d x5, .d x6, .d x7, .d x8] S = .ok (.d (.lst [x0, x1, x2, x3, x4, x5, x6, x7, x8])) S := rfl
theorem l_10 (x0 x1 x2 x3 x4 x5 x6 x7 x8 x9 : D) (S : Store) : lstOf [.d x0, .d x1, .d x2, .d x3, .d x4, .d x5, .d x6, .d x7, .d x8, .d x9] S = .ok (.d (.lst [x0, x1, x2, x3, x4, x5, x6, x7, x8, x9])) S := rfl
theorem l_11 (x0 x1 x2 x3 x4 x5 x6 x7 x8 x9 x10 : D) (S : Store) : lstOf [.d x0, .d x1, .d x2, .d x3, .d x4, .d x5, .d x6, .d x7, .d x8, .d x9, .d x10] S = .ok (.d (.lst [x0, x1, x2, x3, x4, x5, x6, x7, x8, x9, x10])) S := rfl
theorem l_12 (x0 x1 x2 x3 x4 x5 x6 x7 x8 x9 x10 x11 : D) (S : Store) : lstOf [.d x0, .d x1, .d x2, .d x3, .d x4, .d x5, .d x6, .d x7, .d x8, .d x9, .d x10, .d x11] S = .ok (.d (.lst [x0, x1, x2, x3, x4, x5, x6, x7, x8, x9, x10, x11])) S := rfl
theorem l_13 (x0 x1 x2 x3 x4 x5 x6 x7 x8 x9 x10 x11 x12 : D) (S : Store) : lstOf [.d x0, .d x1, .d x2, .d x3, .d x4, .d x5, .d x6, .d x7, .d x8, .d x9, .d x10, .d x11, .d x12] S = .ok (.d (.lst [x0, x1, x2, x3, x4, x5, x6, x7, x8, x9, x10, x11, x12])) S := rfl
theorem l_14 (x0 x1 x2 x3 x4 x5 x6 x7 x8 x9 x10 x11 x12 x13 : D) (S : Store) : lstOf [.d x0, .d x1, .d x2, .d x3, .d x4, .d x5, .d x6, .d x7, .d x8, .d x9, .d x10, .d x11, .d x12, .d x13] S = .ok (.d (.lst [x0, x1, x2, x3, x4, x5, x6, x7, x8, x9, x10, x11, x12, x13])) S := rfl
theorem l_15 (x0 x1 x2 x3 x4 x5 x6 x7 x8 x9 x10 x11 x12 x13 x14 : D) (S : Store) : lstOf [.d x0, .d x1, .d x2, .d x3, .d x4, .d x5, .d x6, .d x7, .d x8, .d x9, .d x10, .d x11, .d x12, .d x13, .d x14] S = .ok (.d (.lst [x0, x1, x2, x3, x4, x5, x6, x7, x8, x9, x10, x11, x12, x13, x14])) S := rfl
theorem l_16 (x0 x1 x2 x3 x4 x5 x6 x7 x8 x9 x10 x11 x12 x13 x14 x15 : D) (S : Store) : lstOf [.d x0, .d x1, .d x2, .d x3, .d x4, .d x5, .d x6, .d x7, .d x8, .d x9, .d x10, .d x11, .d x12, .d x13, .d x14, .d x15] S = .ok (.d (.lst [x0, x1, x2, x3, x4, x5, x6, x7, x8, x9, x10, x11, x12, x13, x14, x15])) S := rfl
theorem l_17 (x0 x1 x2 x3 x4 x5 x6 x7 x8 x9 x10 x11 x12 x13 x14 x15 x16 : D) (S : Store) : lstOf [.d x0, .d x1, .d x2, .d x3, .d x4, .d x5, .d x6, .d x7, .d x8, .d x9, .d x10, .d x11, .d x12, .d x13, .d x14, .d x15, .d x16] S = .ok (.d (.lst [x0, x1, x2, x3, x4, x5, x6, x7, x8, x9, x10, x11, x12, x13, x14, x15, x16])) S := rfl
theorem l_18 (x0 x1 x2 x3 x4 x5 x6 x7 x8 x9 x10 x11 x12 x13 x14 x15 x16 x17 : D) (S : Store) : lstOf [.d x0, .d x1, .d x2, .d x3, .d x4, .d x5, .d x6, .d x7, .d x8, .d x9, .d x10, .d x11, .d x12, .d x13, .d x14, .d x15, .d x16, .d x17] S = .ok (.d (.lst [x0, x1, x2, x3, x4, x5, x6, x7, x8, x9, x10, x11, x12, x13, x14, x15, x16, x17])) S := rfl
theorem l_19 (x0 x1 x2 x3 x4 x5 x6 x7 x8 x9 x10 x11 x12 x13 x14 x15 x16 x17 x18 : D) (S : Store) : lstOf [.d x0, .d x1, .d x2, .d x3, .d x4, .d x5, .d x6, .d x7, .d x8, .d x9, .d x10, .d x11, .d x12, .d x13, .d x14, .d x15, .d x16, .d x17, .d x18] S = .ok (.d (.lst [x0, x1, x2, x3, x4, x5, x6, x7, x8, x9, x10, x11, x12, x13, x14, x15, x16, x17, x18])) S := rfl
theorem bx_0 (S : Store) : boxOf [] S = .ok (.o S.length) (S ++ [.lst []]) := rfl
theorem add_ll {xs ys : List D} (h : xs.length + ys.length ≤ 100000) (S : Store) : binW .Add (.d (.lst xs)) (.d (.lst ys)) S = .ok (.d (.lst (xs ++ ys))) S := by
  show (match pureL (xs.map W.d ++ ys.map W.d) with | some ds => if ds.length ≤ 100000 then R.ok (W.d (.lst ds)) S else R.bad | none => R.bad) = _
  rw [← List.map_append, pureL_d]
  exact if_pos (by simpa using h)
theorem sl_l (ds : List D) (lo hi : Option Int) (S : Store) : slW (.d (.lst ds)) lo hi S = .ok (.d (.lst (cutG ds lo hi))) S := rfl
theorem sl_t (ds : List D) (lo hi : Option Int) (S : Store) : slW (.d (.tup ds)) lo hi S = .ok (.d (.tup (cutG ds lo hi))) S := rfl
theorem cut_mem {α : Type} {xs : List α} {lo hi : Option Int} {x : α} (h : x ∈ cutG xs lo hi) : x ∈ xs := List.mem_of_mem_drop (List.mem_of_mem_take h)
theorem cut_to {α : Type} (xs : List α) (k : Nat) : cutG xs none (some (k : Int)) = xs.take k := by
  unfold cutG
  rw [HT.sIx_none, HT.sIx_nat, List.drop_zero, Nat.sub_zero]
  by_cases h : k ≤ xs.length
  · rw [Nat.min_eq_left h]
  · rw [Nat.min_eq_right (by omega), List.take_of_length_le (Nat.le_refl _), List.take_of_length_le (by omega)]
theorem cut_from {α : Type} (xs : List α) (k : Nat) : cutG xs (some (k : Int)) none = xs.drop k := by
  unfold cutG
  rw [HT.sIx_none, HT.sIx_nat]
  by_cases h : k ≤ xs.length
  · rw [Nat.min_eq_left h]
    exact List.take_of_length_le (by simp)
  · rw [Nat.min_eq_right (by omega), List.drop_of_length_le (Nat.le_refl _), List.drop_of_length_le (by omega)]
    simp
/-! repr -/
def shwB (v : D) : Bool := v.plain && v.py.showable && !v.py.hasDict && decide (v.py.depth ≤ 60) && decide (v.py.shown.length ≤ 100000)
theorem repr_s {v : D} (h : shwB v = true) (S : Store) : reprM [.d v] S = .ok (.d (.str v.py.shown)) S := by
  unfold reprM
  simp only [asD]
  exact if_pos h
end Mi

namespace Mi
open PySem L2

/-! ### repr tells data apart -/
theorem str_ext {a b : Str} (h : a.cps.toList = b.cps.toList) : a = b := by
  obtain ⟨⟨x⟩⟩ := a
  obtain ⟨⟨y⟩⟩ := b
  cases h
  rfl
theorem int_repr_inj {i j : Int} (h : toString i = toString j) : i = j := by
  rw [Int.toString_eq_repr, Int.toString_eq_repr] at h
  rw [Int.repr_eq_if, Int.repr_eq_if] at h
  have nat : ∀ {m n : Nat}, m.repr = n.repr → m = n := fun {m n} e => by
    have := congrArg (fun s => Nat.ofDigitChars 10 s.toList 0) e
    simp only [Nat.toList_repr, Nat.ofDigitChars_ten_toDigits] at this
    exact this
  have neg : ∀ {m n : Nat}, ("-" ++ m.repr : String) ≠ n.repr := fun {m n} e => by
    have e2 := congrArg String.toList e
    rw [String.toList_append, Nat.toList_repr, Nat.toList_repr] at e2
    have : '-' ∈ Nat.toDigits 10 n := by rw [← e2]; simp
    have := Nat.isDigit_of_mem_toDigits (by decide) (by decide) this
    revert this
    decide
  split at h <;> split at h
  · have := nat h
    omega
  · exact absurd h.symm neg
  · exact absurd h neg
  · have e2 := congrArg String.toList h
    rw [String.toList_append, String.toList_append] at e2
    have := nat (String.toList_inj.mp (List.append_cancel_left e2))
    omega
/-- signs that repr leaves as they are -/
def safeC (c : Nat) : Bool := decide (32 ≤ c ∧ c ≤ 126 ∧ c ≠ 39 ∧ c ≠ 92)
def safeS (s : Str) : Bool := s.cps.toList.all safeC
theorem safe_print : ∀ c, safeC c = true → Builtin.Str.reprChar 39 c = [c] := by
  have h : ∀ c < 127, safeC c = true → Builtin.Str.reprChar 39 c = [c] := by decide +kernel
  intro c hc
  refine h c ?_ hc
  have := of_decide_eq_true hc
  omega
theorem repr_safe {s : Str} (h : safeS s = true) : (reprText s).cps.toList = 39 :: (s.cps.toList ++ [39]) := by
  have h := List.all_eq_true.mp h
  have q : reprQuote s = 39 := by
    unfold reprQuote
    rw [if_neg]
    intro z
    rw [Bool.and_eq_true] at z
    have := h 39 (by simpa using z.1)
    revert this
    decide
  unfold reprText
  rw [q, ← Array.foldl_toList]
  have f : ∀ (l : List Nat) (acc : Array Nat), (∀ c ∈ l, safeC c = true) → (l.foldl (fun out c => out ++ (Builtin.Str.reprChar 39 c).toArray) acc).toList = acc.toList ++ l := by
    intro l
    induction l with
    | nil => intro acc _; simp
    | cons c r ih =>
      intro acc hl
      rw [List.foldl_cons, ih _ fun d hd => hl d (List.mem_cons_of_mem _ hd), safe_print c (hl c (List.mem_cons_self ..))]
      simp
  simp only [Array.toList_push]
  rw [f _ _ h]
  simp
/-- plain data whose texts are safe -/
def D.safe : D → Bool
  | .non => true
  | .bl _ => true
  | .int _ => true
  | .str s => safeS s
  | .tup xs => safeL xs
  | .lst xs => safeL xs
  | _ => false
where safeL : List D → Bool
  | [] => true
  | x :: r => x.safe && safeL r
def itx (i : Int) : List Nat := (Str.ofString (toString i)).cps.toList
/-- the signs of repr -/
def sc : D → List Nat
  | .non => [78, 111, 110, 101]
  | .bl true => [84, 114, 117, 101]
  | .bl false => [70, 97, 108, 115, 101]
  | .int i => itx i
  | .str s => 39 :: (s.cps.toList ++ [39])
  | .lst xs => 91 :: (scL xs ++ [93])
  | .tup xs => 40 :: (scL xs ++ ((if xs.length = 1 then [44] else []) ++ [41]))
  | _ => []
where scL : List D → List Nat
  | [] => []
  | [x] => sc x
  | x :: y :: r => sc x ++ 44 :: 32 :: scL (y :: r)
theorem app_cps (a b : Str) : (a ++ b).cps.toList = a.cps.toList ++ b.cps.toList := by
  show (a.cps ++ b.cps).toList = _
  simp
theorem text_from : ∀ (ts : List Str) (k : Nat) (acc : Str), (textFrom (k + 1) acc ts).cps.toList = acc.cps.toList ++ (ts.map fun t => 44 :: 32 :: t.cps.toList).flatten
  | [], k, acc => by simp [textFrom]
  | t :: r, k, acc => by
    rw [textFrom, text_from r (k + 1), if_pos (Nat.succ_pos k), app_cps, app_cps]
    rw [show ((", " : String) : Str).cps.toList = [44, 32] from by decide +kernel]
    simp
theorem sc_flat : ∀ (x : D) (r : List D), sc.scL (x :: r) = sc x ++ (r.map fun t => 44 :: 32 :: sc t).flatten
  | x, [] => by simp [sc.scL]
  | x, y :: r => by
    rw [sc.scL, sc_flat y r]
    simp
theorem join_flat : ∀ (x : Str) (r : List Str), (Str.join ", " (x :: r)).cps.toList = x.cps.toList ++ (r.map fun t => 44 :: 32 :: t.cps.toList).flatten
  | x, [] => by simp [Str.join]
  | x, y :: r => by
    rw [show Str.join ", " (x :: y :: r) = x ++ ", " ++ Str.join ", " (y :: r) from rfl, app_cps, app_cps, join_flat y r]
    rw [show ((", " : String) : Str).cps.toList = [44, 32] from by decide +kernel]
    simp
theorem shownAll_len : ∀ xs : List D, (PyData.shownAll (pyL xs)).length = xs.length
  | [] => by simp [pyL, PyData.shownAll]
  | x :: r => by simp [pyL, PyData.shownAll, shownAll_len r]
mutual
theorem shown_sc : ∀ {x : D}, x.safe = true → x.py.shown.cps.toList = sc x
  | .non, _ => by simp only [D.py, PyData.shown, sc]; decide +kernel
  | .bl true, _ => by simp only [D.py, PyData.shown, sc, if_true]; decide +kernel
  | .bl false, _ => by simp only [D.py, PyData.shown, sc]; decide +kernel
  | .int i, _ => by simp only [D.py, PyData.shown, sc]; rfl
  | .str s, h => by
    simp only [D.py, PyData.shown, sc]
    exact repr_safe (by simpa [D.safe] using h)
  | .lst xs, h => by
    have h : D.safe.safeL xs = true := by simpa [D.safe] using h
    simp only [D.py, PyData.shown, sc]
    unfold listText
    cases xs with
    | nil => simp only [pyL, PyData.shownAll, textFrom, sc.scL]; decide +kernel
    | cons x r =>
      have h2 := h
      simp only [D.safe.safeL, Bool.and_eq_true] at h
      simp only [pyL, PyData.shownAll]
      rw [textFrom, app_cps, text_from, if_neg (by decide), app_cps, app_cps, shown_sc h.1, sc_flat, shownL_sc h.2]
      rw [show (("[" : String) : Str).cps.toList = [91] from by decide +kernel, show (("" : String) : Str).cps.toList = [] from by decide +kernel, show (("]" : String) : Str).cps.toList = [93] from by decide +kernel]
      simp
  | .tup xs, h => by
    have h : D.safe.safeL xs = true := by simpa [D.safe] using h
    simp only [D.py, PyData.shown, sc]
    unfold tupleText
    cases xs with
    | nil => simp only [pyL, PyData.shownAll, Str.join, sc.scL]; decide +kernel
    | cons x r =>
      simp only [D.safe.safeL, Bool.and_eq_true] at h
      simp only [pyL, PyData.shownAll]
      rw [app_cps, app_cps, join_flat, shown_sc h.1, sc_flat, shownL_sc h.2]
      rw [show (("(" : String) : Str).cps.toList = [40] from by decide +kernel]
      simp only [List.length_cons, shownAll_len]
      cases r with
      | nil =>
        simp
        decide +kernel
      | cons y z =>
        simp
        decide +kernel
  | .scr _, h => by simp [D.safe] at h
  | .ins _ _, h => by simp [D.safe] at h
theorem shownL_sc : ∀ {xs : List D}, D.safe.safeL xs = true → ((PyData.shownAll (pyL xs)).map fun t => 44 :: 32 :: t.cps.toList) = xs.map fun t => 44 :: 32 :: sc t
  | [], _ => by simp [pyL, PyData.shownAll]
  | x :: r, h => by
    simp only [D.safe.safeL, Bool.and_eq_true] at h
    simp only [pyL, PyData.shownAll, List.map_cons]
    rw [shown_sc h.1, shownL_sc h.2]
end
/-- what may stand behind a piece -/
def Term : List Nat → Prop
  | [] => True
  | c :: _ => c = 44 ∨ c = 41 ∨ c = 93
theorem take_dig {p : Nat → Prop} : ∀ {a b s t : List Nat}, (∀ c ∈ a, p c) → (∀ c ∈ b, p c) → (∀ c r, s = c :: r → ¬ p c) → (∀ c r, t = c :: r → ¬ p c) → a ++ s = b ++ t → a = b ∧ s = t
  | [], [], _, _, _, _, _, _, h => ⟨rfl, h⟩
  | [], y :: b, s, t, _, hb, hs, _, h => absurd (hb y (List.mem_cons_self ..)) (hs y (b ++ t) h)
  | x :: a, [], s, t, ha, _, _, ht, h => absurd (ha x (List.mem_cons_self ..)) (ht x (a ++ s) h.symm)
  | x :: a, y :: b, s, t, ha, hb, hs, ht, h => by
    rw [List.cons_append, List.cons_append] at h
    injection h with h1 h2
    obtain ⟨e1, e2⟩ := take_dig (fun c hc => ha c (List.mem_cons_of_mem _ hc)) (fun c hc => hb c (List.mem_cons_of_mem _ hc)) hs ht h2
    exact ⟨by rw [h1, e1], e2⟩
theorem itx_dig (i : Int) : ∀ c ∈ itx i, c = 45 ∨ (48 ≤ c ∧ c ≤ 57) := by
  intro c hc
  by_cases h : c = 45 ∨ (48 ≤ c ∧ c ≤ 57)
  · exact h
  · exact absurd hc (PyProof.Rows.int_text_free' c ⟨by omega, by omega⟩ i)
theorem itx_ne (i : Int) : itx i ≠ [] := by
  unfold itx
  rw [PyProof.Rows.signs_ofString]
  intro h
  rw [List.map_eq_nil_iff, Int.toString_eq_repr, Int.repr_eq_if] at h
  split at h
  · rw [Nat.toList_repr] at h
    exact Nat.toDigits_ne_nil h
  · rw [String.toList_append] at h
    exact absurd (List.append_eq_nil_iff.mp h).1 (by decide)
theorem itx_inj {i j : Int} (h : itx i = itx j) : i = j := by
  unfold itx at h
  rw [PyProof.Rows.signs_ofString, PyProof.Rows.signs_ofString] at h
  refine int_repr_inj (String.toList_inj.mp ?_)
  have inj : ∀ (a b : List Char), a.map Char.toNat = b.map Char.toNat → a = b := by
    intro a
    induction a with
    | nil =>
      intro b e
      cases b with
      | nil => rfl
      | cons _ _ => simp at e
    | cons x r ih =>
      intro b e
      cases b with
      | nil => simp at e
      | cons y z =>
        rw [List.map_cons, List.map_cons] at e
        injection e with e1 e2
        rw [ih z e2, Char.toNat_inj.mp e1]
  exact inj _ _ h
/-- the kind by the first sign -/
def kd0 : D → Nat
  | .non => 1
  | .bl true => 2
  | .bl false => 3
  | .int _ => 4
  | .str _ => 5
  | .lst _ => 6
  | .tup _ => 7
  | _ => 8
def kdc (c : Nat) : Nat := if c = 78 then 1 else if c = 84 then 2 else if c = 70 then 3 else if c = 45 ∨ (48 ≤ c ∧ c ≤ 57) then 4 else if c = 39 then 5 else if c = 91 then 6 else if c = 40 then 7 else 0
theorem sc_head {x : D} (h : x.safe = true) : ∃ c r, sc x = c :: r ∧ kdc c = kd0 x := by
  cases x with
  | non => exact ⟨_, _, by simp only [sc]; rfl, rfl⟩
  | bl b => cases b <;> exact ⟨_, _, by simp only [sc]; rfl, rfl⟩
  | int i =>
    cases e : itx i with
    | nil => exact absurd e (itx_ne i)
    | cons c r =>
      refine ⟨c, r, by simp only [sc]; exact e, ?_⟩
      have := itx_dig i c (by rw [e]; simp)
      unfold kdc kd0
      rw [if_neg (by omega), if_neg (by omega), if_neg (by omega), if_pos this]
  | str s => exact ⟨_, _, by simp only [sc]; rfl, rfl⟩
  | lst xs => exact ⟨_, _, by simp only [sc]; rfl, rfl⟩
  | tup xs => exact ⟨_, _, by simp only [sc]; rfl, rfl⟩
  | scr _ => simp [D.safe] at h
  | ins _ _ => simp [D.safe] at h
theorem sc_kind {x y : D} {s t : List Nat} (hx : x.safe = true) (hy : y.safe = true) (h : sc x ++ s = sc y ++ t) : kd0 x = kd0 y := by
  obtain ⟨c, r, e1, k1⟩ := sc_head hx
  obtain ⟨d, q, e2, k2⟩ := sc_head hy
  rw [e1, e2, List.cons_append, List.cons_append] at h
  injection h with h1 _
  rw [← k1, ← k2, h1]
theorem term_dig {s : List Nat} (h : Term s) : ∀ c r, s = c :: r → ¬ (c = 45 ∨ (48 ≤ c ∧ c ≤ 57)) := by
  rintro c r rfl
  unfold Term at h
  omega
theorem sc_no {x : D} (h : x.safe = true) (c : Nat) (hc : c = 93 ∨ c = 41 ∨ c = 44) (s t : List Nat) : sc x ++ s ≠ c :: t := by
  intro e
  obtain ⟨d, r, e1, k1⟩ := sc_head h
  rw [e1, List.cons_append] at e
  injection e with e2 _
  subst e2
  have : kdc d = 0 := by rcases hc with rfl | rfl | rfl <;> rfl
  rw [this] at k1
  cases x <;> first | (cases k1; done) | skip
  rename_i b
  cases b <;> cases k1
theorem term_c {c : Nat} {r : List Nat} (h : c = 44 ∨ c = 41 ∨ c = 93) : Term (c :: r) := h
mutual
theorem sc_inj : ∀ {x y : D} {s t : List Nat}, x.safe = true → y.safe = true → Term s → Term t → sc x ++ s = sc y ++ t → x = y ∧ s = t
  | .non, y, s, t, hx, hy, hs, ht, h => by
    have k := sc_kind hx hy h
    cases y <;> first | (cases k; done) | skip
    · simp only [sc, List.cons_append, List.nil_append, List.cons.injEq, true_and] at h
      exact ⟨rfl, h⟩
    · rename_i b
      cases b <;> cases k
  | .bl true, y, s, t, hx, hy, hs, ht, h => by
    have k := sc_kind hx hy h
    cases y <;> first | (cases k; done) | skip
    rename_i b
    cases b
    · cases k
    · simp only [sc, List.cons_append, List.nil_append, List.cons.injEq, true_and] at h
      exact ⟨rfl, h⟩
  | .bl false, y, s, t, hx, hy, hs, ht, h => by
    have k := sc_kind hx hy h
    cases y <;> first | (cases k; done) | skip
    rename_i b
    cases b
    · simp only [sc, List.cons_append, List.nil_append, List.cons.injEq, true_and] at h
      exact ⟨rfl, h⟩
    · cases k
  | .int i, y, s, t, hx, hy, hs, ht, h => by
    have k := sc_kind hx hy h
    cases y <;> first | (cases k; done) | skip
    · rename_i b
      cases b <;> cases k
    · rename_i j
      simp only [sc] at h
      obtain ⟨e1, e2⟩ := take_dig (itx_dig i) (itx_dig j) (term_dig hs) (term_dig ht) h
      exact ⟨by rw [itx_inj e1], e2⟩
  | .str a, y, s, t, hx, hy, hs, ht, h => by
    have k := sc_kind hx hy h
    cases y <;> first | (cases k; done) | skip
    · rename_i b
      cases b <;> cases k
    · rename_i b
      simp only [sc, List.cons_append, List.append_assoc, List.cons.injEq, true_and, List.nil_append] at h
      have na : ∀ {z : Str}, D.safe (.str z) = true → ∀ c ∈ z.cps.toList, c ≠ 39 := fun {z} hz c hc e => by
        have hz : safeS z = true := by simpa [D.safe] using hz
        have := of_decide_eq_true (List.all_eq_true.mp hz c hc)
        omega
      obtain ⟨e1, e2⟩ := take_dig (p := fun c => c ≠ 39) (na hx) (na hy) (fun c r e => by cases e; simp) (fun c r e => by cases e; simp) h
      injection e2 with _ e2
      exact ⟨by rw [str_ext e1], e2⟩
  | .lst xs, y, s, t, hx, hy, hs, ht, h => by
    have k := sc_kind hx hy h
    cases y <;> first | (cases k; done) | skip
    · rename_i b
      cases b <;> cases k
    · rename_i ys
      simp only [sc, List.cons_append, List.append_assoc, List.cons.injEq, true_and, List.nil_append] at h
      obtain ⟨e1, e2⟩ := scL_inj (.inl rfl) (by simpa [D.safe] using hx) (by simpa [D.safe] using hy) h
      exact ⟨by rw [e1], e2⟩
  | .tup xs, y, s, t, hx, hy, hs, ht, h => by
    have k := sc_kind hx hy h
    cases y <;> first | (cases k; done) | skip
    · rename_i b
      cases b <;> cases k
    · rename_i ys
      simp only [sc, List.cons_append, List.append_assoc, List.cons.injEq, true_and, List.nil_append] at h
      obtain ⟨e1, e2⟩ := scT_inj (by simpa [D.safe] using hx) (by simpa [D.safe] using hy) h
      exact ⟨by rw [e1], e2⟩
  | .scr _, _, _, _, hx, _, _, _, _ => by simp [D.safe] at hx
  | .ins _ _, _, _, _, hx, _, _, _, _ => by simp [D.safe] at hx
theorem scL_inj : ∀ {xs ys : List D} {s t : List Nat} {c : Nat}, (c = 93 ∨ c = 41) → D.safe.safeL xs = true → D.safe.safeL ys = true → sc.scL xs ++ c :: s = sc.scL ys ++ c :: t → xs = ys ∧ s = t
  | [], [], s, t, c, _, _, _, h => by
    simp only [sc.scL, List.nil_append, List.cons.injEq, true_and] at h
    exact ⟨rfl, h⟩
  | [], [y], s, t, c, hc, _, hy, h => by
    simp only [D.safe.safeL, Bool.and_eq_true] at hy
    simp only [sc.scL, List.nil_append] at h
    exact absurd h.symm (sc_no hy.1 c (by omega) _ _)
  | [], y :: z :: r, s, t, c, hc, _, hy, h => by
    simp only [D.safe.safeL, Bool.and_eq_true] at hy
    simp only [sc.scL, List.nil_append, List.append_assoc] at h
    exact absurd h.symm (sc_no hy.1 c (by omega) _ _)
  | [x], [], s, t, c, hc, hx, _, h => by
    simp only [D.safe.safeL, Bool.and_eq_true] at hx
    simp only [sc.scL, List.nil_append] at h
    exact absurd h (sc_no hx.1 c (by omega) _ _)
  | [x], [y], s, t, c, hc, hx, hy, h => by
    simp only [D.safe.safeL, Bool.and_eq_true] at hx hy
    simp only [sc.scL] at h
    obtain ⟨e1, e2⟩ := sc_inj hx.1 hy.1 (term_c (by omega)) (term_c (by omega)) h
    injection e2 with _ e2
    exact ⟨by rw [e1], e2⟩
  | [x], y :: z :: r, s, t, c, hc, hx, hy, h => by
    simp only [D.safe.safeL, Bool.and_eq_true] at hx hy
    simp only [sc.scL, List.append_assoc, List.cons_append] at h
    obtain ⟨e1, e2⟩ := sc_inj hx.1 hy.1 (term_c (by omega)) (term_c (by omega)) h
    injection e2 with e2 _
    omega
  | x :: w :: q, [], s, t, c, hc, hx, _, h => by
    simp only [D.safe.safeL, Bool.and_eq_true] at hx
    simp only [sc.scL, List.nil_append, List.append_assoc] at h
    exact absurd h (sc_no hx.1 c (by omega) _ _)
  | x :: w :: q, [y], s, t, c, hc, hx, hy, h => by
    simp only [D.safe.safeL, Bool.and_eq_true] at hx hy
    simp only [sc.scL, List.append_assoc, List.cons_append] at h
    obtain ⟨e1, e2⟩ := sc_inj hx.1 hy.1 (term_c (by omega)) (term_c (by omega)) h
    injection e2 with e2 _
    omega
  | x :: w :: q, y :: z :: r, s, t, c, hc, hx, hy, h => by
    have hx2 : D.safe.safeL (w :: q) = true := by simp only [D.safe.safeL, Bool.and_eq_true] at hx ⊢; exact hx.2
    have hy2 : D.safe.safeL (z :: r) = true := by simp only [D.safe.safeL, Bool.and_eq_true] at hy ⊢; exact hy.2
    simp only [D.safe.safeL, Bool.and_eq_true] at hx hy
    rw [sc.scL, sc.scL, List.append_assoc, List.append_assoc] at h
    obtain ⟨e1, e2⟩ := sc_inj hx.1 hy.1 (term_c (by omega)) (term_c (by omega)) h
    injection e2 with _ e2
    have e2 : 32 :: (sc.scL (w :: q) ++ c :: s) = 32 :: (sc.scL (z :: r) ++ c :: t) := e2
    injection e2 with _ e2
    obtain ⟨e3, e4⟩ := scL_inj hc hx2 hy2 e2
    exact ⟨by rw [e1, e3], e4⟩
theorem scT_inj : ∀ {xs ys : List D} {s t : List Nat}, D.safe.safeL xs = true → D.safe.safeL ys = true → sc.scL xs ++ ((if xs.length = 1 then [44] else []) ++ 41 :: s) = sc.scL ys ++ ((if ys.length = 1 then [44] else []) ++ 41 :: t) → xs = ys ∧ s = t
  | [x], [y], s, t, hx, hy, h => by
    simp only [D.safe.safeL, Bool.and_eq_true] at hx hy
    simp only [sc.scL] at h
    obtain ⟨e1, e2⟩ := sc_inj hx.1 hy.1 (term_c (by omega)) (term_c (by omega)) h
    simp at e2
    exact ⟨by rw [e1], e2⟩
  | [x], [], s, t, hx, _, h => by
    simp only [D.safe.safeL, Bool.and_eq_true] at hx
    simp only [sc.scL, List.nil_append, List.length_nil] at h
    exact absurd h (sc_no hx.1 41 (by omega) _ _)
  | [x], y :: z :: r, s, t, hx, hy, h => by
    simp only [D.safe.safeL, Bool.and_eq_true] at hx hy
    simp only [sc.scL, List.append_assoc, List.cons_append] at h
    obtain ⟨e1, e2⟩ := sc_inj hx.1 hy.1 (term_c (by omega)) (term_c (by omega)) h
    simp at e2
  | [], [y], s, t, _, hy, h => by
    simp only [D.safe.safeL, Bool.and_eq_true] at hy
    simp only [sc.scL, List.nil_append, List.length_nil] at h
    exact absurd h.symm (sc_no hy.1 41 (by omega) _ _)
  | x :: w :: q, [y], s, t, hx, hy, h => by
    simp only [D.safe.safeL, Bool.and_eq_true] at hx hy
    simp only [sc.scL, List.append_assoc, List.cons_append] at h
    obtain ⟨e1, e2⟩ := sc_inj hx.1 hy.1 (term_c (by omega)) (term_c (by omega)) h
    simp at e2
  | [], [], s, t, _, _, h => by
    simp [sc.scL] at h
    exact ⟨rfl, h⟩
  | [], y :: z :: r, s, t, hx, hy, h => scL_inj (c := 41) (.inr rfl) hx hy (by simpa using h)
  | x :: w :: q, [], s, t, hx, hy, h => scL_inj (c := 41) (.inr rfl) hx hy (by simpa using h)
  | x :: w :: q, y :: z :: r, s, t, hx, hy, h => scL_inj (c := 41) (.inr rfl) hx hy (by simpa using h)
end
/-- repr tells safe data apart -/
theorem shown_inj {x y : D} (hx : x.safe = true) (hy : y.safe = true) (h : x.py.shown = y.py.shown) : x = y := by
  have e : sc x ++ [] = sc y ++ [] := by rw [← shown_sc hx, ← shown_sc hy, h]
  exact (sc_inj (s := []) (t := []) hx hy True.intro True.intro e).1
end Mi

namespace Mi
open PySem L2

/-! ### data that may be shown and compared -/
structure Gd (d m : Nat) (v : D) : Prop where
  ok : Ok d v
  safe : v.safe = true
  sh : v.py.showable = true
  len : (sc v).length ≤ m
theorem Gd.mono {d m d' m' : Nat} {v : D} (h : Gd d m v) (h1 : d ≤ d') (h2 : m ≤ m') : Gd d' m' v := ⟨h.ok.mono h1, h.safe, h.sh, Nat.le_trans h.len h2⟩
def shwD (v : D) : Bool := v.plain && v.py.showable && !v.py.hasDict && decide (v.py.depth ≤ 60) && decide (v.py.shown.length ≤ 100000)
theorem len_cps (s : Str) : s.length = s.cps.toList.length := by simp [Str.length]
theorem Gd.shw {d m : Nat} {v : D} (h : Gd d m v) (h1 : d ≤ 60 := by decide) (h2 : m ≤ 100000 := by decide) : shwD v = true := by
  have := h.ok.d
  have := h.len
  unfold shwD
  rw [h.ok.p, h.sh, PyData.hasDict_of_canLay _ h.ok.c, decide_eq_true (by omega), decide_eq_true (by rw [len_cps, shown_sc h.safe]; omega)]
  rfl
theorem repr_g {d m : Nat} {v : D} (h : Gd d m v) (S : Store) (h1 : d ≤ 60 := by decide) (h2 : m ≤ 100000 := by decide) : reprM [.d v] S = .ok (.d (.str v.py.shown)) S := by
  unfold reprM
  simp only [asD]
  exact if_pos (h.shw h1 h2)
theorem scL_len {m : Nat} : ∀ {xs : List D}, (∀ x ∈ xs, (sc x).length ≤ m) → (sc.scL xs).length ≤ xs.length * (m + 2)
  | [], _ => by simp [sc.scL]
  | [x], h => by
    have := h x (by simp)
    simp only [sc.scL, List.length_cons, List.length_nil]
    omega
  | x :: y :: r, h => by
    have h1 := h x (by simp)
    have h2 := scL_len (xs := y :: r) fun z hz => h z (List.mem_cons_of_mem _ hz)
    simp only [sc.scL, List.length_append, List.length_cons] at h2 ⊢
    rw [Nat.add_mul, Nat.one_mul] at h2 ⊢
    rw [Nat.add_mul, Nat.one_mul]
    omega
theorem safeL_of : ∀ {xs : List D}, (∀ x ∈ xs, x.safe = true) → D.safe.safeL xs = true
  | [], _ => by simp [D.safe.safeL]
  | x :: r, h => by simp only [D.safe.safeL, h x (List.mem_cons_self ..), safeL_of fun y hy => h y (List.mem_cons_of_mem _ hy), Bool.and_self]
theorem showL_of : ∀ {xs : List D}, (∀ x ∈ xs, x.py.showable = true) → PyData.showableAll (pyL xs) = true
  | [], _ => by simp [pyL, PyData.showableAll]
  | x :: r, h => by simp only [pyL, PyData.showableAll, h x (List.mem_cons_self ..), showL_of fun y hy => h y (List.mem_cons_of_mem _ hy), Bool.and_self]
theorem Gd.tup {d m k : Nat} {xs : List D} (h : ∀ x ∈ xs, Gd d m x) (hk : xs.length ≤ k) : Gd (d + 1) (k * (m + 2) + 3) (.tup xs) := by
  refine ⟨Ok.tup fun x hx => (h x hx).ok, by simp only [D.safe]; exact safeL_of fun x hx => (h x hx).safe, by simp only [D.py, PyData.showable]; exact showL_of fun x hx => (h x hx).sh, ?_⟩
  have := scL_len fun x hx => (h x hx).len
  have := Nat.mul_le_mul_right (m + 2) hk
  simp only [sc, List.length_cons, List.length_append, List.length_nil]
  split <;> simp <;> omega
theorem Gd.lst {d m k : Nat} {xs : List D} (h : ∀ x ∈ xs, Gd d m x) (hk : xs.length ≤ k) : Gd (d + 1) (k * (m + 2) + 3) (.lst xs) := by
  refine ⟨Ok.lst fun x hx => (h x hx).ok, by simp only [D.safe]; exact safeL_of fun x hx => (h x hx).safe, by simp only [D.py, PyData.showable]; exact showL_of fun x hx => (h x hx).sh, ?_⟩
  have := scL_len fun x hx => (h x hx).len
  have := Nat.mul_le_mul_right (m + 2) hk
  simp only [sc, List.length_cons, List.length_append, List.length_nil]
  omega
theorem Gd.bl {b : Bool} : Gd 0 5 (.bl b) := ⟨Ok.bl, by simp [D.safe], by simp [D.py, PyData.showable], by cases b <;> simp [sc]⟩
theorem Gd.non : Gd 0 5 .non := ⟨Ok.non, by simp [D.safe], by simp [D.py, PyData.showable], by simp [sc]⟩
/-- one check for what is written -/
def gdB (d m : Nat) (v : D) : Bool := v.plain && v.py.canLay0 && decide (v.py.depth ≤ d) && v.safe && v.py.showable && decide ((sc v).length ≤ m)
theorem gd_of {d m : Nat} {v : D} (h : gdB d m v = true) : Gd d m v := by
  unfold gdB at h
  simp only [Bool.and_eq_true, decide_eq_true_eq] at h
  obtain ⟨⟨⟨⟨⟨h1, h2⟩, h3⟩, h4⟩, h5⟩, h6⟩ := h
  exact ⟨⟨h1, h2, h3⟩, h4, h5, h6⟩
/- what is shown is a text -/
mutual
theorem sc_small : ∀ {x : D}, x.safe = true → ∀ c ∈ sc x, c < 127
  | .non, _ => by simp only [sc]; decide
  | .bl true, _ => by simp only [sc]; decide
  | .bl false, _ => by simp only [sc]; decide
  | .int i, _ => fun c hc => by
    simp only [sc] at hc
    have := itx_dig i c hc
    omega
  | .str s, h => fun c hc => by
    have h : safeS s = true := by simpa [D.safe] using h
    simp only [sc, List.mem_cons, List.mem_append, List.not_mem_nil, or_false] at hc
    rcases hc with rfl | hc | rfl
    · decide
    · have := of_decide_eq_true (List.all_eq_true.mp h c hc)
      omega
    · decide
  | .lst xs, h => fun c hc => by
    simp only [sc, List.mem_cons, List.mem_append, List.not_mem_nil, or_false] at hc
    rcases hc with rfl | hc | rfl
    · decide
    · exact scL_small (by simpa [D.safe] using h) c hc
    · decide
  | .tup xs, h => fun c hc => by
    simp only [sc, List.mem_cons, List.mem_append, List.not_mem_nil, or_false] at hc
    rcases hc with rfl | hc | hc | rfl
    · decide
    · exact scL_small (by simpa [D.safe] using h) c hc
    · split at hc
      · simp at hc
        omega
      · cases hc
    · decide
  | .scr _, h => by simp [D.safe] at h
  | .ins _ _, h => by simp [D.safe] at h
theorem scL_small : ∀ {xs : List D}, D.safe.safeL xs = true → ∀ c ∈ sc.scL xs, c < 127
  | [], _ => by simp [sc.scL]
  | [x], h => by
    simp only [D.safe.safeL, Bool.and_eq_true] at h
    simp only [sc.scL]
    exact sc_small h.1
  | x :: y :: r, h => fun c hc => by
    have h2 : D.safe.safeL (y :: r) = true := by simp only [D.safe.safeL, Bool.and_eq_true] at h ⊢; exact h.2
    simp only [D.safe.safeL, Bool.and_eq_true] at h
    simp only [sc.scL, List.mem_append, List.mem_cons] at hc
    rcases hc with hc | rfl | rfl | hc
    · exact sc_small h.1 c hc
    · decide
    · decide
    · exact scL_small h2 c hc
end
theorem Gd.text {d m : Nat} {v : D} (h : Gd d m v) : Ok 0 (.str v.py.shown) := Ok.str (by
  unfold PyData.strOk
  rw [Array.all_eq_true_iff_forall_mem]
  intro c hc
  have : c ∈ v.py.shown.cps.toList := by simpa using hc
  rw [shown_sc h.safe] at this
  have := sc_small h.safe c this
  exact decide_eq_true (by omega))
theorem eq_bl (a b : Bool) (ow : Own) (k : Bool) (S : Store) : cmpX ow k .Eq (.d (.bl a)) (.d (.bl b)) S = .ok (.d (.bl (a == b))) S := by
  rw [cx_eq S rfl, eqW_d S false (eqD_ok (m := 0) (n := 0) Ok.bl Ok.bl), od_ok]
  simp [D.py, PyData.eqv]
end Mi

namespace Mi
open PySem L2

/-! ### == of what may hold objects with an own __eq__: equal is the same -/
structure EqT (ow : Own) (n : Nat) (x y : D) : Prop where
  r : ∃ r, eqN ow n x y = some r ∧ (r = true ↔ x = y)
  s : sim x y = true → x = y
  v : x.plain = true → y.plain = true → (PyData.eqv x.py y.py = true ↔ x = y)
/-- at the same places -/
inductive EqTs (ow : Own) (n : Nat) : List D → List D → Prop
  | nl (ys : List D) : EqTs ow n [] ys
  | nr (xs : List D) : EqTs ow n xs []
  | cons {x y : D} {xs ys : List D} : EqT ow n x y → EqTs ow n xs ys → EqTs ow n (x :: xs) (y :: ys)
theorem EqTs.all {ow : Own} {n : Nat} : ∀ {xs ys : List D}, (∀ x ∈ xs, ∀ y ∈ ys, EqT ow n x y) → EqTs ow n xs ys
  | [], ys, _ => .nl ys
  | x :: xs, [], _ => .nr _
  | x :: xs, y :: ys, h => .cons (h x (List.mem_cons_self ..) y (List.mem_cons_self ..)) (EqTs.all fun a ha b hb => h a (List.mem_cons_of_mem _ ha) b (List.mem_cons_of_mem _ hb))
theorem eqLs_T {ow : Own} {n : Nat} {xs ys : List D} (h : EqTs ow n xs ys) : (∃ r, eqLs (eqN ow n) xs ys = some r ∧ (r = true ↔ xs = ys)) ∧ (simL xs ys = true → xs = ys) ∧ (plainL xs = true → plainL ys = true → (PyData.eqvAll (pyL xs) (pyL ys) = true ↔ xs = ys)) := by
  induction h with
  | nl ys =>
    cases ys with
    | nil => exact ⟨⟨true, rfl, by simp⟩, fun _ => rfl, fun _ _ => by simp [pyL, PyData.eqvAll]⟩
    | cons y ys => exact ⟨⟨false, rfl, by simp⟩, fun h => by simp [simL] at h, fun _ _ => by simp [pyL, PyData.eqvAll]⟩
  | nr xs =>
    cases xs with
    | nil => exact ⟨⟨true, rfl, by simp⟩, fun _ => rfl, fun _ _ => by simp [pyL, PyData.eqvAll]⟩
    | cons x xs => exact ⟨⟨false, rfl, by simp⟩, fun h => by simp [simL] at h, fun _ _ => by simp [pyL, PyData.eqvAll]⟩
  | cons e _ ih =>
    rename_i x y xs ys _
    obtain ⟨⟨r, h1, h2⟩, h3, h4⟩ := ih
    obtain ⟨⟨q, e1, e2⟩, e3, e4⟩ := e
    refine ⟨?_, fun h => ?_, fun p1 p2 => ?_⟩
    · rw [eqLs, e1]
      cases q with
      | true =>
        refine ⟨r, h1, ?_⟩
        have := e2.mp rfl
        rw [h2, List.cons.injEq]
        exact ⟨fun z => ⟨this, z⟩, fun z => z.2⟩
      | false =>
        refine ⟨false, rfl, ?_⟩
        rw [List.cons.injEq]
        exact ⟨fun z => (nomatch z), fun z => by rw [e2]; exact z.1⟩
    · simp only [simL, Bool.and_eq_true] at h
      rw [e3 h.1, h3 h.2]
    · simp only [plainL, Bool.and_eq_true] at p1 p2
      simp only [pyL, PyData.eqvAll, Bool.and_eq_true, List.cons.injEq]
      rw [e4 p1.1 p2.1, h4 p1.2 p2.2]
theorem eqC_T {x y : D} {r : Bool} (h : r = true ↔ x = y) (s : sim x y = true → x = y) : eqC x y (some r) = some r := by
  cases r with
  | true => rfl
  | false =>
    show (if sim x y then none else some false) = _
    rw [if_neg fun z => ?_]
    have := h.mpr (s z)
    cases this
theorem EqT.tup {ow : Own} {n : Nat} {xs ys : List D} (h : EqTs ow n xs ys) : EqT ow (n + 1) (.tup xs) (.tup ys) := by
  obtain ⟨⟨r, h1, h2⟩, h3, h4⟩ := eqLs_T h
  have s : sim (.tup xs) (.tup ys) = true → D.tup xs = D.tup ys := fun z => by rw [h3 (by simpa [sim] using z)]
  have q : r = true ↔ D.tup xs = D.tup ys := by rw [h2, D.tup.injEq]
  refine ⟨⟨r, ?_, q⟩, s, fun p1 p2 => ?_⟩
  · rw [eqN, h1, eqC_T q s]
  · simp only [D.py, PyData.eqv, D.tup.injEq]
    exact h4 (by simpa [D.plain] using p1) (by simpa [D.plain] using p2)
theorem EqT.lst {ow : Own} {n : Nat} {xs ys : List D} (h : EqTs ow n xs ys) : EqT ow (n + 1) (.lst xs) (.lst ys) := by
  obtain ⟨⟨r, h1, h2⟩, h3, h4⟩ := eqLs_T h
  have s : sim (.lst xs) (.lst ys) = true → D.lst xs = D.lst ys := fun z => by rw [h3 (by simpa [sim] using z)]
  have q : r = true ↔ D.lst xs = D.lst ys := by rw [h2, D.lst.injEq]
  refine ⟨?_, s, fun p1 p2 => ?_⟩
  · rw [eqN, h1]
    split
    · exact ⟨r, eqC_T q s, q⟩
    · rename_i hl
      have ne : ¬ D.lst xs = D.lst ys := fun e => hl (by rw [D.lst.injEq] at e; rw [e])
      have q' : false = true ↔ D.lst xs = D.lst ys := ⟨fun z => (nomatch z), fun z => (ne z).elim⟩
      exact ⟨false, eqC_T q' s, q'⟩
  · simp only [D.py, PyData.eqv, D.lst.injEq]
    exact h4 (by simpa [D.plain] using p1) (by simpa [D.plain] using p2)
theorem eqN_str (ow : Own) (n : Nat) (a b : Str) : eqN ow n (.str a) (.str b) = some (decide (a = b)) := by
  cases n <;> rfl
theorem EqT.str {ow : Own} {n : Nat} {a b : Str} : EqT ow n (.str a) (.str b) := by
  refine ⟨⟨_, eqN_str ow n a b, by simp⟩, fun z => ?_, fun _ _ => by simp [D.py, PyData.eqv]⟩
  have : a = b := by simpa [sim] using z
  rw [this]
theorem eqN_bl (ow : Own) (n : Nat) (a b : Bool) : eqN ow n (.bl a) (.bl b) = some (a == b) := by
  have e : eqN ow n (.bl a) (.bl b) = eqD (.bl a) (.bl b) := by cases n <;> rfl
  rw [e, eqD_ok (m := 0) (n := 0) Ok.bl Ok.bl]
  simp [D.py, PyData.eqv]
theorem EqT.bl {ow : Own} {n : Nat} {a b : Bool} : EqT ow n (.bl a) (.bl b) := by
  refine ⟨⟨_, eqN_bl ow n a b, by simp⟩, fun z => ?_, fun _ _ => by simp [D.py, PyData.eqv]⟩
  have : a = b := by simpa [sim] using z
  rw [this]
theorem EqT.ins {ow : Own} {n : Nat} {c : Str} {fs : List (Str × D)} {y : D} {r : Bool} (h : eqI ow (.ins c fs) y = some r) (hr : r = true ↔ D.ins c fs = y) (hs : sim (.ins c fs) y = true → D.ins c fs = y) : EqT ow (n + 1) (.ins c fs) y := by
  refine ⟨⟨r, ?_, hr⟩, hs, fun p _ => ?_⟩
  · rw [eqN, h, eqC_T hr hs]
  · simp [D.plain] at p
theorem eqD_T {x y : D} {b : Bool} (h : eqD x y = some b) (hx : x.noIns = true) : (b = true ↔ PyData.eqv x.py y.py = true) ∧ x.plain = true ∧ y.plain = true := by
  unfold eqD at h
  split at h
  · cases h
    exact ⟨by simp [D.py, PyData.eqv], rfl, rfl⟩
  · split at h
    · rename_i hok
      cases h
      simp only [D.ok, Bool.and_eq_true] at hok
      exact ⟨Iff.rfl, hok.1.1, hok.2.1⟩
    · cases h
/-- tuples -/
theorem cmp_T {ow : Own} {xs ys : List D} (h : EqTs ow 6 xs ys) (S : Store) : ∃ r, cmpX ow true .Eq (.d (.tup xs)) (.d (.tup ys)) S = .ok (.d (.bl r)) S ∧ cmpX ow true .NotEq (.d (.tup xs)) (.d (.tup ys)) S = .ok (.d (.bl !r)) S ∧ (r = true ↔ xs = ys) := by
  rw [cx_eq S rfl, cx_ne S rfl]
  unfold eqW
  simp only [asD]
  cases hD : eqD (.tup xs) (.tup ys) with
  | some b =>
    obtain ⟨h1, h2, h3⟩ := eqD_T hD rfl
    refine ⟨b, rfl, rfl, ?_⟩
    rw [h1, (EqT.tup h).v h2 h3, D.tup.injEq]
  | none =>
    obtain ⟨⟨r, h1, h2⟩, _, _⟩ := eqLs_T h
    refine ⟨r, ?_, ?_, h2⟩
    · show deepEq ow true false (.d (.tup xs)) (.d (.tup ys)) S = _
      unfold deepEq
      simp only [asD, lsT, h1, if_true]
      rfl
    · show deepEq ow true true (.d (.tup xs)) (.d (.tup ys)) S = _
      unfold deepEq
      simp only [asD, lsT, h1, if_true]
/-- lists -/
theorem cmp_TL {ow : Own} {xs ys : List D} (h : EqTs ow 6 xs ys) {a b : W} {S : Store} (ha : asD S a = some (.lst xs)) (hb : asD S b = some (.lst ys)) : ∃ r, cmpX ow true .Eq a b S = .ok (.d (.bl r)) S ∧ cmpX ow true .NotEq a b S = .ok (.d (.bl !r)) S ∧ (r = true ↔ xs = ys) := by
  have hm : mtOwn ow ("__eq__" : Str) a S = none := by
    unfold mtOwn
    rw [show fieldsOf S a = none from ?_]
    unfold asD at ha
    split at ha
    · cases ha; rfl
    · rename_i n
      split at ha
      · rename_i ws e
        unfold fieldsOf
        simp only [e]
      · cases ha
    · cases ha
  have e1 : cmpX ow true .Eq a b S = orDeep ow true false a b S (eqW false a b S) := by
    show orDeep ow true false a b S (match mtOwn ow ("__eq__" : Str) a S with | some cn => _ | none => eqW false a b S) = _
    rw [hm]
  have e2 : cmpX ow true .NotEq a b S = orDeep ow true true a b S (eqW true a b S) := by
    show orDeep ow true true a b S (match mtOwn ow ("__eq__" : Str) a S with | some cn => _ | none => eqW true a b S) = _
    rw [hm]
  rw [e1, e2]
  unfold eqW
  simp only [ha, hb]
  cases hD : eqD (.lst xs) (.lst ys) with
  | some b =>
    obtain ⟨h1, h2, h3⟩ := eqD_T hD rfl
    refine ⟨b, rfl, rfl, ?_⟩
    rw [h1, (EqT.lst h).v h2 h3, D.lst.injEq]
  | none =>
    obtain ⟨⟨r, h1, h2⟩, _, _⟩ := eqLs_T h
    have go : ∀ neg : Bool, ∀ q : Bool, lsT (eqN ow 6) (.lst xs) (.lst ys) = some q → orDeep ow true neg a b S R.bad = .ok (.d (.bl (if neg then !q else q))) S := fun neg q hq => by
      show deepEq ow true neg a b S = _
      unfold deepEq
      simp only [ha, hb, hq, if_true]
    by_cases hl : xs.length = ys.length
    · have hq : lsT (eqN ow 6) (.lst xs) (.lst ys) = some r := by
        unfold lsT
        simp only [if_pos hl]
        exact h1
      exact ⟨r, go false r hq, go true r hq, h2⟩
    · have hq : lsT (eqN ow 6) (.lst xs) (.lst ys) = some false := by
        unfold lsT
        simp only [if_neg hl]
      exact ⟨false, go false _ hq, go true _ hq, ⟨fun z => (nomatch z), fun z => (hl (by rw [z])).elim⟩⟩
/-! items at plain places -/
theorem l_i0 (x0 : D) (r : List D) (S : Store) : ixW (.d (.lst (x0 :: r))) (.d (.int 0)) S = .ok (.d x0) S := ix_lst (atN 0 rfl rfl) S
theorem l_i1 (x0 x1 : D) (r : List D) (S : Store) : ixW (.d (.lst (x0 :: x1 :: r))) (.d (.int 1)) S = .ok (.d x1) S := ix_lst (atN 1 rfl rfl) S
theorem l_i2 (x0 x1 x2 : D) (r : List D) (S : Store) : ixW (.d (.lst (x0 :: x1 :: x2 :: r))) (.d (.int 2)) S = .ok (.d x2) S := ix_lst (atN 2 rfl rfl) S
theorem l_i3 (x0 x1 x2 x3 : D) (r : List D) (S : Store) : ixW (.d (.lst (x0 :: x1 :: x2 :: x3 :: r))) (.d (.int 3)) S = .ok (.d x3) S := ix_lst (atN 3 rfl rfl) S
theorem t_i0 (x0 : D) (r : List D) (S : Store) : ixW (.d (.tup (x0 :: r))) (.d (.int 0)) S = .ok (.d x0) S := ix_tup (atN 0 rfl rfl) S
theorem t_i1 (x0 x1 : D) (r : List D) (S : Store) : ixW (.d (.tup (x0 :: x1 :: r))) (.d (.int 1)) S = .ok (.d x1) S := ix_tup (atN 1 rfl rfl) S
theorem t_i2 (x0 x1 x2 : D) (r : List D) (S : Store) : ixW (.d (.tup (x0 :: x1 :: x2 :: r))) (.d (.int 2)) S = .ok (.d x2) S := ix_tup (atN 2 rfl rfl) S
theorem t_i3 (x0 x1 x2 x3 : D) (r : List D) (S : Store) : ixW (.d (.tup (x0 :: x1 :: x2 :: x3 :: r))) (.d (.int 3)) S = .ok (.d x3) S := ix_tup (atN 3 rfl rfl) S
end Mi

namespace Pr
open PySem Mi
/-! the program's defs, printed by wip/gen -/
def bndCol : BndM := bndG [("self" : Str), ("name" : Str)] true [(("nullable" : Str), .bl false), (("default" : Str), .non)]
def f_is_integer : FI := ⟨bndPlain 1, false, 1, (.cons (.ret (.and (.isi [(.b "int")] (.nm 0)) (.no (.isi [(.b "bool")] (.nm 0))))) .nil)⟩
def f_is_name : FI := ⟨bndPlain 1, false, 2, (.cons (.ife (.or (.no (.tru (.isi [(.b "str")] (.nm 0)))) (.no (.chain .LtE .LtE (.cst (.int 1)) (.bi true "len" (.cons (.nm 0) .nil)) (.cst (.int 8))))) (.cons (.ret (.cst (.bl false))) .nil) .nil) (.cons (.ret (.bi true "all" (.cons (.comp false (.nm 1) [1] (.it (.nm 0)) .yes (.cmp true .In (.nm 1) (.cst (.str ("abcdefghijklmnopqrstuvwxyz" : Str))))) .nil))) .nil))⟩
def f_without_twins : FI := ⟨bndPlain 1, false, 3, (.cons (.set 1 (.box .nil)) (.cons (.loop (.nm 2) (.it (.nm 0)) (.cons (.ife (.cmp true .NotIn (.nm 2) (.nm 1)) (.cons (.expr (.mt (.nm 1) ("append" : Str) (.cons (.nm 2) .nil) [] .nil)) .nil) .nil) .nil)) (.cons (.ret (.nm 1)) .nil)))⟩
def f_is_link : FI := ⟨bndPlain 2, false, 2, (.cons (.ife (.or (.no (.tru (.isi [(.b "tuple")] (.nm 0)))) (.or (.cmp true .NotEq (.bi true "len" (.cons (.nm 0) .nil)) (.cst (.int 2))) (.no (.tru (.call ("is_name" : Str) (.cons (.ix (.nm 0) (.cst (.int 0))) .nil) [] .nil))))) (.cons (.ret (.cst (.bl false))) .nil) .nil) (.cons (.ret (.and (.isi [(.b "str")] (.ix (.nm 0) (.cst (.int 1)))) (.cmp true .In (.ix (.nm 0) (.cst (.int 1))) (.nm 1)))) .nil))⟩
def f_check_links : FI := ⟨bndPlain 2, false, 3, (.cons (.loop (.nm 2) (.it (.nm 0)) (.cons (.ife (.no (.tru (.call ("is_link" : Str) (.cons (.nm 2) (.cons (.nm 1) .nil)) [] .nil))) (.cons (.raise ("BadAction" : Str) [("value" : Str)] (.cons (.nm 2) .nil)) .nil) .nil) .nil)) .nil)⟩
def f_has_twins : FI := ⟨bndPlain 1, false, 1, (.cons (.ret (.cmp true .Lt (.bi true "len" (.cons (.call ("without_twins" : Str) (.cons (.nm 0) .nil) [] .nil) .nil)) (.bi true "len" (.cons (.nm 0) .nil)))) .nil)⟩
def f_Column___init__ : FI := ⟨bndCol, false, 7, (.cons (.ife (.or (.no (.tru (.call ("is_name" : Str) (.cons (.nm 1) .nil) [] .nil))) (.cmp true .Eq (.nm 1) (.cst (.str ("id" : Str))))) (.cons (.raise ("BadName" : Str) [("value" : Str)] (.cons (.nm 1) .nil)) .nil) .nil) (.cons (.putf (.nm 1) (.nm 0) ("name" : Str)) (.cons (.putf (.nm 4) (.nm 0) ("links" : Str)) (.cons (.putf (.nm 2) (.nm 0) ("nullable" : Str)) (.cons (.putf (.nm 3) (.nm 0) ("default" : Str)) (.cons (.ife (.or (.no (.tru (.isi [(.b "bool")] (.nm 2)))) (.and (.cmp true .IsNot (.nm 3) (.cst .non)) (.no (.tru (.call ("is_integer" : Str) (.cons (.nm 3) .nil) [] .nil))))) (.cons (.raise ("BadColumn" : Str) [("name" : Str)] (.cons (.nm 1) .nil)) .nil) .nil) (.cons (.expr (.call ("check_links" : Str) (.cons (.nm 4) (.cons (.mt (.nm 0) ("actions" : Str) .nil [] .nil) .nil)) [] .nil)) (.cons (.ife (.or (.tru (.call ("has_twins" : Str) (.cons (.comp false (.tup [5, 6]) [5, 6] (.it (.nm 4)) .yes (.nm 5)) .nil) [] .nil)) (.cmp true .Gt (.bi true "len" (.cons (.nm 4) .nil)) (.cst (.int 4)))) (.cons (.raise ("BadColumn" : Str) [("name" : Str)] (.cons (.nm 1) .nil)) .nil) .nil) .nil))))))))⟩
def f_Column_actions : FI := ⟨bndPlain 1, false, 2, (.cons (.set 1 (.box (.cons (.cst (.str ("cascade" : Str))) (.cons (.cst (.str ("set_null" : Str))) (.cons (.cst (.str ("set_default" : Str))) (.cons (.cst (.str ("restrict" : Str))) (.cons (.cst (.str ("no_action" : Str))) .nil))))))) (.cons (.ife (.no (.tru (.fld (.nm 0) ("nullable" : Str)))) (.cons (.expr (.mt (.nm 1) ("remove" : Str) (.cons (.cst (.str ("set_null" : Str))) .nil) [] .nil)) (.cons (.ife (.cmp true .Is (.fld (.nm 0) ("default" : Str)) (.cst .non)) (.cons (.expr (.mt (.nm 1) ("remove" : Str) (.cons (.cst (.str ("set_default" : Str))) .nil) [] .nil)) .nil) .nil) .nil)) .nil) (.cons (.ret (.nm 1)) .nil)))⟩
def f_Column___eq__ : FI := ⟨bndPlain 2, false, 3, (.cons (.ife (.no (.tru (.isi [(.c ("Column" : Str))] (.nm 1)))) (.cons (.ret (.cst (.bl false))) .nil) .nil) (.cons (.set 2 (.tup (.cons (.fld (.nm 0) ("name" : Str)) (.cons (.fld (.nm 0) ("links" : Str)) (.cons (.fld (.nm 0) ("nullable" : Str)) (.cons (.fld (.nm 0) ("default" : Str)) .nil)))))) (.cons (.ret (.cmp true .Eq (.nm 2) (.tup (.cons (.fld (.nm 1) ("name" : Str)) (.cons (.fld (.nm 1) ("links" : Str)) (.cons (.fld (.nm 1) ("nullable" : Str)) (.cons (.fld (.nm 1) ("default" : Str)) .nil))))))) .nil)))⟩
end Pr

namespace Pr
open PySem Mi
local macro_rules | `(tactic| walk_at "ev") => `(tactic| simp only [evF, bndPlain, startI, eE_nm, eE_cst, eE_bin, eE_no, eE_neg, eE_cmp, eE_chain, eE_and, eE_or, eE_ife, eE_ix, eE_sl, eE_tup, eE_lst, eE_box, eE_comp, eE_call, eE_isi, eE_bi, eE_lens, eE_rpr, eE_ty, eE_bty, eE_mt, eE_lm, eE_fld, eT_no, eT_and, eT_or, eT_cmp, eT_chain, eT_tru, eT_yes, eA_nil, eA_cons, eO_non, eO_som, eI_rng, eI_it, eS_expr, eS_set, eS_asg, eS_par, eS_putix, eS_putf, eS_ret, eS_ret0, eS_pass, eS_brk, eS_cont, eS_ife, eS_loop, eS_whil, eS_raise, eS_tri, eSs_nil, eSs_cons, fBin, fNo, fCmp, fCh1, fCh2, ch_t, ch_f, fIx, fSl, fSl2, fCall, fCall2, fMt, fMt2, fCons, fCons2, fNot, fRng1, kNext, kSet, kAsg, kPar, kPut, kPut2, kPut3, kFld, kFld2, kRet, kFor, fComp, asEnv, tgW, asgIs, putAllM, b_ok, b_exc, b_bad, o_ok, o_exc, s_next, s_ret, s_exc, s_brk, s_cont, ab_ok, tr_bl, g_0, g_s, if_t, if_f, anE_t, anE_f, orE_t, orE_f, an_t, an_f, or_t, or_f, ng_i, rg_i, ne_s, ns_s, tri_x, tri_r, tri_n, it_l, it_t, it_s, po_i, fl_n, add_i, sub_i, cw_lt, cw_le, lt_i, le_i, gt_i, ge_i, eq_i, ne_i, eq_s, ne_s', is_n, isnt_n, len_l, len_t, tn_n, tn_c, tn_b, tn_r, tn_x, List.isEmpty_nil, Bool.true_and, List.length_cons, List.length_nil, decide_true, decide_false, if_true, if_false, List.map_cons, List.map_nil, List.cons_append, List.nil_append, Nat.zero_add, Nat.reduceAdd, Nat.reduceSub, List.replicate_zero, List.replicate_succ, List.set_cons_zero, List.set_cons_succ, List.zip_nil_left, List.zip_nil_right, Bool.not_true, Bool.not_false, Bool.false_eq_true, reduceIte])
def isInt (v : D) : Bool := isT "int" v && !isT "bool" v
theorem sp_is_integer {ow : Own} (h1 : isaB ow "int" = true) (h2 : isaB ow "bool" = true) {v : D} {S : Store} (hS : WF S) (k : Kn ow v) : evF ow f_is_integer [.d v] [] S = .ok (.d (.bl (isInt v))) S := by
  unfold f_is_integer isInt
  walk_at "ev"
  rw [isi_b h1 S k]
  cases isT "int" v <;> walk_at "ev"
  · exact fin_d hS false _
  · rw [isi_b h2 S k]
    walk_at "ev"
    exact fin_d hS false _
abbrev letters : Str := "abcdefghijklmnopqrstuvwxyz"
def isNameS (s : Str) : Bool := decide (1 ≤ s.length) && decide (s.length ≤ 8) && s.cps.toList.all fun c => decide (c ∈ letters.cps.toList)
def isName : D → Bool
  | .str s => isNameS s
  | _ => false
theorem inStr_one (c : Nat) (j : Str) : inStr ⟨#[c]⟩ j = decide (c ∈ j.cps.toList) := rfl
theorem all_signs {ow : Own} {S : Store} (hS : WF S) (s j : Str) (hl : s.length ≤ 100000) (env : EnvM) :
    compFin false S.length (compL (fun _ => tgW (.nm 1)) (evT ow .yes) (evE ow (.cmp true .In (.nm 1) (.cst (.str j)))) (some (.d (.str s)) :: none :: env) S.length (signsW s) (S ++ [.lst []])) = .ok (.d (.lst (s.cps.toList.map fun c => D.bl (decide (c ∈ j.cps.toList))))) S := by
  rw [signs_eq]
  rw [comp_pure (fun x => match x with | .str ⟨cs⟩ => (match cs.toList with | [c] => some (.bl (decide (c ∈ j.cps.toList))) | _ => none) | _ => none) hS (by simpa [Str.length] using hl) ?_]
  · rw [List.filterMap_map]
    congr 3
    exact fm_map _ _
  · intro x hx
    obtain ⟨c, hc, rfl⟩ := List.mem_map.mp hx
    refine ⟨_, fun _ => rfl, fun ac => .inr ⟨.bl (decide (c ∈ j.cps.toList)), rfl, rfl, ?_⟩⟩
    rfl
theorem sp_is_name {ow : Own} (h1 : isaB ow "str" = true) {v : D} {S : Store} (hS : WF S) (k : Kn ow v) (hl : ∀ s, v = .str s → s.length ≤ 100000) : evF ow f_is_name [.d v] [] S = .ok (.d (.bl (isName v))) S := by
  unfold f_is_name
  walk_at "ev"
  rw [isi_b h1 S k]
  cases v with
  | str s =>
    have hl := hl s rfl
    rw [show isT "str" (.str s) = true from rfl]
    walk_at "ev"
    rw [len_s S s true hl]
    walk_at "ev"
    show _ = R.ok (W.d (D.bl (isNameS s))) S
    unfold isNameS
    by_cases a : (1 : Int) ≤ s.length
    · rw [decide_eq_true a, decide_eq_true (show 1 ≤ s.length by omega)]
      walk_at "ev"
      by_cases b : (s.length : Int) ≤ 8
      · rw [decide_eq_true b, decide_eq_true (show s.length ≤ 8 by omega)]
        walk_at "ev"
        rw [show wipeM [some (W.d (D.str s)), none] [1] = [some (W.d (D.str s)), none] from rfl, all_signs hS s _ hl]
        walk_at "ev"
        rw [all_b]
        walk_at "ev"
        rw [fin_d hS]
      · rw [decide_eq_false b, decide_eq_false (show ¬ s.length ≤ 8 by omega)]
        walk_at "ev"
        rw [fin_d hS]; rfl
    · rw [decide_eq_false a, decide_eq_false (show ¬ 1 ≤ s.length by omega)]
      walk_at "ev"
      rw [fin_d hS]; rfl
  | _ =>
    rw [show isT "str" _ = false from rfl]
    walk_at "ev"
    rw [fin_d hS]; rfl
end Pr

namespace Pr
open PySem Mi
local macro_rules | `(tactic| walk_at "ev") => `(tactic| simp only [evF, bndPlain, startI, eE_nm, eE_cst, eE_bin, eE_no, eE_neg, eE_cmp, eE_chain, eE_and, eE_or, eE_ife, eE_ix, eE_sl, eE_tup, eE_lst, eE_box, eE_comp, eE_call, eE_isi, eE_bi, eE_lens, eE_rpr, eE_ty, eE_bty, eE_mt, eE_lm, eE_fld, eT_no, eT_and, eT_or, eT_cmp, eT_chain, eT_tru, eT_yes, eA_nil, eA_cons, eO_non, eO_som, eI_rng, eI_it, eS_expr, eS_set, eS_asg, eS_par, eS_putix, eS_putf, eS_ret, eS_ret0, eS_pass, eS_brk, eS_cont, eS_ife, eS_loop, eS_whil, eS_raise, eS_tri, eSs_nil, eSs_cons, fBin, fNo, fCmp, fCh1, fCh2, ch_t, ch_f, fIx, fSl, fSl2, fCall, fCall2, fMt, fMt2, fCons, fCons2, fNot, fRng1, kNext, kSet, kAsg, kPar, kPut, kPut2, kPut3, kFld, kFld2, kRet, kFor, fComp, asEnv, tgW, asgIs, putAllM, b_ok, b_exc, b_bad, o_ok, o_exc, s_next, s_ret, s_exc, s_brk, s_cont, ab_ok, tr_bl, g_0, g_s, if_t, if_f, anE_t, anE_f, orE_t, orE_f, an_t, an_f, or_t, or_f, ng_i, rg_i, ne_s, ns_s, tri_x, tri_r, tri_n, it_l, it_t, it_s, po_i, fl_n, add_i, sub_i, cw_lt, cw_le, lt_i, le_i, gt_i, ge_i, eq_i, ne_i, eq_s, ne_s', is_n, isnt_n, len_l, len_t, tn_n, tn_c, tn_b, tn_r, tn_x, List.isEmpty_nil, Bool.true_and, List.length_cons, List.length_nil, decide_true, decide_false, if_true, if_false, List.map_cons, List.map_nil, List.cons_append, List.nil_append, Nat.zero_add, Nat.reduceAdd, Nat.reduceSub, List.replicate_zero, List.replicate_succ, List.set_cons_zero, List.set_cons_succ, List.zip_nil_left, List.zip_nil_right, Bool.not_true, Bool.not_false, Bool.false_eq_true, reduceIte])
/-! twins -/
def dd (acc : List Str) : List Str → List Str
  | [] => acc
  | x :: r => dd (if x ∈ acc then acc else acc ++ [x]) r
theorem dd_len : ∀ (xs acc : List Str), (dd acc xs).length ≤ acc.length + xs.length
  | [], acc => Nat.le_refl _
  | x :: r, acc => by
    unfold dd
    have := dd_len r (if x ∈ acc then acc else acc ++ [x])
    rw [List.length_cons]
    split at this <;> rename_i h <;> simp only [h, if_true, if_false] <;> simp at this ⊢ <;> omega
theorem dd_lt : ∀ (xs acc : List Str), acc.Nodup → ((dd acc xs).length < acc.length + xs.length ↔ ¬ (acc ++ xs).Nodup)
  | [], acc, h => by simp [dd, h]
  | x :: r, acc, h => by
    unfold dd
    by_cases e : x ∈ acc
    · rw [if_pos e]
      have := dd_len r acc
      simp only [List.length_cons]
      refine ⟨fun _ hn => ?_, fun _ => by omega⟩
      rw [List.nodup_append] at hn
      exact hn.2.2 x e x (List.mem_cons_self ..) rfl
    · rw [if_neg e]
      have ih := dd_lt r (acc ++ [x]) (by
        rw [List.nodup_append]
        refine ⟨h, by simp, fun a ha b hb => ?_⟩
        rw [List.mem_singleton] at hb
        subst hb
        exact fun q => e (q ▸ ha))
      simp only [List.length_append, List.length_cons, List.length_nil, List.append_assoc, List.cons_append, List.nil_append] at ih ⊢
      rw [← ih]
      omega
def twins (xs : List Str) : Bool := decide ((dd [] xs).length < xs.length)
theorem twins_iff (xs : List Str) : twins xs = true ↔ ¬ xs.Nodup := by
  have := dd_lt xs [] List.nodup_nil
  unfold twins
  rw [decide_eq_true_iff]
  simpa using this
theorem loop_twins {ow : Own} {S : Store} (a : Option W) : ∀ (xs acc : List Str) (o : Option W), acc.length + xs.length ≤ 100000 → ∃ o', forL (fun _ => tgW (.nm 2)) (evSs ow (.cons (.ife (.cmp true .NotIn (.nm 2) (.nm 1)) (.cons (.expr (.mt (.nm 1) ("append" : Str) (.cons (.nm 2) .nil) [] .nil)) .nil) .nil) .nil)) ((xs.map D.str).map W.d) [a, some (.o S.length), o] (S ++ [.lst ((acc.map D.str).map W.d)]) =
    .next [a, some (.o S.length), o'] (S ++ [.lst (((dd acc xs).map D.str).map W.d)])
  | [], acc, o, _ => ⟨o, rfl⟩
  | x :: r, acc, o, h => by
    rw [List.length_cons] at h
    rw [List.map_cons, List.map_cons, fl_c (h := rfl)]
    unfold dd
    walk_at "ev"
    rw [cx_nin, inW_l (asD_new S _ []) (in_strs true x acc)]
    walk_at "ev"
    by_cases e : x ∈ acc
    · rw [decide_eq_true e]
      walk_at "ev"
      rw [if_pos e]
      exact loop_twins a r acc _ (by omega)
    · rw [decide_eq_false e]
      walk_at "ev"
      rw [mtC_lst (isLst_new S _ []) (id := "list.append") (by decide +kernel)]
      walk_at "ev"
      rw [append_new (by simp; omega)]
      walk_at "ev"
      rw [if_neg e]
      have := loop_twins (ow := ow) (S := S) a r (acc ++ [x]) (some (.d (.str x))) (by simp; omega)
      simpa using this
theorem sp_without_twins {ow : Own} {xs : List Str} {S : Store} (hS : WF S) (hl : xs.length ≤ 100000) : evF ow f_without_twins [.d (.lst (xs.map D.str))] [] S = .ok (.d (.lst ((dd [] xs).map D.str))) S := by
  unfold f_without_twins
  walk_at "ev"
  rw [show boxOf [] S = .ok (.o S.length) (S ++ [.lst []]) from rfl]
  walk_at "ev"
  obtain ⟨o', h⟩ := loop_twins (ow := ow) (S := S) (some (.d (.lst (xs.map D.str)))) xs [] none (by simpa using hl)
  rw [List.map_nil, List.map_nil] at h
  rw [h]
  walk_at "ev"
  exact fin_o hS _ []
theorem sp_has_twins {ow : Own} (h1 : ∀ (xs : List Str) (S : Store), WF S → xs.length ≤ 100000 → ow.fn ("without_twins" : Str) [.d (.lst (xs.map D.str))] [] S = .ok (.d (.lst ((dd [] xs).map D.str))) S)
    {xs : List Str} {S : Store} (hS : WF S) (hl : xs.length ≤ 100000) : evF ow f_has_twins [.d (.lst (xs.map D.str))] [] S = .ok (.d (.bl (twins xs))) S := by
  unfold f_has_twins
  walk_at "ev"
  rw [h1 xs S hS hl]
  walk_at "ev"
  rw [fin_d hS]
  unfold twins
  simp only [List.length_map]
  congr 3
  rw [decide_eq_decide]
  omega
end Pr

namespace Pr
open PySem Mi
local macro_rules | `(tactic| walk_at "ev") => `(tactic| simp only [evF, bndPlain, startI, eE_nm, eE_cst, eE_bin, eE_no, eE_neg, eE_cmp, eE_chain, eE_and, eE_or, eE_ife, eE_ix, eE_sl, eE_tup, eE_lst, eE_box, eE_comp, eE_call, eE_isi, eE_bi, eE_lens, eE_rpr, eE_ty, eE_bty, eE_mt, eE_lm, eE_fld, eT_no, eT_and, eT_or, eT_cmp, eT_chain, eT_tru, eT_yes, eA_nil, eA_cons, eO_non, eO_som, eI_rng, eI_it, eS_expr, eS_set, eS_asg, eS_par, eS_putix, eS_putf, eS_ret, eS_ret0, eS_pass, eS_brk, eS_cont, eS_ife, eS_loop, eS_whil, eS_raise, eS_tri, eSs_nil, eSs_cons, fBin, fNo, fCmp, fCh1, fCh2, ch_t, ch_f, fIx, fSl, fSl2, fCall, fCall2, fMt, fMt2, fCons, fCons2, fNot, fRng1, kNext, kSet, kAsg, kPar, kPut, kPut2, kPut3, kFld, kFld2, kRet, kFor, fComp, asEnv, tgW, asgIs, putAllM, b_ok, b_exc, b_bad, o_ok, o_exc, s_next, s_ret, s_exc, s_brk, s_cont, ab_ok, tr_bl, g_0, g_s, if_t, if_f, anE_t, anE_f, orE_t, orE_f, an_t, an_f, or_t, or_f, ng_i, rg_i, ne_s, ns_s, tri_x, tri_r, tri_n, it_l, it_t, it_s, po_i, fl_n, add_i, sub_i, cw_lt, cw_le, lt_i, le_i, gt_i, ge_i, eq_i, ne_i, eq_s, ne_s', is_n, isnt_n, len_l, len_t, tn_n, tn_c, tn_b, tn_r, tn_x, List.isEmpty_nil, Bool.true_and, List.length_cons, List.length_nil, decide_true, decide_false, if_true, if_false, List.map_cons, List.map_nil, List.cons_append, List.nil_append, Nat.zero_add, Nat.reduceAdd, Nat.reduceSub, List.replicate_zero, List.replicate_succ, List.set_cons_zero, List.set_cons_succ, List.zip_nil_left, List.zip_nil_right, Bool.not_true, Bool.not_false, Bool.false_eq_true, reduceIte])
/-! links -/
def inActs (acts : List Str) : D → Bool
  | .str s => decide (s ∈ acts)
  | _ => false
def isLink (acts : List Str) : D → Bool
  | .tup [a, b] => isName a && inActs acts b
  | _ => false
/-- a list or a tuple of texts -/
inductive StrsD (acts : List Str) : D → Prop
  | l : StrsD acts (.lst (acts.map D.str))
  | t : StrsD acts (.tup (acts.map D.str))
theorem in_acts {acts : List Str} {A : D} (h : StrsD acts A) (s : Str) (ow : Own) (k : Bool) (S : Store) : cmpX ow k .In (.d (.str s)) (.d A) S = .ok (.d (.bl (decide (s ∈ acts)))) S := by
  rw [cx_in]
  cases h with
  | l => rw [inW_l rfl (in_strs true s acts)]; rfl
  | t => rw [inW_t (in_strs false s acts)]; rfl
theorem ix_t0 (a : D) (r : List D) (S : Store) : ixW (.d (.tup (a :: r))) (.d (.int 0)) S = .ok (.d a) S := ix_tup (atN 0 rfl rfl) S
theorem ix_t1 (a b : D) (r : List D) (S : Store) : ixW (.d (.tup (a :: b :: r))) (.d (.int 1)) S = .ok (.d b) S := ix_tup (atN 1 rfl rfl) S
/-- texts are not too long, instances are known -/
structure Fit (ow : Own) (v : D) : Prop where
  k : Kn ow v
  l : ∀ s, v = .str s → s.length ≤ 100000
theorem Fit.int {ow : Own} {i : Int} : Fit ow (.int i) := ⟨fun _ _ h => (nomatch h), fun _ h => (nomatch h)⟩
theorem Fit.bl {ow : Own} {i : Bool} : Fit ow (.bl i) := ⟨fun _ _ h => (nomatch h), fun _ h => (nomatch h)⟩
theorem Fit.non {ow : Own} : Fit ow .non := ⟨fun _ _ h => (nomatch h), fun _ h => (nomatch h)⟩
theorem Fit.tup {ow : Own} {xs : List D} : Fit ow (.tup xs) := ⟨fun _ _ h => (nomatch h), fun _ h => (nomatch h)⟩
theorem Fit.lst {ow : Own} {xs : List D} : Fit ow (.lst xs) := ⟨fun _ _ h => (nomatch h), fun _ h => (nomatch h)⟩
theorem Fit.str {ow : Own} {s : Str} (h : s.length ≤ 100000) : Fit ow (.str s) := ⟨fun _ _ h => (nomatch h), fun _ e => by cases e; exact h⟩
theorem fit_name {ow : Own} {v : D} (h : isName v = true) : Fit ow v := by
  cases v <;> first | (cases h; done) | skip
  rename_i s
  refine Fit.str ?_
  have h : isNameS s = true := h
  unfold isNameS at h
  simp only [Bool.and_eq_true, decide_eq_true_eq] at h
  omega
/-- the parts of a tuple that may be a link -/
structure FitL (ow : Own) (v : D) : Prop where
  k : Kn ow v
  p : ∀ xs, v = .tup xs → ∀ x ∈ xs, Fit ow x
abbrev SpIsName (ow : Own) : Prop := ∀ (v : D) (S : Store), WF S → Fit ow v → ow.fn ("is_name" : Str) [.d v] [] S = .ok (.d (.bl (isName v))) S
theorem sp_is_link {ow : Own} (h1 : isaB ow "str" = true) (h2 : isaB ow "tuple" = true) (hn : SpIsName ow) {v A : D} {acts : List Str} {S : Store} (hS : WF S) (k : FitL ow v) (hA : StrsD acts A) :
    evF ow f_is_link [.d v, .d A] [] S = .ok (.d (.bl (isLink acts v))) S := by
  unfold f_is_link
  walk_at "ev"
  rw [isi_b h2 S k.k]
  cases v with
  | tup xs =>
    rw [show isT "tuple" (.tup xs) = true from rfl]
    walk_at "ev"
    match xs, k.p xs rfl with
    | [], _ =>
      rw [show (decide (((([] : List D).length : Nat) : Int) = 2)) = false from rfl]
      walk_at "ev"
      rw [fin_d hS]; rfl
    | [a], _ =>
      rw [show (decide (((([a] : List D).length : Nat) : Int) = 2)) = false from rfl]
      walk_at "ev"
      rw [fin_d hS]; rfl
    | [a, b], kp =>
      rw [show (decide (((([a, b] : List D).length : Nat) : Int) = 2)) = true from rfl]
      walk_at "ev"
      rw [ix_t0]
      walk_at "ev"
      rw [hn a S hS (kp a (by simp))]
      walk_at "ev"
      show _ = R.ok (W.d (D.bl (isName a && inActs acts b))) S
      cases isName a
      · walk_at "ev"
        rw [fin_d hS]; rfl
      · walk_at "ev"
        rw [ix_t1]
        walk_at "ev"
        rw [isi_b h1 S (kp b (by simp)).k]
        cases b with
        | str s =>
          rw [show isT "str" (.str s) = true from rfl]
          walk_at "ev"
          rw [ix_t1]
          walk_at "ev"
          rw [in_acts hA]
          walk_at "ev"
          rw [fin_d hS]; rfl
        | _ =>
          rw [show isT "str" _ = false from rfl]
          walk_at "ev"
          rw [fin_d hS]; rfl
    | a :: b :: c :: r, _ =>
      rw [show (decide ((((a :: b :: c :: r : List D).length : Nat) : Int) = 2)) = false from decide_eq_false (by simp only [List.length_cons]; omega)]
      walk_at "ev"
      rw [fin_d hS]; rfl
  | _ =>
    rw [show isT "tuple" _ = false from rfl]
    walk_at "ev"
    rw [fin_d hS]; rfl
abbrev SpIsLink (ow : Own) : Prop := ∀ (v A : D) (acts : List Str) (S : Store), WF S → FitL ow v → StrsD acts A → ow.fn ("is_link" : Str) [.d v, .d A] [] S = .ok (.d (.bl (isLink acts v))) S
/-- the first that is no link -/
def badLink (acts : List Str) (xs : List D) : Option D := xs.find? fun x => !isLink acts x
def linksR (acts : List Str) (xs : List D) (S : Store) : R W := match badLink acts xs with
  | some x => .exc ("BadAction" : Str) [(("value" : Str), x)] S
  | none => .ok (.d .non) S
theorem loop_links {ow : Own} {S : Store} (hl : SpIsLink ow) (hS : WF S) {A : D} {acts : List Str} (hA : StrsD acts A) (a : Option W) : ∀ (xs : List D) (o : Option W), (∀ x ∈ xs, FitL ow x) → ∃ e', forL (fun _ => tgW (.nm 2)) (evSs ow (.cons (.ife (.no (.tru (.call ("is_link" : Str) (.cons (.nm 2) (.cons (.nm 1) .nil)) [] .nil))) (.cons (.raise ("BadAction" : Str) [("value" : Str)] (.cons (.nm 2) .nil)) .nil) .nil) .nil)) (xs.map W.d) [a, some (.d A), o] S =
    match badLink acts xs with
    | some x => .exc ("BadAction" : Str) [(("value" : Str), x)] e' S
    | none => .next e' S
  | [], o, _ => ⟨_, rfl⟩
  | x :: r, o, h => by
    rw [List.map_cons, fl_c (h := rfl)]
    walk_at "ev"
    rw [hl x A acts S hS (h x (List.mem_cons_self ..)) hA]
    unfold badLink
    rw [List.find?_cons]
    cases isLink acts x
    · walk_at "ev"
      rw [show excM ("BadAction" : Str) [("value" : Str)] [.d x] S = .exc ("BadAction" : Str) [(("value" : Str), x)] S from rfl]
      walk_at "ev"
      exact ⟨_, rfl⟩
    · walk_at "ev"
      exact loop_links hl hS hA a r _ fun y hy => h y (List.mem_cons_of_mem _ hy)
theorem sp_check_links {ow : Own} (hl : SpIsLink ow) {L A : D} {xs : List D} {acts : List Str} {S : Store} (hS : WF S) (hL : L = .lst xs ∨ L = .tup xs) (hA : StrsD acts A) (h : ∀ x ∈ xs, FitL ow x) :
    evF ow f_check_links [.d L, .d A] [] S = linksR acts xs S := by
  unfold f_check_links linksR
  have hi : iterV (.ok (.d L) S) = .ok (xs.map W.d) S := by
    rcases hL with rfl | rfl <;> rfl
  walk_at "ev"
  rw [hi]
  walk_at "ev"
  obtain ⟨e', q⟩ := loop_links hl hS hA (some (.d L)) xs none h
  rw [q]
  cases badLink acts xs with
  | none =>
    walk_at "ev"
    exact fin_n hS false _
  | some x =>
    walk_at "ev"
    exact fin_x hS false _ _ _
end Pr

namespace Pr
open PySem Mi
local macro_rules | `(tactic| walk_at "ev") => `(tactic| simp only [evF, bndPlain, startI, eE_nm, eE_cst, eE_bin, eE_no, eE_neg, eE_cmp, eE_chain, eE_and, eE_or, eE_ife, eE_ix, eE_sl, eE_tup, eE_lst, eE_box, eE_comp, eE_call, eE_isi, eE_bi, eE_lens, eE_rpr, eE_ty, eE_bty, eE_mt, eE_lm, eE_fld, eT_no, eT_and, eT_or, eT_cmp, eT_chain, eT_tru, eT_yes, eA_nil, eA_cons, eO_non, eO_som, eI_rng, eI_it, eS_expr, eS_set, eS_asg, eS_par, eS_putix, eS_putf, eS_ret, eS_ret0, eS_pass, eS_brk, eS_cont, eS_ife, eS_loop, eS_whil, eS_raise, eS_tri, eSs_nil, eSs_cons, fBin, fNo, fCmp, fCh1, fCh2, ch_t, ch_f, fIx, fSl, fSl2, fCall, fCall2, fMt, fMt2, fCons, fCons2, fNot, fRng1, kNext, kSet, kAsg, kPar, kPut, kPut2, kPut3, kFld, kFld2, kRet, kFor, fComp, asEnv, tgW, asgIs, putAllM, b_ok, b_exc, b_bad, o_ok, o_exc, s_next, s_ret, s_exc, s_brk, s_cont, ab_ok, tr_bl, g_0, g_s, if_t, if_f, anE_t, anE_f, orE_t, orE_f, an_t, an_f, or_t, or_f, ng_i, rg_i, ne_s, ns_s, tri_x, tri_r, tri_n, it_l, it_t, it_s, po_i, fl_n, add_i, sub_i, cw_lt, cw_le, lt_i, le_i, gt_i, ge_i, eq_i, ne_i, eq_s, ne_s', is_n, isnt_n, len_l, len_t, tn_n, tn_c, tn_b, tn_r, tn_x, List.isEmpty_nil, Bool.true_and, List.length_cons, List.length_nil, decide_true, decide_false, if_true, if_false, List.map_cons, List.map_nil, List.cons_append, List.nil_append, Nat.zero_add, Nat.reduceAdd, Nat.reduceSub, List.replicate_zero, List.replicate_succ, List.set_cons_zero, List.set_cons_succ, List.zip_nil_left, List.zip_nil_right, Bool.not_true, Bool.not_false, Bool.false_eq_true, reduceIte])
/-! objects -/
theorem fo_o (S : Store) (n : Nat) : Mi.fieldsOf S (.o n) = (match S[n]? with | some (.ins c fs) => some (c, fs) | _ => none) := rfl
theorem fieldsOf_app {S : Store} {w : W} {r : Str × List (Str × W)} (h : fieldsOf S w = some r) (T : Store) : fieldsOf (S ++ T) w = some r := by
  cases w with
  | d x => cases x <;> first | exact h | cases h
  | x c fs => cases h
  | o n =>
    rw [fo_o] at h ⊢
    cases e : S[n]? with
    | none => rw [e] at h; cases h
    | some c => rw [List.getElem?_append_left (List.getElem?_eq_some_iff.mp e).1, e]; rw [e] at h; exact h
theorem fld_of {ow : Own} {f cn : Str} {w x : W} {S : Store} {gs : List (Str × W)} (h : fieldsOf S w = some (cn, gs)) (hc : ow.flds.contains (cn, f) = true) (hl : gs.lookup f = some x) : fldX ow f w S = .ok x S := by
  have e : fldX ow f w S = fldW ow f w S := by cases w <;> first | rfl | cases h
  rw [e]
  unfold fldW
  rw [h]
  simp only [hc, hl, if_true]
theorem isLst_of {w : W} {S : Store} {r : Str × List (Str × W)} (h : fieldsOf S w = some r) : isLst S w = false := by
  cases w with
  | d x => rfl
  | x c fs => rfl
  | o n =>
    rw [fo_o] at h
    show (match S[n]? with | some (.lst _) => true | _ => false) = false
    cases e : S[n]? with
    | none => rfl
    | some c =>
      rw [e] at h
      cases c <;> first | rfl | cases h
theorem mtC_own {ow : Own} {m cn : Str} {fa fb : Store → R (List W)} {w : W} {S : Store} {ks : List Str} {gs : List (Str × W)} (h : fieldsOf S w = some (cn, gs)) (hm : ow.mts.contains (cn, m) = true) (hl : gs.lookup m = none) : mtC ow m fa ks fb w S = (fa S).bind (fMt ow cn m w ks fb) := by
  unfold mtC mtOwn
  rw [isLst_of h, h]
  simp only [hm, hl]
  rfl
theorem putFld_new {ow : Own} {f cn : Str} {S : Store} {gs : List (Str × W)} {w : W} {T : Store} (hc : ow.flds.contains (cn, f) = true) (hg : gs.length < 1000) : putFld ow f (.o S.length) w (S ++ .ins cn gs :: T) = some (S ++ .ins cn (putF' f w gs) :: T) := by
  unfold putFld
  simp only [at_new, set_new, hc, decide_eq_true hg]
  rfl
theorem erase_map {α β : Type} (f : α → β) : ∀ (xs : List α) (j : Nat), (xs.map f).eraseIdx j = (xs.eraseIdx j).map f
  | [], _ => by simp
  | x :: r, 0 => rfl
  | x :: r, j + 1 => by simp [erase_map f r j]
theorem remove_new {S : Store} {ds : List D} {x : D} {T : Store} {j : Nat} (hc : (plainL ds && x.plain && PyData.plainAll (pyL ds) && x.py.plain && decide (x.py.depth ≤ 60)) = true) (hj : SeqAt.dataPlace (pyL ds) x.py = some j) :
    mtW "list.remove" (.o S.length) [.d x] (S ++ .lst (ds.map W.d) :: T) = .ok (.d .non) (S ++ .lst ((ds.eraseIdx j).map W.d) :: T) := by
  unfold mtW
  simp only [at_new, pureL_d, hc, hj, if_true, set_new]
  rw [erase_map]
  rfl
/-! columns -/
abbrev nCol : Str := "Column"
def acts5 : List Str := ["cascade", "set_null", "set_default", "restrict", "no_action"]
def acts4 : List Str := ["cascade", "set_default", "restrict", "no_action"]
def acts3 : List Str := ["cascade", "restrict", "no_action"]
def colActs (nul hasD : Bool) : List Str := if nul then acts5 else if hasD then acts4 else acts3
def hasD : D → Bool
  | .non => false
  | _ => true
/-- what is known of the class -/
structure ColT (ow : Own) : Prop where
  f1 : ow.flds.contains (nCol, ("name" : Str)) = true
  f2 : ow.flds.contains (nCol, ("links" : Str)) = true
  f3 : ow.flds.contains (nCol, ("nullable" : Str)) = true
  f4 : ow.flds.contains (nCol, ("default" : Str)) = true
  m1 : ow.mts.contains (nCol, ("actions" : Str)) = true
  m2 : ow.mts.contains (nCol, ("__eq__" : Str)) = true
  is : nCol ∈ ow.ins
def colF (nm lk nul df : D) : List (Str × D) := [(("name" : Str), nm), (("links" : Str), lk), (("nullable" : Str), nul), (("default" : Str), df)]
def colD (nm lk nul df : D) : D := .ins nCol (colF nm lk nul df)
def colW (nm lk nul df : D) : List (Str × W) := (colF nm lk nul df).map fun p => (p.1, W.d p.2)
theorem col_look (nm lk nul df : D) : (colW nm lk nul df).lookup ("name" : Str) = some (.d nm) ∧ (colW nm lk nul df).lookup ("links" : Str) = some (.d lk) ∧ (colW nm lk nul df).lookup ("nullable" : Str) = some (.d nul) ∧ (colW nm lk nul df).lookup ("default" : Str) = some (.d df) ∧
    (colW nm lk nul df).lookup ("actions" : Str) = none ∧ (colW nm lk nul df).lookup ("__eq__" : Str) = none := by
  refine ⟨rfl, ?_, ?_, ?_, ?_, ?_⟩ <;> kernel_rfl
theorem sp_actions {ow : Own} (T : ColT ow) {w : W} {nm lk df : D} {nul : Bool} {S : Store} (hS : WF S) (hw : fieldsOf S w = some (nCol, colW nm lk (.bl nul) df)) :
    evF ow f_Column_actions [w] [] S = .ok (.d (.lst ((colActs nul (hasD df)).map D.str))) S := by
  obtain ⟨c1, c2, c3, c4, _, _⟩ := col_look nm lk (.bl nul) df
  unfold f_Column_actions
  walk_at "ev"
  rw [show ∀ ws S, ws.length ≤ 100000 → boxOf ws S = .ok (.o S.length) (S ++ [.lst ws]) from fun ws S h => if_pos h]
  case a => decide
  walk_at "ev"
  rw [fld_of (fieldsOf_app hw _) T.f3 c3]
  walk_at "ev"
  cases nul
  · walk_at "ev"
    have e5 : [W.d (D.str ("cascade" : Str)), W.d (D.str ("set_null" : Str)), W.d (D.str ("set_default" : Str)), W.d (D.str ("restrict" : Str)), W.d (D.str ("no_action" : Str))] = (acts5.map D.str).map W.d := rfl
    rw [e5, mtC_lst (isLst_new S _ []) (id := "list.remove") (by decide +kernel)]
    walk_at "ev"
    rw [remove_new (j := 1) (by decide +kernel) (by decide +kernel)]
    walk_at "ev"
    rw [fld_of (fieldsOf_app hw _) T.f4 c4]
    walk_at "ev"
    rw [show isNonB (.d df) = !hasD df from by cases df <;> rfl]
    cases hasD df
    · walk_at "ev"
      rw [mtC_lst (isLst_new S _ []) (id := "list.remove") (by decide +kernel)]
      walk_at "ev"
      rw [remove_new (j := 1) (by decide +kernel) (by decide +kernel)]
      walk_at "ev"
      rw [fin_o hS]; rfl
    · walk_at "ev"
      rw [fin_o hS]; rfl
  · walk_at "ev"
    have e5 : [W.d (D.str ("cascade" : Str)), W.d (D.str ("set_null" : Str)), W.d (D.str ("set_default" : Str)), W.d (D.str ("restrict" : Str)), W.d (D.str ("no_action" : Str))] = (acts5.map D.str).map W.d := rfl
    rw [e5, fin_o hS]; rfl
end Pr

namespace Pr
open PySem Mi
local macro_rules | `(tactic| walk_at "ev") => `(tactic| simp only [evF, bndPlain, startI, eE_nm, eE_cst, eE_bin, eE_no, eE_neg, eE_cmp, eE_chain, eE_and, eE_or, eE_ife, eE_ix, eE_sl, eE_tup, eE_lst, eE_box, eE_comp, eE_call, eE_isi, eE_bi, eE_lens, eE_rpr, eE_ty, eE_bty, eE_mt, eE_lm, eE_fld, eT_no, eT_and, eT_or, eT_cmp, eT_chain, eT_tru, eT_yes, eA_nil, eA_cons, eO_non, eO_som, eI_rng, eI_it, eS_expr, eS_set, eS_asg, eS_par, eS_putix, eS_putf, eS_ret, eS_ret0, eS_pass, eS_brk, eS_cont, eS_ife, eS_loop, eS_whil, eS_raise, eS_tri, eSs_nil, eSs_cons, fBin, fNo, fCmp, fCh1, fCh2, ch_t, ch_f, fIx, fSl, fSl2, fCall, fCall2, fMt, fMt2, fCons, fCons2, fNot, fRng1, kNext, kSet, kAsg, kPar, kPut, kPut2, kPut3, kFld, kFld2, kRet, kFor, fComp, asEnv, tgW, asgIs, putAllM, b_ok, b_exc, b_bad, o_ok, o_exc, s_next, s_ret, s_exc, s_brk, s_cont, ab_ok, tr_bl, g_0, g_s, if_t, if_f, anE_t, anE_f, orE_t, orE_f, an_t, an_f, or_t, or_f, ng_i, rg_i, ne_s, ns_s, tri_x, tri_r, tri_n, it_l, it_t, it_s, po_i, fl_n, add_i, sub_i, cw_lt, cw_le, lt_i, le_i, gt_i, ge_i, eq_i, ne_i, eq_s, ne_s', is_n, isnt_n, len_l, len_t, tn_n, tn_c, tn_b, tn_r, tn_x, List.isEmpty_nil, Bool.true_and, List.length_cons, List.length_nil, decide_true, decide_false, if_true, if_false, List.map_cons, List.map_nil, List.cons_append, List.nil_append, Nat.zero_add, Nat.reduceAdd, Nat.reduceSub, List.replicate_zero, List.replicate_succ, List.set_cons_zero, List.set_cons_succ, List.zip_nil_left, List.zip_nil_right, Bool.not_true, Bool.not_false, Bool.false_eq_true, reduceIte])
def fst2 : D → D
  | .tup (a :: _) => a
  | x => x
def aim : D → Str
  | .tup (.str s :: _) => s
  | _ => ("" : Str)
theorem link_form {acts : List Str} {x : D} (h : isLink acts x = true) : ∃ s a, x = .tup [.str s, .str a] ∧ isNameS s = true ∧ a ∈ acts := by
  unfold isLink at h
  split at h
  · rename_i a b
    rw [Bool.and_eq_true] at h
    cases a <;> first | (cases h.1; done) | skip
    rename_i s
    cases b <;> first | (cases h.2; done) | skip
    rename_i t
    exact ⟨s, t, rfl, h.1, of_decide_eq_true h.2⟩
  · cases h
theorem good_links {acts : List Str} {xs : List D} (h : badLink acts xs = none) : ∀ x ∈ xs, isLink acts x = true := by
  intro x hx
  have := List.find?_eq_none.mp h x hx
  simpa using this
theorem aims_eq {acts : List Str} {xs : List D} (h : ∀ x ∈ xs, isLink acts x = true) : xs.map fst2 = (xs.map aim).map D.str := by
  rw [List.map_map]
  refine List.map_congr_left fun x hx => ?_
  obtain ⟨s, a, rfl, _, _⟩ := link_form (h x hx)
  rfl
def isStrD (x : Str) : D → Bool
  | .str s => decide (s = x)
  | _ => false
def nulB : D → Bool
  | .bl b => b
  | _ => false
/-- what speaks against a column -/
def colX (nm : D) (refs : List D) (nul df : D) : Option (Str × List (Str × D)) :=
  if !isName nm || isStrD ("id" : Str) nm then some (("BadName" : Str), [(("value" : Str), nm)])
  else if !isT "bool" nul || (hasD df && !isInt df) then some (("BadColumn" : Str), [(("name" : Str), nm)])
  else match badLink (colActs (nulB nul) (hasD df)) refs with
    | some x => some (("BadAction" : Str), [(("value" : Str), x)])
    | none => if twins (refs.map aim) || decide (4 < refs.length) then some (("BadColumn" : Str), [(("name" : Str), nm)]) else none
abbrev SpIsInt (ow : Own) : Prop := ∀ (v : D) (S : Store), WF S → Kn ow v → ow.fn ("is_integer" : Str) [.d v] [] S = .ok (.d (.bl (isInt v))) S
abbrev SpTwins (ow : Own) : Prop := ∀ (xs : List Str) (S : Store), WF S → xs.length ≤ 100000 → ow.fn ("has_twins" : Str) [.d (.lst (xs.map D.str))] [] S = .ok (.d (.bl (twins xs))) S
abbrev SpLinks (ow : Own) : Prop := ∀ (L A : D) (xs : List D) (acts : List Str) (S : Store), WF S → (L = .lst xs ∨ L = .tup xs) → StrsD acts A → (∀ x ∈ xs, FitL ow x) → ow.fn ("check_links" : Str) [.d L, .d A] [] S = linksR acts xs S
abbrev SpActs (ow : Own) : Prop := ∀ (w : W) (nm lk df : D) (nul : Bool) (S : Store), WF S → fieldsOf S w = some (nCol, colW nm lk (.bl nul) df) → ow.mt nCol ("actions" : Str) [w] [] S = .ok (.d (.lst ((colActs nul (hasD df)).map D.str))) S
theorem wf_ins {S : Store} (h : WF S) (cn : Str) (fs : List (Str × D)) : WF (S ++ [.ins cn (fs.map fun p => (p.1, W.d p.2))]) := wf_app h (by
  show (fs.map fun p => (p.1, W.d p.2)).all _ = true
  rw [List.all_map]
  exact List.all_eq_true.mpr fun x _ => rfl)
theorem putF_ne {k f : Str} (h : decide (k = f) = false) (w x : W) (r : List (Str × W)) : putF' f w ((k, x) :: r) = (k, x) :: putF' f w r := by
  show (if k = f then _ else _) = _
  rw [if_neg (of_decide_eq_false h)]
theorem putF_len (f : Str) (w : W) : ∀ gs : List (Str × W), (putF' f w gs).length ≤ gs.length + 1
  | [] => Nat.le_refl _
  | (k, x) :: r => by
    have := putF_len f w r
    unfold putF'
    split <;> simp <;> omega
theorem colPuts (nm lk nul df : D) : putF' ("default" : Str) (.d df) (putF' ("nullable" : Str) (.d nul) (putF' ("links" : Str) (.d lk) (putF' ("name" : Str) (.d nm) []))) = colW nm lk nul df := by
  rw [show putF' ("name" : Str) (.d nm) [] = [(("name" : Str), W.d nm)] from rfl]
  rw [putF_ne (by decide +kernel), show putF' ("links" : Str) (.d lk) [] = [(("links" : Str), W.d lk)] from rfl]
  rw [putF_ne (k := ("name" : Str)) (f := ("nullable" : Str)) (by decide +kernel), putF_ne (k := ("links" : Str)) (f := ("nullable" : Str)) (by decide +kernel), show putF' ("nullable" : Str) (.d nul) [] = [(("nullable" : Str), W.d nul)] from rfl]
  rw [putF_ne (k := ("name" : Str)) (f := ("default" : Str)) (by decide +kernel), putF_ne (k := ("links" : Str)) (f := ("default" : Str)) (by decide +kernel), putF_ne (k := ("nullable" : Str)) (f := ("default" : Str)) (by decide +kernel)]
  rfl
/-- the end of __init__ -/
def InitR (cn : Str) (S : Store) (fs : List (Str × D)) (x : Option (Str × List (Str × D))) (r : R W) : Prop := match x with
  | none => r = .ok (.d .non) (S ++ [.ins cn (fs.map fun p => (p.1, W.d p.2))])
  | some (c, gs) => ∃ hs, r = .exc c gs (S ++ [.ins cn hs])
theorem sp_col_init {ow : Own} (T : ColT ow) (hb : isaB ow "bool" = true) (hn : SpIsName ow) (hi : SpIsInt ow) (ht : SpTwins ow) (hl : SpLinks ow) (ha : SpActs ow) {as : List W} {kws : List (Str × W)} {nm nul df : D} {refs : List D} {S : Store} (hS : WF S)
    (bnd : bndCol as kws = some [.o S.length, .d nm, .d nul, .d df, .d (.tup refs)]) (k1 : Fit ow nm) (k2 : Kn ow nul) (k3 : Kn ow df) (k4 : ∀ x ∈ refs, FitL ow x) (k5 : refs.length ≤ 1000) :
    InitR nCol S (colF nm (.tup refs) nul df) (colX nm refs nul df) (evF ow f_Column___init__ as kws (S ++ [.ins nCol []])) := by
  unfold f_Column___init__
  have hS0 : WF (S ++ [.ins nCol []]) := wf_ins hS nCol []
  have hlen : (S ++ [Cell.ins nCol []]).length = S.length + 1 := by simp
  simp only [evF, bnd]
  walk_at "ev"
  rw [hn nm _ hS0 k1]
  unfold colX
  cases hnm : isName nm with
  | false =>
    walk_at "ev"
    rw [show excM ("BadName" : Str) [("value" : Str)] [.d nm] (S ++ [.ins nCol []]) = .exc ("BadName" : Str) [(("value" : Str), nm)] (S ++ [.ins nCol []]) from rfl]
    walk_at "ev"
    rw [fin_x hS0]
    exact ⟨_, rfl⟩
  | true =>
    obtain ⟨s, rfl⟩ : ∃ s, nm = .str s := by cases nm <;> first | exact ⟨_, rfl⟩ | cases hnm
    walk_at "ev"
    rw [show isStrD ("id" : Str) (.str s) = decide (s = ("id" : Str)) from rfl]
    cases hid : decide (s = ("id" : Str)) with
    | true =>
      walk_at "ev"
      rw [show excM ("BadName" : Str) [("value" : Str)] [.d (.str s)] (S ++ [.ins nCol []]) = .exc ("BadName" : Str) [(("value" : Str), .str s)] (S ++ [.ins nCol []]) from rfl]
      walk_at "ev"
      rw [fin_x hS0]
      exact ⟨_, rfl⟩
    | false =>
      walk_at "ev"
      have hput : ∀ (f : Str) (w : W) (gs : List (Str × W)), ow.flds.contains (nCol, f) = true → gs.length < 1000 → putFld ow f (.o S.length) w (S ++ [.ins nCol gs]) = some (S ++ [.ins nCol (putF' f w gs)]) := fun f w gs h1 h2 => putFld_new h1 h2
      have l1 := putF_len ("name" : Str) (.d (.str s)) []
      have l2 := putF_len ("links" : Str) (.d (.tup refs)) (putF' ("name" : Str) (.d (.str s)) [])
      have l3 := putF_len ("nullable" : Str) (.d nul) (putF' ("links" : Str) (.d (.tup refs)) (putF' ("name" : Str) (.d (.str s)) []))
      simp only [List.length_nil] at l1
      rw [hput _ _ _ T.f1 (by decide)]
      walk_at "ev"
      rw [hput _ _ _ T.f2 (by omega)]
      walk_at "ev"
      rw [hput _ _ _ T.f3 (by omega)]
      walk_at "ev"
      rw [hput _ _ _ T.f4 (by omega), colPuts]
      have hS1 : WF (S ++ [.ins nCol (colW (.str s) (.tup refs) nul df)]) := wf_ins hS nCol (colF (.str s) (.tup refs) nul df)
      have hL : (S ++ [Cell.ins nCol (colW (.str s) (.tup refs) nul df)]).length = (S ++ [Cell.ins nCol []]).length := by simp
      have hF : fieldsOf (S ++ [.ins nCol (colW (.str s) (.tup refs) nul df)]) (.o S.length) = some (nCol, colW (.str s) (.tup refs) nul df) := by
        rw [fo_o, at_new]
      clear l1 l2 l3 hput
      generalize hG : (S ++ [Cell.ins nCol (colW (.str s) (.tup refs) nul df)]) = S1 at hS1 hL hF ⊢
      have raise : ∀ e, InitR nCol S (colF (.str s) (.tup refs) nul df) (some (("BadColumn" : Str), [(("name" : Str), .str s)])) (finM false (S ++ [Cell.ins nCol []]).length (.exc ("BadColumn" : Str) [(("name" : Str), .str s)] e S1)) := fun e => ⟨colW (.str s) (.tup refs) nul df, by rw [fin_xL hL hS1, hG]⟩
      have exc1 : excM ("BadColumn" : Str) [("name" : Str)] [.d (.str s)] S1 = .exc ("BadColumn" : Str) [(("name" : Str), .str s)] S1 := rfl
      walk_at "ev"
      rw [isi_b hb S1 k2]
      cases hbl : isT "bool" nul with
      | false =>
        walk_at "ev"
        rw [exc1]
        walk_at "ev"
        exact raise _
      | true =>
        obtain ⟨b, rfl⟩ : ∃ b, nul = .bl b := by cases nul <;> first | exact ⟨_, rfl⟩ | cases hbl
        walk_at "ev"
        have rest : InitR nCol S (colF (D.str s) (D.tup refs) (.bl b) df) (match badLink (colActs b (hasD df)) refs with
              | some x => some (("BadAction" : Str), [(("value" : Str), x)])
              | none => if twins (refs.map aim) || decide (4 < refs.length) then some (("BadColumn" : Str), [(("name" : Str), .str s)]) else none)
            (finM false (S ++ [Cell.ins nCol []]).length (evSs ow (.cons (.expr (.call ("check_links" : Str) (.cons (.nm 4) (.cons (.mt (.nm 0) ("actions" : Str) .nil [] .nil) .nil)) [] .nil)) (.cons (.ife (.or (.tru (.call ("has_twins" : Str) (.cons (.comp false (.tup [5, 6]) [5, 6] (.it (.nm 4)) .yes (.nm 5)) .nil) [] .nil)) (.cmp true .Gt (.bi true "len" (.cons (.nm 4) .nil)) (.cst (.int 4)))) (.cons (.raise ("BadColumn" : Str) [("name" : Str)] (.cons (.nm 1) .nil)) .nil) .nil) .nil))
              [some (.o S.length), some (.d (.str s)), some (.d (.bl b)), some (.d df), some (.d (.tup refs)), none, none] S1)) := by
          obtain ⟨_, _, _, _, c5, _⟩ := col_look (.str s) (.tup refs) (.bl b) df
          walk_at "ev"
          rw [mtC_own hF T.m1 c5]
          walk_at "ev"
          rw [ha _ _ _ _ _ S1 hS1 hF]
          walk_at "ev"
          rw [hl (.tup refs) (.lst ((colActs b (hasD df)).map D.str)) refs (colActs b (hasD df)) S1 hS1 (.inr rfl) .l k4]
          unfold linksR
          cases hbd : badLink (colActs b (hasD df)) refs with
          | some x =>
            walk_at "ev"
            exact ⟨_, by rw [fin_xL hL hS1, hG]⟩
          | none =>
            have good := good_links hbd
            walk_at "ev"
            rw [comp_map fst2 hS1 (by omega) (fun x hx => by
              obtain ⟨t, a, rfl, _, _⟩ := link_form (good x hx)
              exact ⟨_, fun _ => rfl, fun ac => ⟨rfl, rfl⟩⟩)]
            walk_at "ev"
            rw [aims_eq good, ht _ S1 hS1 (by simp; omega)]
            cases htw : twins (refs.map aim) with
            | true =>
              walk_at "ev"
              rw [exc1]
              walk_at "ev"
              exact raise _
            | false =>
              walk_at "ev"
              rw [show decide ((4 : Int) < refs.length) = decide (4 < refs.length) from decide_eq_decide.mpr (by omega)]
              cases h4 : decide (4 < refs.length) with
              | true =>
                walk_at "ev"
                rw [exc1]
                walk_at "ev"
                exact raise _
              | false =>
                walk_at "ev"
                rw [fin_nL hL hS1, ← hG]
                rfl
        cases hdf : hasD df with
        | false =>
          obtain rfl : df = .non := by cases df <;> first | rfl | cases hdf
          rw [hdf] at rest
          exact rest
        | true =>
          rw [hdf] at rest
          rw [show isNonB (W.d df) = false from by cases df <;> first | rfl | cases hdf]
          walk_at "ev"
          rw [hi df S1 hS1 k3]
          cases hin : isInt df with
          | false =>
            walk_at "ev"
            rw [exc1]
            walk_at "ev"
            exact raise _
          | true =>
            walk_at "ev"
            exact rest
end Pr

namespace Pr
open PySem Mi
local macro_rules | `(tactic| walk_at "ev") => `(tactic| simp only [evF, bndPlain, startI, eE_nm, eE_cst, eE_bin, eE_no, eE_neg, eE_cmp, eE_chain, eE_and, eE_or, eE_ife, eE_ix, eE_sl, eE_tup, eE_lst, eE_box, eE_comp, eE_call, eE_isi, eE_bi, eE_lens, eE_rpr, eE_ty, eE_bty, eE_mt, eE_lm, eE_fld, eT_no, eT_and, eT_or, eT_cmp, eT_chain, eT_tru, eT_yes, eA_nil, eA_cons, eO_non, eO_som, eI_rng, eI_it, eS_expr, eS_set, eS_asg, eS_par, eS_putix, eS_putf, eS_ret, eS_ret0, eS_pass, eS_brk, eS_cont, eS_ife, eS_loop, eS_whil, eS_raise, eS_tri, eSs_nil, eSs_cons, fBin, fNo, fCmp, fCh1, fCh2, ch_t, ch_f, fIx, fSl, fSl2, fCall, fCall2, fMt, fMt2, fCons, fCons2, fNot, fRng1, kNext, kSet, kAsg, kPar, kPut, kPut2, kPut3, kFld, kFld2, kRet, kFor, fComp, asEnv, tgW, asgIs, putAllM, b_ok, b_exc, b_bad, o_ok, o_exc, s_next, s_ret, s_exc, s_brk, s_cont, ab_ok, tr_bl, g_0, g_s, if_t, if_f, anE_t, anE_f, orE_t, orE_f, an_t, an_f, or_t, or_f, ng_i, rg_i, ne_s, ns_s, tri_x, tri_r, tri_n, it_l, it_t, it_s, po_i, fl_n, add_i, sub_i, cw_lt, cw_le, lt_i, le_i, gt_i, ge_i, eq_i, ne_i, eq_s, ne_s', is_n, isnt_n, len_l, len_t, tn_n, tn_c, tn_b, tn_r, tn_x, List.isEmpty_nil, Bool.true_and, List.length_cons, List.length_nil, decide_true, decide_false, if_true, if_false, List.map_cons, List.map_nil, List.cons_append, List.nil_append, Nat.zero_add, Nat.reduceAdd, Nat.reduceSub, List.replicate_zero, List.replicate_succ, List.set_cons_zero, List.set_cons_succ, List.zip_nil_left, List.zip_nil_right, Bool.not_true, Bool.not_false, Bool.false_eq_true, reduceIte])
theorem name_strOk {s : Str} (h : isNameS s = true) : PyData.strOk s = true := by
  unfold isNameS at h
  simp only [Bool.and_eq_true, List.all_eq_true, decide_eq_true_eq] at h
  unfold PyData.strOk
  rw [Array.all_eq_true_iff_forall_mem]
  intro c hc
  have := h.2 c (by simpa using hc)
  have e : ∀ c ∈ letters.cps.toList, c < 1114112 := by decide +kernel
  exact decide_eq_true (e c this)
/-- C(..), from its __init__ -/
def madeR (cn : Str) (fs : List (Str × D)) (x : Option (Str × List (Str × D))) (S : Store) : R W := match x with
  | none => .ok (.d (.ins cn fs)) S
  | some (c, gs) => .exc c gs S
theorem pureF_d : ∀ fs : List (Str × D), pureF (fs.map fun p => (p.1, W.d p.2)) = some fs
  | [] => rfl
  | (k, x) :: r => by
    show (pureF (r.map fun p => (p.1, W.d p.2))).map ((k, x) :: ·) = _
    rw [pureF_d r]; rfl
theorem make_of {cn : Str} {mi : List W → List (Str × W) → Store → R W} {as : List W} {kws : List (Str × W)} {S : Store} (hS : WF S) {fs : List (Str × D)} {x : Option (Str × List (Str × D))} (h : InitR cn S fs x (mi (.o S.length :: as) kws (S ++ [.ins cn []]))) :
    makeM false cn mi as kws S = madeR cn fs x S := by
  unfold makeM madeR
  cases x with
  | none =>
    have h : mi (.o S.length :: as) kws (S ++ [.ins cn []]) = _ := h
    rw [h]
    simp only
    rw [if_pos (by simp)]
    unfold finW
    rw [cut_app hS]
    simp [cellD, pureF_d]
  | some p =>
    obtain ⟨c, gs⟩ := p
    obtain ⟨hs, h⟩ := h
    rw [h]
    simp only
    rw [if_pos (by simp), cut_app hS]
/-- == of columns -/
theorem sp_col_eq {ow : Own} (T : ColT ow) (hc : isaC ow nCol = true) {nm lk nul df y : D} {S : Store} (hS : WF S) (ky : Kn ow y) (hy : isC nCol y = true → ∃ nm' lk' nul' df' b, y = colD nm' lk' nul' df' ∧ eqD (.tup [nm, lk, nul, df]) (.tup [nm', lk', nul', df']) = some b) :
    ∃ b, evF ow f_Column___eq__ [.d (colD nm lk nul df), .d y] [] S = .ok (.d (.bl b)) S ∧ (isC nCol y = false → b = false) ∧ ∀ nm' lk' nul' df' b', y = colD nm' lk' nul' df' → eqD (.tup [nm, lk, nul, df]) (.tup [nm', lk', nul', df']) = some b' → b = b' := by
  unfold f_Column___eq__
  walk_at "ev"
  rw [isi_c hc S ky]
  cases hC : isC nCol y with
  | false =>
    walk_at "ev"
    refine ⟨false, fin_d hS false _, fun _ => rfl, fun nm' lk' nul' df' b' e => ?_⟩
    subst e
    cases (show isC nCol (colD nm' lk' nul' df') = true from rfl).symm.trans hC
  | true =>
    obtain ⟨nm', lk', nul', df', b, rfl, he⟩ := hy hC
    have c := col_look nm lk nul df
    have c' := col_look nm' lk' nul' df'
    have F : ∀ a b c d : D, fieldsOf S (.d (colD a b c d)) = some (nCol, colW a b c d) := fun _ _ _ _ => rfl
    refine ⟨b, ?_, (fun z => nomatch z), fun a1 a2 a3 a4 b' e h => ?_⟩
    · walk_at "ev"
      rw [fld_of (F nm lk nul df) T.f1 c.1]
      walk_at "ev"
      rw [fld_of (F nm lk nul df) T.f2 c.2.1]
      walk_at "ev"
      rw [fld_of (F nm lk nul df) T.f3 c.2.2.1]
      walk_at "ev"
      rw [fld_of (F nm lk nul df) T.f4 c.2.2.2.1]
      walk_at "ev"
      rw [show ∀ a b c d : D, tupOf [.d a, .d b, .d c, .d d] S = .ok (.d (.tup [a, b, c, d])) S from fun _ _ _ _ => rfl]
      walk_at "ev"
      rw [fld_of (F nm' lk' nul' df') T.f1 c'.1]
      walk_at "ev"
      rw [fld_of (F nm' lk' nul' df') T.f2 c'.2.1]
      walk_at "ev"
      rw [fld_of (F nm' lk' nul' df') T.f3 c'.2.2.1]
      walk_at "ev"
      rw [fld_of (F nm' lk' nul' df') T.f4 c'.2.2.2.1]
      walk_at "ev"
      rw [show ∀ a b c d : D, tupOf [.d a, .d b, .d c, .d d] S = .ok (.d (.tup [a, b, c, d])) S from fun _ _ _ _ => rfl]
      walk_at "ev"
      rw [cx_eq S rfl, eqW_d S false he, od_ok]
      walk_at "ev"
      exact fin_d hS false _
    · simp only [colD, colF, D.ins.injEq, List.cons.injEq, Prod.mk.injEq, true_and, and_true] at e
      obtain ⟨rfl, rfl, rfl, rfl⟩ := e
      rw [he] at h
      exact Option.some.inj h
end Pr

namespace Dr
open PySem Mi Pr
local macro_rules | `(tactic| walk_at "ev") => `(tactic| simp only [evF, bndPlain, startI, eE_nm, eE_cst, eE_bin, eE_no, eE_neg, eE_cmp, eE_chain, eE_and, eE_or, eE_ife, eE_ix, eE_sl, eE_tup, eE_lst, eE_box, eE_comp, eE_call, eE_isi, eE_bi, eE_lens, eE_rpr, eE_ty, eE_bty, eE_mt, eE_lm, eE_fld, eT_no, eT_and, eT_or, eT_cmp, eT_chain, eT_tru, eT_yes, eA_nil, eA_cons, eO_non, eO_som, eI_rng, eI_it, eS_expr, eS_set, eS_asg, eS_par, eS_putix, eS_putf, eS_ret, eS_ret0, eS_pass, eS_brk, eS_cont, eS_ife, eS_loop, eS_whil, eS_raise, eS_tri, eSs_nil, eSs_cons, fBin, fNo, fCmp, fCh1, fCh2, ch_t, ch_f, fIx, fSl, fSl2, fCall, fCall2, fMt, fMt2, fCons, fCons2, fNot, fRng1, kNext, kSet, kAsg, kPar, kPut, kPut2, kPut3, kFld, kFld2, kRet, kFor, fComp, asEnv, tgW, asgIs, putAllM, b_ok, b_exc, b_bad, o_ok, o_exc, s_next, s_ret, s_exc, s_brk, s_cont, ab_ok, tr_bl, g_0, g_s, if_t, if_f, anE_t, anE_f, orE_t, orE_f, an_t, an_f, or_t, or_f, ng_i, rg_i, ne_s, ns_s, tri_x, tri_r, tri_n, it_l, it_t, it_s, po_i, fl_n, add_i, sub_i, cw_lt, cw_le, lt_i, le_i, gt_i, ge_i, eq_i, ne_i, eq_s, ne_s', is_n, isnt_n, len_l, len_t, tn_n, tn_c, tn_b, tn_r, tn_x, List.isEmpty_nil, Bool.true_and, List.length_cons, List.length_nil, decide_true, decide_false, if_true, if_false, List.map_cons, List.map_nil, List.cons_append, List.nil_append, Nat.zero_add, Nat.reduceAdd, Nat.reduceSub, List.replicate_zero, List.replicate_succ, List.set_cons_zero, List.set_cons_succ, List.zip_nil_left, List.zip_nil_right, Bool.not_true, Bool.not_false, Bool.false_eq_true, reduceIte])
/-! draws: printed by wip/gen -/
def f__law_bag : FI := ⟨bndPlain 2, true, 4, (.cons (.set 2 (.ife (.cmp true .Lt (.nm 1) (.bi true "len" (.cons (.nm 0) .nil))) (.ix (.nm 0) (.nm 1)) (.cst (.int 0)))) (.cons (.set 3 (.ife (.cmp true .GtE (.bi true "abs" (.cons (.nm 2) .nil)) (.bin .Pow (.cst (.int 10)) (.cst (.int 18)))) (.bi true "abs" (.cons (.nm 2) .nil)) (.cst (.int 0)))) (.cons (.ret (.box (.cons (.nm 3) (.cons (.bin .Mod (.bin .Mult (.bin .Add (.bin .Add (.bin .Mod (.nm 2) (.cst (.int 2305843009213693951))) (.bin .Mult (.cst (.int 7919)) (.nm 1))) (.cst (.int 83))) (.cst (.int 5915587))) (.cst (.int 2305843009213693951))) (.cons (.cst (.int 0)) .nil))))) .nil)))⟩
def f__law_take : FI := ⟨bndPlain 2, false, 4, (.cons (.ife (.cmp true .Gt (.ix (.nm 0) (.cst (.int 0))) (.cst (.int 0))) (.cons (.set 3 (.ty "int" (.cons (.bin .Mod (.ix (.nm 0) (.cst (.int 0))) (.nm 1)) .nil))) (.cons (.putix (.bin .FloorDiv (.ix (.nm 0) (.cst (.int 0))) (.nm 1)) (.nm 0) (.cst (.int 0))) (.cons (.ret (.nm 3)) .nil))) .nil) (.cons (.putix (.bin .Add (.ix (.nm 0) (.cst (.int 2))) (.cst (.int 1))) (.nm 0) (.cst (.int 2))) (.cons (.set 2 (.bin .Mod (.bin .Pow (.bin .Add (.ix (.nm 0) (.cst (.int 1))) (.bin .Mult (.cst (.int 1000003)) (.ix (.nm 0) (.cst (.int 2))))) (.cst (.int 3))) (.cst (.int 2305843009213693921)))) (.cons (.set 2 (.bin .Mod (.bin .Pow (.bin .Add (.nm 2) (.bin .Mult (.cst (.int 15485863)) (.ix (.nm 0) (.cst (.int 2))))) (.cst (.int 2))) (.cst (.int 2305843009213693951)))) (.cons (.ret (.ty "int" (.cons (.bin .Mod (.bin .FloorDiv (.nm 2) (.cst (.int 2048))) (.nm 1)) .nil))) .nil)))))⟩
def f__law_of : FI := ⟨bndPlain 2, false, 2, (.cons (.ret (.ix (.nm 1) (.call ("_law_take" : Str) (.cons (.nm 0) (.cons (.bi true "len" (.cons (.nm 1) .nil)) .nil)) [] .nil))) .nil)⟩
def f__law_links : FI := ⟨bndPlain 4, false, 7, (.cons (.par [5, 6] (.cons (.bty "list" (.cons (.nm 1) .nil)) (.cons (.box .nil) .nil))) (.cons (.loop (.nm 4) (.rng (.call ("_law_of" : Str) (.cons (.nm 0) (.cons (.lst (.cons (.cst (.int 0)) (.cons (.cst (.int 1)) (.cons (.cst (.int 1)) (.cons (.cst (.int 2)) (.cons (.cst (.int 2)) (.cons (.cst (.int 3)) (.cons (.cst (.int 4)) .nil)))))))) .nil)) [] .nil)) (.cons (.ife (.and (.cmp true .NotEq (.nm 5) (.lst .nil)) (.cmp true .Lt (.bi true "len" (.cons (.nm 6) .nil)) (.nm 3))) (.cons (.expr (.mt (.nm 6) ("append" : Str) (.cons (.tup (.cons (.mt (.nm 5) ("pop" : Str) (.cons (.call ("_law_take" : Str) (.cons (.nm 0) (.cons (.bi true "len" (.cons (.nm 5) .nil)) .nil)) [] .nil) .nil) [] .nil) (.cons (.call ("_law_of" : Str) (.cons (.nm 0) (.cons (.nm 2) .nil)) [] .nil) .nil))) .nil) [] .nil)) .nil) .nil) .nil)) (.cons (.ret (.nm 6)) .nil)))⟩
def f__law_column : FI := ⟨bndPlain 4, false, 7, (.cons (.par [5, 6] (.cons (.cmp true .Gt (.call ("_law_take" : Str) (.cons (.nm 0) (.cons (.cst (.int 3)) .nil)) [] .nil) (.cst (.int 0))) (.cons (.call ("_law_of" : Str) (.cons (.nm 0) (.cons (.lst (.cons (.cst .non) (.cons (.cst .non) (.cons (.cst (.int 0)) (.cons (.cst (.int 1)) .nil))))) .nil)) [] .nil) .nil))) (.cons (.set 4 (.lst (.cons (.cst (.str ("cascade" : Str))) (.cons (.cst (.str ("cascade" : Str))) (.cons (.cst (.str ("restrict" : Str))) (.cons (.cst (.str ("no_action" : Str))) .nil)))))) (.cons (.ife (.tru (.nm 5)) (.cons (.set 4 (.bin .Add (.nm 4) (.lst (.cons (.cst (.str ("set_null" : Str))) (.cons (.cst (.str ("set_null" : Str))) .nil))))) .nil) .nil) (.cons (.ife (.or (.tru (.nm 5)) (.cmp true .IsNot (.nm 6) (.cst .non))) (.cons (.set 4 (.bin .Add (.nm 4) (.lst (.cons (.cst (.str ("set_default" : Str))) .nil)))) .nil) .nil) (.cons (.ret (.tup (.cons (.nm 1) (.cons (.call ("_law_links" : Str) (.cons (.nm 0) (.cons (.nm 2) (.cons (.nm 4) (.cons (.nm 3) .nil)))) [] .nil) (.cons (.nm 5) (.cons (.nm 6) .nil)))))) .nil)))))⟩
def bagC (a b c : Int) : Cell := .lst [.d (.int a), .d (.int b), .d (.int c)]
/-- a bag behind at most n draws -/
def Bag (n : Nat) (c : Cell) : Prop := ∃ a b k : Int, c = bagC a b k ∧ 0 ≤ a ∧ 0 ≤ b ∧ b < 2305843009213693951 ∧ 0 ≤ k ∧ k ≤ n
theorem Bag.mono {m n : Nat} {c : Cell} (h : Bag m c) (l : m ≤ n) : Bag n c := by
  obtain ⟨a, b, k, e, h1, h2, h3, h4, h5⟩ := h
  exact ⟨a, b, k, e, h1, h2, h3, h4, by omega⟩
theorem Bag.below {n m : Nat} {c : Cell} (h : Bag n c) : c.below m = true := by
  obtain ⟨a, b, k, rfl, _⟩ := h
  rfl
theorem bag_ix {S : Store} {i : Nat} {a b c : Int} (h : S[i]? = some (bagC a b c)) : ixW (.o i) (.d (.int 0)) S = .ok (.d (.int a)) S ∧ ixW (.o i) (.d (.int 1)) S = .ok (.d (.int b)) S ∧ ixW (.o i) (.d (.int 2)) S = .ok (.d (.int c)) S := by
  have e : ∀ k : Int, ixW (.o i) (.d (.int k)) S = (match S[i]? with | some (.lst ws) => (match L2.atI ws k with | some w => R.ok w S | none => R.bad) | _ => R.bad) := fun _ => rfl
  simp only [e, h, bagC]
  rw [atN (i := 0) 0 rfl rfl, atN (i := 1) 1 rfl rfl, atN (i := 2) 2 rfl rfl]
  exact ⟨rfl, rfl, rfl⟩
theorem bag_put {S : Store} {i : Nat} {a b c : Int} (h : S[i]? = some (bagC a b c)) (v : Int) : putIx (.o i) (.d (.int 0)) (.d (.int v)) S = some (S.set i (bagC v b c)) ∧ putIx (.o i) (.d (.int 2)) (.d (.int v)) S = some (S.set i (bagC a b v)) := by
  have e : ∀ k : Int, putIx (.o i) (.d (.int k)) (.d (.int v)) S = (match S[i]? with | some (.lst ws) => (match L2.ixN ws.length k with | some j => some (S.set i (.lst (ws.set j (.d (.int v))))) | none => none) | _ => none) := fun _ => rfl
  simp only [e, h, bagC]
  exact ⟨rfl, rfl⟩
theorem at_set {S : Store} {i : Nat} {c d : Cell} (h : S[i]? = some c) : (S.set i d)[i]? = some d := by
  rw [List.getElem?_set_self (List.getElem?_eq_some_iff.mp h).1]
theorem ty_int (i : Int) (S : Store) : callTy "int" [.d (.int i)] S = .ok (.d (.int i)) S := rfl
theorem set2 {S : Store} {i : Nat} {c d : Cell} : (S.set i c).set i d = S.set i d := by simp
abbrev SpTake (F : List W → List (Str × W) → Store → R W) : Prop := ∀ (S : Store) (i n : Nat) (c : Cell) (many : Int), WF S → S[i]? = some c → Bag n c → n ≤ 1000000000 → 1 ≤ many → many < 1073741824 →
  ∃ (r : Int) (c' : Cell), F [.o i, .d (.int many)] [] S = .ok (.d (.int r)) (S.set i c') ∧ 0 ≤ r ∧ r < many ∧ Bag (n + 1) c'
theorem small_of {i : Int} (h : -(2 ^ 64) < i ∧ i < 2 ^ 64) : smallI i = true := decide_eq_true h
theorem sp_take {ow : Own} : SpTake (evF ow f__law_take) := by
  intro S i n c many hS hc hb hn h1 h2
  obtain ⟨a, b, k, rfl, a0, b0, b1, k0, k1⟩ := hb
  obtain ⟨x0, x1, x2⟩ := bag_ix hc
  have hm : many ≠ 0 := by omega
  unfold f__law_take
  walk_at "ev"
  rw [x0]
  walk_at "ev"
  by_cases ha : 0 < a
  · rw [decide_eq_true ha]
    walk_at "ev"
    rw [x0]
    walk_at "ev"
    rw [mod_i S a many hm]
    walk_at "ev"
    rw [ty_int]
    walk_at "ev"
    rw [x0]
    walk_at "ev"
    rw [div_i S a many ⟨hm, by omega⟩]
    walk_at "ev"
    rw [(bag_put hc _).1]
    walk_at "ev"
    have e := Int.fmod_eq_emod_of_nonneg a (by omega : 0 ≤ many)
    refine ⟨a.fmod many, bagC (a.fdiv many) b k, fin_dL (by simp) (wf_set hS rfl) false _, ?_, ?_, _, _, _, rfl, ?_, b0, b1, k0, by omega⟩
    · rw [e]; exact Int.emod_nonneg _ hm
    · rw [e]; exact Int.emod_lt_of_pos _ (by omega)
    · rw [Int.fdiv_eq_ediv_of_nonneg _ (by omega)]; exact Int.ediv_nonneg a0 (by omega)
  · rw [decide_eq_false ha]
    walk_at "ev"
    rw [x2]
    walk_at "ev"
    rw [(bag_put hc _).2]
    have hc2 := at_set (d := bagC a b (k + 1)) hc
    obtain ⟨y0, y1, y2⟩ := bag_ix hc2
    generalize hG : S.set i (bagC a b (k + 1)) = S1 at hc2 y0 y1 y2 ⊢
    walk_at "ev"
    rw [y1]
    walk_at "ev"
    rw [y2]
    walk_at "ev"
    rw [mul_i S1 1000003 (k + 1) (by rw [small_of (i := 1000003) (by decide)]; rfl)]
    walk_at "ev"
    rw [pow_i S1 _ 3 ⟨by decide, by decide, by omega⟩]
    walk_at "ev"
    rw [mod_i S1 _ 2305843009213693921 (by decide)]
    walk_at "ev"
    have m1 := Int.fmod_eq_emod_of_nonneg ((b + 1000003 * (k + 1)) ^ (3 : Int).toNat) (by decide : (0 : Int) ≤ 2305843009213693921)
    have p1 := Int.emod_nonneg ((b + 1000003 * (k + 1)) ^ (3 : Int).toNat) (by decide : (2305843009213693921 : Int) ≠ 0)
    have p2 := Int.emod_lt_of_pos ((b + 1000003 * (k + 1)) ^ (3 : Int).toNat) (by decide : (0 : Int) < 2305843009213693921)
    rw [← m1] at p1 p2
    generalize Int.fmod ((b + 1000003 * (k + 1)) ^ (3 : Int).toNat) 2305843009213693921 = z at p1 p2 ⊢
    rw [y2]
    walk_at "ev"
    rw [mul_i S1 15485863 (k + 1) (by rw [small_of (i := 15485863) (by decide)]; rfl)]
    walk_at "ev"
    rw [pow_i S1 _ 2 ⟨by decide, by decide, by omega⟩]
    walk_at "ev"
    rw [mod_i S1 _ 2305843009213693951 (by decide)]
    walk_at "ev"
    rw [div_i S1 _ 2048 (by decide)]
    walk_at "ev"
    generalize (Int.fmod ((z + 15485863 * (k + 1)) ^ (2 : Int).toNat) 2305843009213693951).fdiv 2048 = q
    rw [mod_i S1 q many hm]
    walk_at "ev"
    rw [ty_int]
    walk_at "ev"
    refine ⟨q.fmod many, bagC a b (k + 1), ?_, ?_, ?_, _, _, _, rfl, a0, b0, b1, by omega, by omega⟩
    · rw [hG]
      exact fin_dL (by rw [← hG]; simp) (by rw [← hG]; exact wf_set hS rfl) false _
    · rw [Int.fmod_eq_emod_of_nonneg _ (by omega)]; exact Int.emod_nonneg _ hm
    · rw [Int.fmod_eq_emod_of_nonneg _ (by omega)]; exact Int.emod_lt_of_pos _ (by omega)
end Dr

namespace Dr
open PySem Mi Pr
local macro_rules | `(tactic| walk_at "ev") => `(tactic| simp only [evF, bndPlain, startI, eE_nm, eE_cst, eE_bin, eE_no, eE_neg, eE_cmp, eE_chain, eE_and, eE_or, eE_ife, eE_ix, eE_sl, eE_tup, eE_lst, eE_box, eE_comp, eE_call, eE_isi, eE_bi, eE_lens, eE_rpr, eE_ty, eE_bty, eE_mt, eE_lm, eE_fld, eT_no, eT_and, eT_or, eT_cmp, eT_chain, eT_tru, eT_yes, eA_nil, eA_cons, eO_non, eO_som, eI_rng, eI_it, eS_expr, eS_set, eS_asg, eS_par, eS_putix, eS_putf, eS_ret, eS_ret0, eS_pass, eS_brk, eS_cont, eS_ife, eS_loop, eS_whil, eS_raise, eS_tri, eSs_nil, eSs_cons, fBin, fNo, fCmp, fCh1, fCh2, ch_t, ch_f, fIx, fSl, fSl2, fCall, fCall2, fMt, fMt2, fCons, fCons2, fNot, fRng1, kNext, kSet, kAsg, kPar, kPut, kPut2, kPut3, kFld, kFld2, kRet, kFor, fComp, asEnv, tgW, asgIs, putAllM, b_ok, b_exc, b_bad, o_ok, o_exc, s_next, s_ret, s_exc, s_brk, s_cont, ab_ok, tr_bl, g_0, g_s, if_t, if_f, anE_t, anE_f, orE_t, orE_f, an_t, an_f, or_t, or_f, ng_i, rg_i, ne_s, ns_s, tri_x, tri_r, tri_n, it_l, it_t, it_s, po_i, fl_n, add_i, sub_i, cw_lt, cw_le, lt_i, le_i, gt_i, ge_i, eq_i, ne_i, eq_s, ne_s', is_n, isnt_n, len_l, len_t, tn_n, tn_c, tn_b, tn_r, tn_x, List.isEmpty_nil, Bool.true_and, List.length_cons, List.length_nil, decide_true, decide_false, if_true, if_false, List.map_cons, List.map_nil, List.cons_append, List.nil_append, Nat.zero_add, Nat.reduceAdd, Nat.reduceSub, List.replicate_zero, List.replicate_succ, List.set_cons_zero, List.set_cons_succ, List.zip_nil_left, List.zip_nil_right, Bool.not_true, Bool.not_false, Bool.false_eq_true, reduceIte])
abbrev SpOf (F : List W → List (Str × W) → Store → R W) : Prop := ∀ (S : Store) (i n : Nat) (c : Cell) (ds : List D), WF S → S[i]? = some c → Bag n c → n ≤ 1000000000 → ds ≠ [] → ds.length < 1000000 →
  ∃ (x : D) (c' : Cell), F [.o i, .d (.lst ds)] [] S = .ok (.d x) (S.set i c') ∧ x ∈ ds ∧ Bag (n + 1) c'
theorem sp_of {ow : Own} (ht : SpTake (ow.fn ("_law_take" : Str))) : SpOf (evF ow f__law_of) := by
  intro S i n c ds hS hc hb hn h1 h2
  have hpos : 0 < ds.length := List.length_pos_iff.mpr h1
  obtain ⟨r, c', e, r0, r1, hb'⟩ := ht S i n c ds.length hS hc hb hn (by omega) (by omega)
  unfold f__law_of
  walk_at "ev"
  rw [e]
  walk_at "ev"
  have hr : r.toNat < ds.length := by omega
  rw [ix_lst (x := ds[r.toNat]) (atN r.toNat (by omega) (List.getElem?_eq_getElem hr))]
  walk_at "ev"
  exact ⟨_, c', fin_dL (by simp) (wf_set hS hb'.below) false _, List.getElem_mem hr, hb'⟩
theorem sp_bag {ow : Own} {ns : List Int} {at_ : Int} {S : Store} (hS : WF S) (h0 : 0 ≤ at_) (h1 : at_ ≤ 1) : ∃ c, evF ow f__law_bag [.d (.scr ns), .d (.int at_)] [] S = .ok (.o S.length) (S ++ [c]) ∧ Bag 0 c := by
  have len : callB true "len" [.d (.scr ns)] S = .ok (.d (.int ns.length)) S := rfl
  have absr : ∀ i : Int, callB true "abs" [.d (.int i)] S = .ok (.d (.int (if i < 0 then -i else i))) S := fun _ => rfl
  unfold f__law_bag
  walk_at "ev"
  rw [len]
  walk_at "ev"
  have cell : ∃ v : Int, ∀ (env : EnvM), fIf (evE ow (.ix (.nm 0) (.nm 1)) [some (.d (.scr ns)), some (.d (.int at_)), none, none]) (evE ow (.cst (.int 0)) [some (.d (.scr ns)), some (.d (.int at_)), none, none]) (decide (at_ < ns.length)) S = .ok (.d (.int v)) S := by
    by_cases h : at_ < ns.length
    · rw [decide_eq_true h]
      have hr : at_.toNat < ns.length := by omega
      refine ⟨ns[at_.toNat], fun _ => ?_⟩
      walk_at "ev"
      show (match L2.atI ns at_ with | some k => R.ok (W.d (D.int k)) S | none => R.bad) = _
      rw [atN at_.toNat (by omega) (List.getElem?_eq_getElem hr)]
    · rw [decide_eq_false h]
      exact ⟨0, fun _ => rfl⟩
  obtain ⟨v, hv⟩ := cell
  rw [hv []]
  walk_at "ev"
  rw [absr]
  walk_at "ev"
  rw [pow_i S 10 18 (by decide)]
  walk_at "ev"
  have digits : ∃ d : Int, 0 ≤ d ∧ fIf (evE ow (.bi true "abs" (.cons (.nm 2) .nil)) [some (.d (.scr ns)), some (.d (.int at_)), some (.d (.int v)), none]) (evE ow (.cst (.int 0)) [some (.d (.scr ns)), some (.d (.int at_)), some (.d (.int v)), none]) (decide ((10 : Int) ^ (18 : Int).toNat ≤ if v < 0 then -v else v)) S = .ok (.d (.int d)) S := by
    cases decide ((10 : Int) ^ (18 : Int).toNat ≤ if v < 0 then -v else v)
    · exact ⟨0, Int.le_refl _, rfl⟩
    · refine ⟨if v < 0 then -v else v, by split <;> omega, ?_⟩
      walk_at "ev"
      rw [absr]
  obtain ⟨d, d0, hd⟩ := digits
  rw [hd]
  walk_at "ev"
  rw [mod_i S v _ (by decide)]
  walk_at "ev"
  rw [mul_i S 7919 at_ (by rw [small_of (i := 7919) (by decide)]; rfl)]
  walk_at "ev"
  generalize v.fmod 2305843009213693951 + 7919 * at_ + 83 = q
  rw [mul_i S q 5915587 (by rw [small_of (i := 5915587) (by decide), Bool.or_true])]
  walk_at "ev"
  rw [mod_i S _ _ (by decide)]
  walk_at "ev"
  rw [show ∀ ws S, ws.length ≤ 100000 → boxOf ws S = .ok (.o S.length) (S ++ [.lst ws]) from fun ws S h => if_pos h]
  case a => simp
  walk_at "ev"
  have e := Int.fmod_eq_emod_of_nonneg (q * 5915587) (by decide : (0 : Int) ≤ 2305843009213693951)
  refine ⟨bagC d ((q * 5915587).fmod 2305843009213693951) 0, ?_, _, _, _, rfl, d0, ?_, ?_, Int.le_refl _, Int.le_refl _⟩
  · refine (if_pos (by simp)).trans ?_
    unfold finW
    rw [cut_app hS]
    simp only [Nat.lt_irrefl, if_false, at_new]
    rfl
  · rw [e]; exact Int.emod_nonneg _ (by decide)
  · rw [e]; exact Int.emod_lt_of_pos _ (by decide)
end Dr

namespace Dr
open PySem Mi Pr
local macro_rules | `(tactic| walk_at "ev") => `(tactic| simp only [evF, bndPlain, startI, eE_nm, eE_cst, eE_bin, eE_no, eE_neg, eE_cmp, eE_chain, eE_and, eE_or, eE_ife, eE_ix, eE_sl, eE_tup, eE_lst, eE_box, eE_comp, eE_call, eE_isi, eE_bi, eE_lens, eE_rpr, eE_ty, eE_bty, eE_mt, eE_lm, eE_fld, eT_no, eT_and, eT_or, eT_cmp, eT_chain, eT_tru, eT_yes, eA_nil, eA_cons, eO_non, eO_som, eI_rng, eI_it, eS_expr, eS_set, eS_asg, eS_par, eS_putix, eS_putf, eS_ret, eS_ret0, eS_pass, eS_brk, eS_cont, eS_ife, eS_loop, eS_whil, eS_raise, eS_tri, eSs_nil, eSs_cons, fBin, fNo, fCmp, fCh1, fCh2, ch_t, ch_f, fIx, fSl, fSl2, fCall, fCall2, fMt, fMt2, fCons, fCons2, fNot, fRng1, kNext, kSet, kAsg, kPar, kPut, kPut2, kPut3, kFld, kFld2, kRet, kFor, fComp, asEnv, tgW, asgIs, putAllM, b_ok, b_exc, b_bad, o_ok, o_exc, s_next, s_ret, s_exc, s_brk, s_cont, ab_ok, tr_bl, g_0, g_s, if_t, if_f, anE_t, anE_f, orE_t, orE_f, an_t, an_f, or_t, or_f, ng_i, rg_i, ne_s, ns_s, tri_x, tri_r, tri_n, it_l, it_t, it_s, po_i, fl_n, add_i, sub_i, cw_lt, cw_le, lt_i, le_i, gt_i, ge_i, eq_i, ne_i, eq_s, ne_s', is_n, isnt_n, len_l, len_t, tn_n, tn_c, tn_b, tn_r, tn_x, List.isEmpty_nil, Bool.true_and, List.length_cons, List.length_nil, decide_true, decide_false, if_true, if_false, List.map_cons, List.map_nil, List.cons_append, List.nil_append, Nat.zero_add, Nat.reduceAdd, Nat.reduceSub, List.replicate_zero, List.replicate_succ, List.set_cons_zero, List.set_cons_succ, List.zip_nil_left, List.zip_nil_right, Bool.not_true, Bool.not_false, Bool.false_eq_true, reduceIte])
def linkD (p : Str × Str) : D := .tup [.str p.1, .str p.2]
theorem at1 (S : Store) (a b : Cell) : (S ++ [a, b])[S.length + 1]? = some b := by simp
theorem at0 (S : Store) (a b : Cell) : (S ++ [a, b])[S.length]? = some a := by simp
theorem sete1 (S : Store) (a b c : Cell) : (S ++ [a, b]).set (S.length + 1) c = S ++ [a, c] := by simp
theorem sete0 (S : Store) (a b c : Cell) : (S ++ [a, b]).set S.length c = S ++ [c, b] := by simp
theorem seti {S : Store} {i : Nat} (h : i < S.length) (T : Store) (c : Cell) : (S ++ T).set i c = S.set i c ++ T := by
  rw [List.set_append_left _ _ h]
theorem ati {S : Store} {i : Nat} {c : Cell} (h : S[i]? = some c) (T : Store) : (S ++ T)[i]? = some c := by
  rw [List.getElem?_append_left (List.getElem?_eq_some_iff.mp h).1, h]
theorem wf_app2 {S : Store} {a b : Cell} (h : WF S) (ha : a.below (S.length + 1) = true) (hb : b.below (S.length + 2) = true) : WF (S ++ [a, b]) := by
  have := wf_app (wf_app h ha) (c := b) (by simpa using hb)
  simpa using this
/-- what is drawn: names once each, with actions -/
structure Drawn (ns acts : List Str) (ls : List (Str × Str)) : Prop where
  m : ∀ p ∈ ls, p.1 ∈ ns ∧ p.2 ∈ acts
  nd : (ls.map (·.1)).Nodup
theorem ne_nil_cell {ow : Own} {S : Store} {n : Nat} {ws : List W} {ds : List D} (h : S[n]? = some (.lst ws)) (hp : pureL ws = some ds) (ho : ∀ x ∈ ds, Ok 60 x) (k : Bool) : cmpX ow k .NotEq (.o n) (.d (.lst [])) S = .ok (.d (.bl (!ds.isEmpty))) S := by
  have e : cmpX ow k .NotEq (.o n) (.d (.lst [])) S = orDeep ow k true (.o n) (.d (.lst [])) S (eqW true (.o n) (.d (.lst [])) S) := by
    show orDeep ow k true (.o n) (.d (.lst [])) S (match mtOwn ow "__eq__" (.o n) S with | some cn => _ | none => eqW true (.o n) (.d (.lst [])) S) = _
    rw [show mtOwn ow "__eq__" (.o n) S = none from by
      unfold mtOwn
      rw [fo_o, h]]
  rw [e]
  unfold eqW
  rw [show asD S (.o n) = some (.lst ds) from by
    show (match S[n]? with | some (.lst ws) => (pureL ws).map D.lst | _ => none) = _
    rw [h]
    simp only [hp, Option.map_some]]
  simp only [asD]
  rw [eqD_ok (Ok.lst ho) (Ok.lst (n := 0) (xs := []) (fun _ h => nomatch h))]
  simp only [od_ok]
  cases ds <;> simp [D.py, pyL, PyData.eqv, PyData.eqvAll]
theorem append_at {S : Store} {n : Nat} {ws : List W} (h : S[n]? = some (.lst ws)) (hl : ws.length < 100000) (w : W) : mtW "list.append" (.o n) [w] S = .ok (.d .non) (S.set n (.lst (ws ++ [w]))) := by
  unfold mtW
  simp [h, hl]
theorem pop_at {S : Store} {n : Nat} {ws : List W} {r : Int} {w : W} (h : S[n]? = some (.lst ws)) (r0 : 0 ≤ r) (r1 : r < ws.length) (hl : ws.length < 1000000) (hw : ws[r.toNat]? = some w) : mtW "list.pop" (.o n) [.d (.int r)] S = .ok w (S.set n (.lst (ws.eraseIdx r.toNat))) := by
  have sq : seqIndex? r ws.length = some r.toNat := by
    have e1 : ¬ r < 0 := by omega
    unfold seqIndex?
    simp only [e1, if_false]
    rw [if_pos (by simp [r0, r1])]
  unfold mtW
  simp [h, sq, hw]
  omega
theorem perm_erase {α : Type} : ∀ (l : List α) (i : Nat) (h : i < l.length), l.Perm (l[i] :: l.eraseIdx i)
  | x :: r, 0, _ => List.Perm.refl _
  | x :: r, i + 1, h => by
    have := perm_erase r i (by simpa using h)
    simp only [List.getElem_cons_succ, List.eraseIdx_cons_succ]
    exact (List.Perm.cons x this).trans (List.Perm.swap _ _ _)
abbrev bodyLinks : ISs := (.cons (.ife (.and (.cmp true .NotEq (.nm 5) (.lst .nil)) (.cmp true .Lt (.bi true "len" (.cons (.nm 6) .nil)) (.nm 3))) (.cons (.expr (.mt (.nm 6) ("append" : Str) (.cons (.tup (.cons (.mt (.nm 5) ("pop" : Str) (.cons (.call ("_law_take" : Str) (.cons (.nm 0) (.cons (.bi true "len" (.cons (.nm 5) .nil)) .nil)) [] .nil) .nil) [] .nil) (.cons (.call ("_law_of" : Str) (.cons (.nm 0) (.cons (.nm 2) .nil)) [] .nil) .nil))) .nil) [] .nil)) .nil) .nil) .nil)
theorem strs_ok {ns : List Str} (h : ∀ s ∈ ns, PyData.strOk s = true) : ∀ x ∈ ns.map D.str, Ok 60 x := by
  intro x hx
  obtain ⟨s, hs, rfl⟩ := List.mem_map.mp hx
  exact Ok.str (h s hs)
theorem turn_links {ow : Own} (ht : SpTake (ow.fn ("_law_take" : Str))) (hof : SpOf (ow.fn ("_law_of" : Str))) {S : Store} {i n : Nat} {c : Cell} {acts left : List Str} {ls : List (Str × Str)} {most : Int} {a1 o : Option W}
    (hS : WF S) (hc : S[i]? = some c) (hb : Bag n c) (hn : n + 2 ≤ 1000000000) (ha : acts ≠ []) (ha2 : acts.length < 1000000) (hl : left.length < 1000000) (hls : ls.length < 1000) (hok : ∀ s ∈ left, PyData.strOk s = true) (sl : Nat) (hsl : sl = S.length) :
    ∃ c' left' ls', evSs ow bodyLinks [some (.o i), a1, some (.d (.lst (acts.map D.str))), some (.d (.int most)), o, some (.o sl), some (.o (sl + 1))] (S ++ [.lst ((left.map D.str).map W.d), .lst ((ls.map linkD).map W.d)]) =
        .next [some (.o i), a1, some (.d (.lst (acts.map D.str))), some (.d (.int most)), o, some (.o sl), some (.o (sl + 1))] (S.set i c' ++ [.lst ((left'.map D.str).map W.d), .lst ((ls'.map linkD).map W.d)]) ∧ Bag (n + 2) c' ∧
      ((left' = left ∧ ls' = ls) ∨ ((ls.length : Int) < most ∧ ∃ x a, a ∈ acts ∧ ls' = ls ++ [(x, a)] ∧ left.Perm (x :: left'))) := by
  subst hsl
  have hi : i < S.length := (List.getElem?_eq_some_iff.mp hc).1
  have same : S.set i c = S := by
    refine List.ext_getElem? fun j => ?_
    rw [List.getElem?_set]
    split
    · rename_i e
      subst e
      exact hc.symm
    · rfl
  have lenc : ∀ (S : Store) (n : Nat) (ws : List W) (k : Bool), S[n]? = some (.lst ws) → callB k "len" [.o n] S = .ok (.d (.int ws.length)) S := fun S n ws k h => by
    unfold callB lenN
    simp [h]
  walk_at "ev"
  rw [show lstOf [] = fun S => .ok (.d (.lst [])) S from rfl]
  walk_at "ev"
  rw [ne_nil_cell (at0 S _ _) (pureL_d _) (strs_ok hok)]
  by_cases hle : left = []
  · subst hle
    walk_at "ev"
    exact ⟨c, [], ls, by rw [same]; rfl, hb.mono (by omega), .inl ⟨rfl, rfl⟩⟩
  · have hpos : 0 < left.length := List.length_pos_iff.mpr hle
    rw [show (List.map D.str left).isEmpty = false from by cases left with | nil => exact absurd rfl hle | cons _ _ => rfl]
    walk_at "ev"
    rw [lenc _ _ _ _ (at1 S _ _)]
    walk_at "ev"
    by_cases hm : (ls.length : Int) < most
    · rw [decide_eq_true (by simpa using hm)]
      have isl0 : ∀ (S : Store) (a b : List W), isLst (S ++ [.lst a, .lst b]) (.o S.length) = true := fun S a b => by
        show (match (S ++ [Cell.lst a, .lst b])[S.length]? with | some (.lst _) => true | _ => false) = true
        rw [at0]
      have isl1 : ∀ (S : Store) (a b : List W), isLst (S ++ [.lst a, .lst b]) (.o (S.length + 1)) = true := fun S a b => by
        show (match (S ++ [Cell.lst a, .lst b])[S.length + 1]? with | some (.lst _) => true | _ => false) = true
        rw [at1]
      walk_at "ev"
      rw [mtC_lst (isl1 S _ _) (id := "list.append") (by decide +kernel)]
      walk_at "ev"
      rw [mtC_lst (isl0 S _ _) (id := "list.pop") (by decide +kernel)]
      walk_at "ev"
      rw [lenc _ _ _ _ (at0 S _ _)]
      walk_at "ev"
      have wf1 : WF (S ++ [.lst ((left.map D.str).map W.d), .lst ((ls.map linkD).map W.d)]) := wf_app2 hS (pure_below _ _) (pure_below _ _)
      obtain ⟨r, c1, e1, r0, r1, b1⟩ := ht _ i n c ((left.map D.str).map W.d).length wf1 (ati hc _) hb (by omega) (by simp; omega) (by simp at hl ⊢; omega)
      rw [e1, seti hi]
      walk_at "ev"
      have hlen : (S.set i c1).length = S.length := by simp
      have hr : r.toNat < left.length := by simp only [List.length_map] at r1; omega
      have pop : mtW "list.pop" (.o S.length) [.d (.int r)] (S.set i c1 ++ [.lst ((left.map D.str).map W.d), .lst ((ls.map linkD).map W.d)]) = .ok (.d (.str (left[r.toNat]'hr))) (S.set i c1 ++ [.lst (((left.eraseIdx r.toNat).map D.str).map W.d), .lst ((ls.map linkD).map W.d)]) := by
        have g0 : (S.set i c1 ++ [Cell.lst ((left.map D.str).map W.d), .lst ((ls.map linkD).map W.d)])[S.length]? = some (.lst ((left.map D.str).map W.d)) := by rw [← hlen, at0]
        rw [pop_at g0 r0 r1 (by simpa using hl) (w := .d (.str (left[r.toNat]'hr))) (by rw [List.getElem?_map, List.getElem?_map, List.getElem?_eq_getElem hr]; rfl)]
        have st : ∀ d, (S.set i c1 ++ [Cell.lst ((left.map D.str).map W.d), .lst ((ls.map linkD).map W.d)]).set S.length d = S.set i c1 ++ [d, .lst ((ls.map linkD).map W.d)] := fun d => by rw [← hlen, sete0]
        rw [st, erase_map, erase_map]
      rw [pop]
      walk_at "ev"
      have wf2 : WF (S.set i c1 ++ [.lst (((left.eraseIdx r.toNat).map D.str).map W.d), .lst ((ls.map linkD).map W.d)]) := wf_app2 (wf_set hS b1.below) (pure_below _ _) (pure_below _ _)
      obtain ⟨x, c2, e2, hx, b2⟩ := hof _ i (n + 1) c1 (acts.map D.str) wf2 (ati (at_set hc) _) b1 (by omega) (by simpa using ha) (by simpa using ha2)
      rw [e2, seti (by simpa using hi), set2]
      obtain ⟨a, haa, rfl⟩ := List.mem_map.mp hx
      walk_at "ev"
      rw [show ∀ a b S, tupOf [.d a, .d b] S = .ok (.d (.tup [a, b])) S from fun _ _ _ => rfl]
      walk_at "ev"
      have hlen2 : (S.set i c2).length = S.length := by simp
      have app : mtW "list.append" (.o (S.length + 1)) [.d (.tup [.str (left[r.toNat]'hr), .str a])] (S.set i c2 ++ [.lst (((left.eraseIdx r.toNat).map D.str).map W.d), .lst ((ls.map linkD).map W.d)]) = .ok (.d .non) (S.set i c2 ++ [.lst (((left.eraseIdx r.toNat).map D.str).map W.d), .lst (((ls ++ [((left[r.toNat]'hr), a)]).map linkD).map W.d)]) := by
        have g0 : (S.set i c2 ++ [Cell.lst (((left.eraseIdx r.toNat).map D.str).map W.d), .lst ((ls.map linkD).map W.d)])[S.length + 1]? = some (.lst ((ls.map linkD).map W.d)) := by rw [← hlen2, at1]
        have st : ∀ d, (S.set i c2 ++ [Cell.lst (((left.eraseIdx r.toNat).map D.str).map W.d), .lst ((ls.map linkD).map W.d)]).set (S.length + 1) d = S.set i c2 ++ [Cell.lst (((left.eraseIdx r.toNat).map D.str).map W.d), d] := fun d => by rw [← hlen2, sete1]
        rw [append_at g0 (by simp; omega), st]
        simp [linkD]
      rw [app]
      walk_at "ev"
      exact ⟨c2, _, _, rfl, b2, .inr ⟨hm, _, a, haa, rfl, perm_erase left r.toNat hr⟩⟩
    · rw [decide_eq_false (by simpa using hm)]
      walk_at "ev"
      exact ⟨c, left, ls, by rw [same], hb.mono (by omega), .inl ⟨rfl, rfl⟩⟩
end Dr

namespace Dr
open PySem Mi Pr
local macro_rules | `(tactic| walk_at "ev") => `(tactic| simp only [evF, bndPlain, startI, eE_nm, eE_cst, eE_bin, eE_no, eE_neg, eE_cmp, eE_chain, eE_and, eE_or, eE_ife, eE_ix, eE_sl, eE_tup, eE_lst, eE_box, eE_comp, eE_call, eE_isi, eE_bi, eE_lens, eE_rpr, eE_ty, eE_bty, eE_mt, eE_lm, eE_fld, eT_no, eT_and, eT_or, eT_cmp, eT_chain, eT_tru, eT_yes, eA_nil, eA_cons, eO_non, eO_som, eI_rng, eI_it, eS_expr, eS_set, eS_asg, eS_par, eS_putix, eS_putf, eS_ret, eS_ret0, eS_pass, eS_brk, eS_cont, eS_ife, eS_loop, eS_whil, eS_raise, eS_tri, eSs_nil, eSs_cons, fBin, fNo, fCmp, fCh1, fCh2, ch_t, ch_f, fIx, fSl, fSl2, fCall, fCall2, fMt, fMt2, fCons, fCons2, fNot, fRng1, kNext, kSet, kAsg, kPar, kPut, kPut2, kPut3, kFld, kFld2, kRet, kFor, fComp, asEnv, tgW, asgIs, putAllM, b_ok, b_exc, b_bad, o_ok, o_exc, s_next, s_ret, s_exc, s_brk, s_cont, ab_ok, tr_bl, g_0, g_s, if_t, if_f, anE_t, anE_f, orE_t, orE_f, an_t, an_f, or_t, or_f, ng_i, rg_i, ne_s, ns_s, tri_x, tri_r, tri_n, it_l, it_t, it_s, po_i, fl_n, add_i, sub_i, cw_lt, cw_le, lt_i, le_i, gt_i, ge_i, eq_i, ne_i, eq_s, ne_s', is_n, isnt_n, len_l, len_t, tn_n, tn_c, tn_b, tn_r, tn_x, List.isEmpty_nil, Bool.true_and, List.length_cons, List.length_nil, decide_true, decide_false, if_true, if_false, List.map_cons, List.map_nil, List.cons_append, List.nil_append, Nat.zero_add, Nat.reduceAdd, Nat.reduceSub, List.replicate_zero, List.replicate_succ, List.set_cons_zero, List.set_cons_succ, List.zip_nil_left, List.zip_nil_right, Bool.not_true, Bool.not_false, Bool.false_eq_true, reduceIte])
structure LkInv (ns acts : List Str) (most : Int) (m : Nat) (left : List Str) (ls : List (Str × Str)) : Prop where
  p : (ls.map (·.1) ++ left).Perm ns
  a : ∀ q ∈ ls, q.2 ∈ acts
  l : ls.length ≤ m
  b : ls = [] ∨ (ls.length : Int) ≤ most
theorem loop_draw {ow : Own} (ht : SpTake (ow.fn ("_law_take" : Str))) (hof : SpOf (ow.fn ("_law_of" : Str))) {i : Nat} {ns acts : List Str} {most : Int} {a1 : Option W} (ha : acts ≠ []) (ha2 : acts.length < 1000000) (hok : ∀ s ∈ ns, PyData.strOk s = true) (hns : ns.length < 1000000) (sl : Nat) :
    ∀ (ws : List D) (S : Store) (n m : Nat) (c : Cell) (left : List Str) (ls : List (Str × Str)) (o : Option W), WF S → S[i]? = some c → Bag n c → n + 2 * ws.length ≤ 1000000000 → LkInv ns acts most m left ls → m + ws.length < 1000 → sl = S.length →
    ∃ c' left' ls' o', forL (fun _ => tgW (.nm 4)) (evSs ow bodyLinks) (ws.map W.d) [some (.o i), a1, some (.d (.lst (acts.map D.str))), some (.d (.int most)), o, some (.o sl), some (.o (sl + 1))] (S ++ [.lst ((left.map D.str).map W.d), .lst ((ls.map linkD).map W.d)]) =
        .next [some (.o i), a1, some (.d (.lst (acts.map D.str))), some (.d (.int most)), o', some (.o sl), some (.o (sl + 1))] (S.set i c' ++ [.lst ((left'.map D.str).map W.d), .lst ((ls'.map linkD).map W.d)]) ∧ Bag (n + 2 * ws.length) c' ∧ LkInv ns acts most (m + ws.length) left' ls'
  | [], S, n, m, c, left, ls, o, hS, hc, hb, _, hI, _, _ => by
    refine ⟨c, left, ls, o, ?_, hb, hI⟩
    have same : S.set i c = S := by
      refine List.ext_getElem? fun j => ?_
      rw [List.getElem?_set]
      split
      · rename_i e
        subst e
        rw [if_pos (List.getElem?_eq_some_iff.mp hc).1, hc]
      · rfl
    rw [same]; rfl
  | w :: ws, S, n, m, c, left, ls, o, hS, hc, hb, hn, hI, hm, hsl => by
    rw [List.length_cons] at hn hm
    have hlp := hI.p.length_eq
    rw [List.length_append, List.length_map] at hlp
    have hll := hI.l
    obtain ⟨c1, left1, ls1, e1, b1, h1⟩ := turn_links ht hof (most := most) (a1 := a1) (o := some (.d w)) (ls := ls) hS hc hb (by omega) ha ha2 (left := left) (by omega) (by omega) (fun s hs => hok s (hI.p.subset (List.mem_append_right _ hs))) sl hsl
    have hI1 : LkInv ns acts most (m + 1) left1 ls1 := by
      rcases h1 with ⟨rfl, rfl⟩ | ⟨hlt, x, a, haa, rfl, hp⟩
      · exact ⟨hI.p, hI.a, by have := hI.l; omega, hI.b⟩
      · refine ⟨?_, fun q hq => ?_, by simp; exact hI.l, .inr (by simp; omega)⟩
        · rw [List.map_append, List.append_assoc]
          exact (List.Perm.append_left _ hp.symm).trans hI.p
        · rcases List.mem_append.mp hq with hq | hq
          · exact hI.a q hq
          · rw [List.mem_singleton] at hq
            subst hq
            exact haa
    obtain ⟨c2, left2, ls2, o2, e2, b2, hI2⟩ := loop_draw ht hof (a1 := a1) ha ha2 hok hns sl ws (S.set i c1) (n + 2) (m + 1) c1 left1 ls1 (some (.d w)) (wf_set hS b1.below) (at_set hc) b1 (by omega) hI1 (by omega) (by simpa using hsl)
    refine ⟨c2, left2, ls2, o2, ?_, b2.mono (by simp; omega), ⟨hI2.p, hI2.a, by have := hI2.l; simp; omega, hI2.b⟩⟩
    rw [List.map_cons, fl_c (h := rfl)]
    simp only [List.set_cons_zero, List.set_cons_succ]
    rw [e1, tn_n, e2, set2]
abbrev SpLk (F : List W → List (Str × W) → Store → R W) : Prop := ∀ (S : Store) (i n : Nat) (c : Cell) (ns acts : List Str) (most : Int), WF S → S[i]? = some c → Bag n c → n + 9 ≤ 1000000000 → acts ≠ [] → acts.length < 1000000 → (∀ s ∈ ns, PyData.strOk s = true) → ns.length < 100000 →
  ∃ (ls : List (Str × Str)) (left : List Str) (c' : Cell), F [.o i, .d (.lst (ns.map D.str)), .d (.lst (acts.map D.str)), .d (.int most)] [] S = .ok (.d (.lst (ls.map linkD))) (S.set i c') ∧ LkInv ns acts most 4 left ls ∧ Bag (n + 9) c'
theorem ints_eq (lo : Int) (n : Nat) : intsW lo n = ((List.range n).map fun (k : Nat) => D.int (lo + k)).map W.d := by
  unfold intsW
  rw [List.map_map]
  rfl
theorem sp_links {ow : Own} (ht : SpTake (ow.fn ("_law_take" : Str))) (hof : SpOf (ow.fn ("_law_of" : Str))) : SpLk (evF ow f__law_links) := by
  intro S i n c ns acts most hS hc hb hn ha ha2 hok hns
  have hi : i < S.length := (List.getElem?_eq_some_iff.mp hc).1
  unfold f__law_links
  walk_at "ev"
  rw [show boxTy "list" [.d (.lst (ns.map D.str))] S = .ok (.o S.length) (S ++ [.lst ((ns.map D.str).map W.d)]) from rfl]
  walk_at "ev"
  rw [show ∀ S : Store, boxOf [] S = .ok (.o S.length) (S ++ [.lst []]) from fun S => rfl]
  walk_at "ev"
  rw [show (S ++ [Cell.lst ((ns.map D.str).map W.d)]).length = S.length + 1 from by simp, List.append_assoc, List.cons_append, List.nil_append]
  rw [show ∀ a b c d e f g S, lstOf [.d a, .d b, .d c, .d d, .d e, .d f, .d g] S = .ok (.d (.lst [a, b, c, d, e, f, g])) S from fun _ _ _ _ _ _ _ _ => rfl]
  walk_at "ev"
  have wf1 : WF (S ++ [.lst ((ns.map D.str).map W.d), .lst []]) := wf_app2 hS (pure_below _ _) rfl
  obtain ⟨x, c1, e1, hx, b1⟩ := hof _ i n c [.int 0, .int 1, .int 1, .int 2, .int 2, .int 3, .int 4] wf1 (ati hc _) hb (by omega) (by simp) (by simp)
  rw [e1, seti hi]
  obtain ⟨k, rfl, hk⟩ : ∃ k : Nat, x = .int k ∧ k ≤ 4 := by
    simp only [List.mem_cons, List.not_mem_nil, or_false] at hx
    rcases hx with rfl | rfl | rfl | rfl | rfl | rfl | rfl
    · exact ⟨0, rfl, by omega⟩
    · exact ⟨1, rfl, by omega⟩
    · exact ⟨1, rfl, by omega⟩
    · exact ⟨2, rfl, by omega⟩
    · exact ⟨2, rfl, by omega⟩
    · exact ⟨3, rfl, by omega⟩
    · exact ⟨4, rfl, by omega⟩
  walk_at "ev"
  rw [if_pos (by omega)]
  walk_at "ev"
  rw [Int.toNat_natCast, ints_eq]
  have hI : LkInv ns acts most 0 ns [] := ⟨List.Perm.refl _, fun q h => (nomatch h), Nat.le_refl _, .inl rfl⟩
  obtain ⟨c2, left, ls, o2, e2, b2, hI2⟩ := loop_draw ht hof (a1 := some (.d (.lst (ns.map D.str)))) ha ha2 hok (by omega) S.length ((List.range k).map fun (k : Nat) => D.int (0 + k)) (S.set i c1) (n + 1) 0 c1 ns [] none (wf_set hS b1.below) (at_set hc) b1 (by simp; omega) hI (by simp; omega) (by simp)
  simp only [List.map_nil] at e2
  rw [e2, set2]
  walk_at "ev"
  have hlen : (S.set i c2).length = S.length := by simp
  refine ⟨ls, left, c2, ?_, ⟨hI2.p, hI2.a, by have := hI2.l; simp at this; omega, hI2.b⟩, b2.mono (by simp; omega)⟩
  refine (if_pos (by simp)).trans ?_
  unfold finW
  rw [← hlen, cut_app (wf_set hS b2.below)]
  rw [hlen]
  simp only [show ¬ S.length + 1 < S.length from by omega, if_false]
  rw [show (S.set i c2 ++ [Cell.lst ((left.map D.str).map W.d), .lst ((ls.map linkD).map W.d)])[S.length + 1]? = some (.lst ((ls.map linkD).map W.d)) from by rw [← hlen, at1]]
  simp only [cellD, pureL_d, Option.map_some, Bool.false_eq_true, if_false]
end Dr

namespace Dr
open PySem Mi Pr
local macro_rules | `(tactic| walk_at "ev") => `(tactic| simp only [evF, bndPlain, startI, eE_nm, eE_cst, eE_bin, eE_no, eE_neg, eE_cmp, eE_chain, eE_and, eE_or, eE_ife, eE_ix, eE_sl, eE_tup, eE_lst, eE_box, eE_comp, eE_call, eE_isi, eE_bi, eE_lens, eE_rpr, eE_ty, eE_bty, eE_mt, eE_lm, eE_fld, eT_no, eT_and, eT_or, eT_cmp, eT_chain, eT_tru, eT_yes, eA_nil, eA_cons, eO_non, eO_som, eI_rng, eI_it, eS_expr, eS_set, eS_asg, eS_par, eS_putix, eS_putf, eS_ret, eS_ret0, eS_pass, eS_brk, eS_cont, eS_ife, eS_loop, eS_whil, eS_raise, eS_tri, eSs_nil, eSs_cons, fBin, fNo, fCmp, fCh1, fCh2, ch_t, ch_f, fIx, fSl, fSl2, fCall, fCall2, fMt, fMt2, fCons, fCons2, fNot, fRng1, kNext, kSet, kAsg, kPar, kPut, kPut2, kPut3, kFld, kFld2, kRet, kFor, fComp, asEnv, tgW, asgIs, putAllM, b_ok, b_exc, b_bad, o_ok, o_exc, s_next, s_ret, s_exc, s_brk, s_cont, ab_ok, tr_bl, g_0, g_s, if_t, if_f, anE_t, anE_f, orE_t, orE_f, an_t, an_f, or_t, or_f, ng_i, rg_i, ne_s, ns_s, tri_x, tri_r, tri_n, it_l, it_t, it_s, po_i, fl_n, add_i, sub_i, cw_lt, cw_le, lt_i, le_i, gt_i, ge_i, eq_i, ne_i, eq_s, ne_s', is_n, isnt_n, len_l, len_t, tn_n, tn_c, tn_b, tn_r, tn_x, List.isEmpty_nil, Bool.true_and, List.length_cons, List.length_nil, decide_true, decide_false, if_true, if_false, List.map_cons, List.map_nil, List.cons_append, List.nil_append, Nat.zero_add, Nat.reduceAdd, Nat.reduceSub, List.replicate_zero, List.replicate_succ, List.set_cons_zero, List.set_cons_succ, List.zip_nil_left, List.zip_nil_right, Bool.not_true, Bool.not_false, Bool.false_eq_true, reduceIte])
theorem add_l {xs ys : List D} (h : xs.length + ys.length ≤ 100000) (S : Store) : binW .Add (.d (.lst xs)) (.d (.lst ys)) S = .ok (.d (.lst (xs ++ ys))) S := by
  show (match pureL (xs.map W.d ++ ys.map W.d) with | some ds => if ds.length ≤ 100000 then R.ok (W.d (.lst ds)) S else R.bad | none => R.bad) = _
  rw [← List.map_append, pureL_d]
  exact if_pos (by simpa using h)
def drawActs (b d : Bool) : List Str := ([("cascade" : Str), ("cascade" : Str), ("restrict" : Str), ("no_action" : Str)] ++ (if b then [("set_null" : Str), ("set_null" : Str)] else [])) ++ (if b || d then [("set_default" : Str)] else [])
theorem draw_sub (b d : Bool) : ∀ a ∈ drawActs b d, a ∈ colActs b d := by
  cases b <;> cases d <;> decide +kernel
theorem draw_ok (b d : Bool) : drawActs b d ≠ [] ∧ (drawActs b d).length < 1000000 := by
  cases b <;> cases d <;> decide +kernel
abbrev SpCol (F : List W → List (Str × W) → Store → R W) : Prop := ∀ (S : Store) (i n : Nat) (c : Cell) (title : D) (ns : List Str) (room : Int), WF S → S[i]? = some c → Bag n c → n + 11 ≤ 1000000000 → (∀ s ∈ ns, PyData.strOk s = true) → ns.length < 100000 →
  ∃ (b : Bool) (p : D) (ls : List (Str × Str)) (left : List Str) (c' : Cell), F [.o i, .d title, .d (.lst (ns.map D.str)), .d (.int room)] [] S = .ok (.d (.tup [title, .lst (ls.map linkD), .bl b, p])) (S.set i c') ∧ (p = .non ∨ p = .int 0 ∨ p = .int 1) ∧ LkInv ns (drawActs b (hasD p)) room 4 left ls ∧ Bag (n + 11) c'
theorem sp_column {ow : Own} (ht : SpTake (ow.fn ("_law_take" : Str))) (hof : SpOf (ow.fn ("_law_of" : Str))) (hlk : SpLk (ow.fn ("_law_links" : Str))) : SpCol (evF ow f__law_column) := by
  intro S i n c title ns room hS hc hb hn hok hns
  have l4 : ∀ (a b c d : D) (S : Store), lstOf [.d a, .d b, .d c, .d d] S = .ok (.d (.lst [a, b, c, d])) S := fun _ _ _ _ _ => rfl
  have l2 : ∀ (a b : D) (S : Store), lstOf [.d a, .d b] S = .ok (.d (.lst [a, b])) S := fun _ _ _ => rfl
  have l1 : ∀ (a : D) (S : Store), lstOf [.d a] S = .ok (.d (.lst [a])) S := fun _ _ => rfl
  have t4 : ∀ (a b c d : D) (S : Store), tupOf [.d a, .d b, .d c, .d d] S = .ok (.d (.tup [a, b, c, d])) S := fun _ _ _ _ _ => rfl
  unfold f__law_column
  walk_at "ev"
  obtain ⟨r, c1, e1, r0, r1, b1⟩ := ht S i n c 3 hS hc hb (by omega) (by decide) (by decide)
  rw [e1]
  walk_at "ev"
  rw [l4]
  walk_at "ev"
  have hS1 := wf_set (i := i) hS (b1.below (m := S.length))
  obtain ⟨p, c2, e2, hp, b2⟩ := hof (S.set i c1) i (n + 1) c1 [.non, .non, .int 0, .int 1] hS1 (at_set hc) b1 (by omega) (by simp) (by simp)
  rw [e2, set2]
  have hS2 := wf_set (i := i) hS (b2.below (m := S.length))
  have hp : p = .non ∨ p = .int 0 ∨ p = .int 1 := by
    simp only [List.mem_cons, List.not_mem_nil, or_false] at hp
    rcases hp with h | h | h | h <;> simp [h]
  have nonp : isNonB (.d p) = !hasD p := by rcases hp with rfl | rfl | rfl <;> rfl
  generalize decide (0 < r) = b
  walk_at "ev"
  rw [l4]
  walk_at "ev"
  have fin : ∀ acts : List Str, acts = drawActs b (hasD p) → ∀ e : Store → RS, (∀ S, e S = evSs ow (.cons (.ret (.tup (.cons (.nm 1) (.cons (.call ("_law_links" : Str) (.cons (.nm 0) (.cons (.nm 2) (.cons (.nm 4) (.cons (.nm 3) .nil)))) [] .nil) (.cons (.nm 5) (.cons (.nm 6) .nil)))))) .nil) [some (.o i), some (.d title), some (.d (.lst (ns.map D.str))), some (.d (.int room)), some (.d (.lst (acts.map D.str))), some (.d (.bl b)), some (.d p)] S) →
      ∃ (b : Bool) (p : D) (ls : List (Str × Str)) (left : List Str) (c' : Cell), finM false S.length (e (S.set i c2)) = .ok (.d (.tup [title, .lst (ls.map linkD), .bl b, p])) (S.set i c') ∧ (p = .non ∨ p = .int 0 ∨ p = .int 1) ∧ LkInv ns (drawActs b (hasD p)) room 4 left ls ∧ Bag (n + 11) c' := by
    rintro _ rfl e he
    rw [he]
    walk_at "ev"
    obtain ⟨ls, left, c3, e3, hI, b3⟩ := hlk (S.set i c2) i (n + 2) c2 ns (drawActs b (hasD p)) room hS2 (at_set hc) b2 (by omega) (draw_ok b _).1 (draw_ok b _).2 hok hns
    rw [e3, set2]
    walk_at "ev"
    rw [t4]
    walk_at "ev"
    exact ⟨b, p, ls, left, c3, fin_dL (by simp) (wf_set hS b3.below) false _, hp, hI, b3⟩
  have add2 : ∀ (xs ys : List Str) (S : Store), xs.length + ys.length ≤ 100000 → binW .Add (.d (.lst (xs.map D.str))) (.d (.lst (ys.map D.str))) S = .ok (.d (.lst ((xs ++ ys).map D.str))) S := fun xs ys S h => by
    rw [add_l (by simpa using h), List.map_append]
  have n4 : [D.str ("cascade" : Str), D.str ("cascade" : Str), D.str ("restrict" : Str), D.str ("no_action" : Str)] = ([("cascade" : Str), ("cascade" : Str), ("restrict" : Str), ("no_action" : Str)] : List Str).map D.str := rfl
  have n2 : [D.str ("set_null" : Str), D.str ("set_null" : Str)] = ([("set_null" : Str), ("set_null" : Str)] : List Str).map D.str := rfl
  have n1 : [D.str ("set_default" : Str)] = ([("set_default" : Str)] : List Str).map D.str := rfl
  cases b with
  | true =>
    walk_at "ev"
    rw [l2]
    walk_at "ev"
    rw [n4, n2, add2 _ _ _ (by decide)]
    walk_at "ev"
    rw [l1]
    walk_at "ev"
    rw [n1]
    rw [add_l (by decide)]
    walk_at "ev"
    exact fin _ rfl (evSs ow _ _) fun S => rfl
  | false =>
    walk_at "ev"
    rw [nonp]
    cases hd : hasD p with
    | true =>
      walk_at "ev"
      rw [l1]
      walk_at "ev"
      rw [n4, n1, add2 _ _ _ (by decide)]
      walk_at "ev"
      exact fin _ (by rw [hd]) (evSs ow _ _) fun S => rfl
    | false =>
      walk_at "ev"
      exact fin _ (by rw [hd]) (evSs ow _ _) fun S => rfl
end Dr

namespace Pr
open PySem Mi Dr
local macro_rules | `(tactic| walk_at "ev2") => `(tactic| simp only [List.zip_cons_cons, wipeM, eA_star, fStar, fApp, List.append_nil, l_i0, l_i1, l_i2, l_i3, t_i0, t_i1, t_i2, t_i3, od_ok, evF, bndPlain, startI, eE_nm, eE_cst, eE_bin, eE_no, eE_neg, eE_cmp, eE_chain, eE_and, eE_or, eE_ife, eE_ix, eE_sl, eE_tup, eE_lst, eE_box, eE_comp, eE_call, eE_isi, eE_bi, eE_lens, eE_rpr, eE_ty, eE_bty, eE_mt, eE_lm, eE_fld, eT_no, eT_and, eT_or, eT_cmp, eT_chain, eT_tru, eT_yes, eA_nil, eA_cons, eO_non, eO_som, eI_rng, eI_it, eS_expr, eS_set, eS_asg, eS_par, eS_putix, eS_putf, eS_ret, eS_ret0, eS_pass, eS_brk, eS_cont, eS_ife, eS_loop, eS_whil, eS_raise, eS_tri, eSs_nil, eSs_cons, fBin, fNo, fCmp, fCh1, fCh2, ch_t, ch_f, fIx, fSl, fSl2, fCall, fCall2, fMt, fMt2, fCons, fCons2, fNot, fRng1, kNext, kSet, kAsg, kPar, kPut, kPut2, kPut3, kFld, kFld2, kRet, kFor, fComp, asEnv, tgW, asgIs, putAllM, b_ok, b_exc, b_bad, o_ok, o_exc, s_next, s_ret, s_exc, s_brk, s_cont, ab_ok, tr_bl, g_0, g_s, if_t, if_f, anE_t, anE_f, orE_t, orE_f, an_t, an_f, or_t, or_f, ng_i, rg_i, ne_s, ns_s, tri_x, tri_r, tri_n, it_l, it_t, it_s, po_i, fl_n, add_i, sub_i, cw_lt, cw_le, lt_i, le_i, gt_i, ge_i, eq_i, ne_i, eq_s, ne_s', is_n, isnt_n, len_l, len_t, tn_n, tn_c, tn_b, tn_r, tn_x, l_0, t_0, l_1, t_1, l_2, t_2, l_3, t_3, l_4, t_4, l_5, t_5, l_6, t_6, l_7, t_7, l_8, t_8, l_9, l_10, l_11, l_12, l_13, l_14, l_15, l_16, l_17, l_18, l_19, bx_0, sl_l, sl_t, List.isEmpty_nil, Bool.true_and, List.length_cons, List.length_nil, decide_true, decide_false, eq_self, Int.reduceEq, Int.reduceAdd, Int.reduceSub, Int.reduceLT, Int.reduceLE, if_true, if_false, List.map_cons, List.map_nil, List.cons_append, List.nil_append, Nat.zero_add, Nat.reduceAdd, Nat.reduceSub, List.replicate_zero, List.replicate_succ, List.set_cons_zero, List.set_cons_succ, List.zip_nil_left, List.zip_nil_right, Bool.not_true, Bool.not_false, Bool.false_eq_true, reduceIte])
/-! tables -/
def bndTab : BndM := bndG [("self" : Str), ("name" : Str)] true [(("ids" : Str), .tup [])]
def f_Table___init__ : FI := ⟨bndTab, false, 8, (.cons (.ife (.no (.tru (.call ("is_name" : Str) (.cons (.nm 1) .nil) [] .nil))) (.cons (.raise ("BadName" : Str) [("value" : Str)] (.cons (.nm 1) .nil)) .nil) .nil) (.cons (.expr (.call ("check_links" : Str) (.cons (.nm 2) (.cons (.cst (.tup [.str ("cascade" : Str), .str ("restrict" : Str), .str ("no_action" : Str)])) .nil)) [] .nil)) (.cons (.set 4 (.comp false (.tup [5, 6]) [5, 6] (.it (.nm 2)) .yes (.nm 5))) (.cons (.ife (.or (.tru (.call ("has_twins" : Str) (.cons (.lst (.cons (.nm 1) (.star (.nm 4) .nil))) .nil) [] .nil)) (.or (.cmp true .Gt (.bi true "len" (.cons (.nm 2) .nil)) (.cst (.int 4))) (.cmp true .Gt (.bi true "len" (.cons (.nm 3) .nil)) (.cst (.int 3))))) (.cons (.raise ("BadTable" : Str) [("name" : Str)] (.cons (.nm 1) .nil)) .nil) .nil) (.cons (.ife (.tru (.call ("has_twins" : Str) (.cons (.comp false (.nm 7) [7] (.it (.nm 3)) .yes (.fld (.nm 7) ("name" : Str))) .nil) [] .nil)) (.cons (.raise ("BadTable" : Str) [("name" : Str)] (.cons (.nm 1) .nil)) .nil) .nil) (.cons (.putf (.nm 1) (.nm 0) ("name" : Str)) (.cons (.putf (.nm 3) (.nm 0) ("parts" : Str)) (.cons (.putf (.nm 2) (.nm 0) ("links" : Str)) .nil))))))))⟩
def f_Table___eq__ : FI := ⟨bndPlain 2, false, 2, (.cons (.ife (.no (.tru (.isi [(.c ("Table" : Str))] (.nm 1)))) (.cons (.ret (.cst (.bl false))) .nil) .nil) (.cons (.ret (.cmp true .Eq (.tup (.cons (.fld (.nm 0) ("name" : Str)) (.cons (.fld (.nm 0) ("parts" : Str)) (.cons (.fld (.nm 0) ("links" : Str)) .nil)))) (.tup (.cons (.fld (.nm 1) ("name" : Str)) (.cons (.fld (.nm 1) ("parts" : Str)) (.cons (.fld (.nm 1) ("links" : Str)) .nil)))))) .nil))⟩
abbrev nTab : Str := "Table"
structure TabT (ow : Own) : Prop where
  f1 : ow.flds.contains (nTab, ("name" : Str)) = true
  f2 : ow.flds.contains (nTab, ("parts" : Str)) = true
  f3 : ow.flds.contains (nTab, ("links" : Str)) = true
  m2 : ow.mts.contains (nTab, ("__eq__" : Str)) = true
  is : nTab ∈ ow.ins
def tabF (nm ps lk : D) : List (Str × D) := [(("name" : Str), nm), (("parts" : Str), ps), (("links" : Str), lk)]
def tabD (nm ps lk : D) : D := .ins nTab (tabF nm ps lk)
def tabW (nm ps lk : D) : List (Str × W) := (tabF nm ps lk).map fun p => (p.1, W.d p.2)
theorem tab_look (nm ps lk : D) : (tabW nm ps lk).lookup ("name" : Str) = some (.d nm) ∧ (tabW nm ps lk).lookup ("parts" : Str) = some (.d ps) ∧ (tabW nm ps lk).lookup ("links" : Str) = some (.d lk) ∧ (tabW nm ps lk).lookup ("__eq__" : Str) = none := by
  refine ⟨rfl, ?_, ?_, ?_⟩ <;> kernel_rfl
theorem tabPuts (nm ps lk : D) : putF' ("links" : Str) (.d lk) (putF' ("parts" : Str) (.d ps) (putF' ("name" : Str) (.d nm) [])) = tabW nm ps lk := by
  rw [show putF' ("name" : Str) (.d nm) [] = [(("name" : Str), W.d nm)] from rfl]
  rw [putF_ne (by decide +kernel), show putF' ("parts" : Str) (.d ps) [] = [(("parts" : Str), W.d ps)] from rfl]
  rw [putF_ne (k := ("name" : Str)) (f := ("links" : Str)) (by decide +kernel), putF_ne (k := ("parts" : Str)) (f := ("links" : Str)) (by decide +kernel)]
  rfl
def cname : D → Str
  | .ins _ ((_, .str s) :: _) => s
  | _ => ("" : Str)
def ColN (x : D) : Prop := ∃ s lk nul df, x = colD (.str s) lk nul df
def strOf : D → Str
  | .str s => s
  | _ => ("" : Str)
/-- what speaks against a table -/
def tabX (nm : D) (cols ids : List D) : Option (Str × List (Str × D)) :=
  if !isName nm then some (("BadName" : Str), [(("value" : Str), nm)])
  else match badLink acts3 ids with
    | some x => some (("BadAction" : Str), [(("value" : Str), x)])
    | none => if twins (strOf nm :: ids.map aim) || (decide (4 < ids.length) || (decide (3 < cols.length) || twins (cols.map cname))) then some (("BadTable" : Str), [(("name" : Str), nm)]) else none
theorem names_of {ow : Own} (TC : ColT ow) {x : D} (h : ColN x) (S : Store) : fldX ow ("name" : Str) (.d x) S = .ok (.d (.str (cname x))) S := by
  obtain ⟨s, lk, nul, df, rfl⟩ := h
  exact fld_of (show fieldsOf S (.d (colD (.str s) lk nul df)) = some (nCol, colW (.str s) lk nul df) from rfl) TC.f1 (col_look _ _ _ _).1
theorem seq_l (S : Store) (ds : List D) : seqW S (.d (.lst ds)) = some (ds.map W.d) := rfl
theorem lst_of {ds : List D} (h : ds.length ≤ 100000) (S : Store) : lstOf (ds.map W.d) S = .ok (.d (.lst ds)) S := by
  unfold lstOf
  rw [pureL_d]
  simp only [h, if_true]
theorem sp_tab_init {ow : Own} (T : TabT ow) (TC : ColT ow) (hn : SpIsName ow) (ht : SpTwins ow) (hl : SpLinks ow) {as : List W} {kws : List (Str × W)} {nm : D} {cols ids : List D} {S : Store} (hS : WF S)
    (bnd : bndTab as kws = some [.o S.length, .d nm, .d (.tup ids), .d (.tup cols)]) (k1 : Fit ow nm) (k4 : ∀ x ∈ ids, FitL ow x) (k5 : ids.length ≤ 1000) (kc : ∀ x ∈ cols, ColN x) (k6 : cols.length ≤ 1000) :
    InitR nTab S (tabF nm (.tup cols) (.tup ids)) (tabX nm cols ids) (evF ow f_Table___init__ as kws (S ++ [.ins nTab []])) := by
  unfold f_Table___init__
  have hS0 : WF (S ++ [.ins nTab []]) := wf_ins hS nTab []
  simp only [evF, bnd]
  walk_at "ev2"
  rw [hn nm _ hS0 k1]
  unfold tabX
  cases hnm : isName nm with
  | false =>
    walk_at "ev2"
    rw [show excM ("BadName" : Str) [("value" : Str)] [.d nm] (S ++ [.ins nTab []]) = .exc ("BadName" : Str) [(("value" : Str), nm)] (S ++ [.ins nTab []]) from rfl]
    walk_at "ev2"
    rw [fin_x hS0]
    exact ⟨_, rfl⟩
  | true =>
    obtain ⟨s, rfl⟩ : ∃ s, nm = .str s := by cases nm <;> first | exact ⟨_, rfl⟩ | cases hnm
    walk_at "ev2"
    rw [show D.tup [.str ("cascade" : Str), .str ("restrict" : Str), .str ("no_action" : Str)] = .tup (acts3.map D.str) from rfl]
    rw [hl (.tup ids) (.tup (acts3.map D.str)) ids acts3 _ hS0 (.inr rfl) .t k4]
    unfold linksR
    cases hbd : badLink acts3 ids with
    | some x =>
      walk_at "ev2"
      rw [fin_x hS0]
      exact ⟨_, rfl⟩
    | none =>
      have good := good_links hbd
      walk_at "ev2"
      rw [comp_map fst2 hS0 (by omega) (fun x hx => by
        obtain ⟨t, a, rfl, _, _⟩ := link_form (good x hx)
        exact ⟨_, fun _ => rfl, fun ac => ⟨rfl, rfl⟩⟩)]
      walk_at "ev2"
      rw [aims_eq good, seq_l]
      walk_at "ev2"
      have raise : ∀ e, InitR nTab S (tabF (.str s) (.tup cols) (.tup ids)) (some (("BadTable" : Str), [(("name" : Str), .str s)])) (finM false (S ++ [Cell.ins nTab []]).length (.exc ("BadTable" : Str) [(("name" : Str), .str s)] e (S ++ [Cell.ins nTab []]))) := fun e => ⟨[], by rw [fin_x hS0]⟩
      have exc1 : excM ("BadTable" : Str) [("name" : Str)] [.d (.str s)] (S ++ [.ins nTab []]) = .exc ("BadTable" : Str) [(("name" : Str), .str s)] (S ++ [.ins nTab []]) := rfl
      rw [show (W.d (D.str s) :: List.map W.d (List.map D.str (List.map aim ids))) = ((s :: ids.map aim).map D.str).map W.d from rfl]
      rw [lst_of (by simp; omega)]
      walk_at "ev2"
      rw [show D.str s :: List.map D.str (List.map aim ids) = (s :: ids.map aim).map D.str from rfl, ht _ _ hS0 (by simp; omega)]
      rw [show strOf (.str s) = s from rfl]
      cases htw : twins (s :: ids.map aim) with
      | true =>
        walk_at "ev2"
        rw [exc1]
        walk_at "ev2"
        exact raise _
      | false =>
        walk_at "ev2"
        rw [show decide ((4 : Int) < ids.length) = decide (4 < ids.length) from decide_eq_decide.mpr (by omega)]
        cases h4 : decide (4 < ids.length) with
        | true =>
          walk_at "ev2"
          rw [exc1]
          walk_at "ev2"
          exact raise _
        | false =>
          walk_at "ev2"
          rw [show decide ((3 : Int) < cols.length) = decide (3 < cols.length) from decide_eq_decide.mpr (by omega)]
          cases h3 : decide (3 < cols.length) with
          | true =>
            walk_at "ev2"
            rw [exc1]
            walk_at "ev2"
            exact raise _
          | false =>
            walk_at "ev2"
            rw [comp_map (fun x => .str (cname x)) hS0 (by omega) (fun x hx => ⟨_, fun _ => rfl, fun ac => ⟨rfl, by walk_at "ev2"; rw [names_of TC (kc x hx)]⟩⟩)]
            walk_at "ev2"
            rw [show (List.map (fun x => D.str (cname x)) cols) = (cols.map cname).map D.str from by rw [List.map_map]; rfl]
            rw [ht _ _ hS0 (by simp; omega)]
            cases htc : twins (cols.map cname) with
            | true =>
              walk_at "ev2"
              rw [exc1]
              walk_at "ev2"
              exact raise _
            | false =>
              walk_at "ev2"
              have hput : ∀ (f : Str) (w : W) (gs : List (Str × W)), ow.flds.contains (nTab, f) = true → gs.length < 1000 → putFld ow f (.o S.length) w (S ++ [.ins nTab gs]) = some (S ++ [.ins nTab (putF' f w gs)]) := fun f w gs h1 h2 => putFld_new h1 h2
              have l1 := putF_len ("name" : Str) (.d (.str s)) []
              have l2 := putF_len ("parts" : Str) (.d (.tup cols)) (putF' ("name" : Str) (.d (.str s)) [])
              simp only [List.length_nil] at l1
              rw [hput _ _ _ T.f1 (by decide)]
              walk_at "ev2"
              rw [hput _ _ _ T.f2 (by omega)]
              walk_at "ev2"
              rw [hput _ _ _ T.f3 (by omega), tabPuts]
              walk_at "ev2"
              have hS1 : WF (S ++ [.ins nTab (tabW (.str s) (.tup cols) (.tup ids))]) := wf_ins hS nTab (tabF (.str s) (.tup cols) (.tup ids))
              rw [fin_nL (by simp) hS1]
              rfl
/-- == by an own __eq__ -/
theorem cmp_own {ow : Own} {cn : Str} {x y : D} {S : Store} {k : Kd} {r : Bool} (m : mtOwn ow ("__eq__" : Str) (.d x) S = some cn) (hy : tyW ow S (.d y) = some k) (hn : ow.nf cn k = true) (hi : cn ∈ ow.ins) (h : ow.mt cn ("__eq__" : Str) [.d x, .d y] [] S = .ok (.d (.bl r)) S) :
    cmpX ow true .Eq (.d x) (.d y) S = .ok (.d (.bl r)) S ∧ cmpX ow true .NotEq (.d x) (.d y) S = .ok (.d (.bl !r)) S := by
  constructor
  · show orDeep ow true false (.d x) (.d y) S (match mtOwn ow ("__eq__" : Str) (.d x) S with
      | some cn => (match true, tyW ow S (.d y) with
        | true, some k => if ow.nf cn k then eqR false (ow.mt cn "__eq__" [.d x, .d y] [] S) else .bad
        | _, _ => .bad)
      | none => cmpW .Eq (.d x) (.d y) S) = _
    rw [m, hy]
    simp only [hn, if_true]
    rw [h]
    rfl
  · show orDeep ow true true (.d x) (.d y) S (match mtOwn ow ("__eq__" : Str) (.d x) S with
      | some cn => (match true, tyW ow S (.d y) with
        | true, some k => if ow.nf cn k && ow.ins.contains cn then eqR true (ow.mt cn "__eq__" [.d x, .d y] [] S) else .bad
        | _, _ => .bad)
      | none => cmpW .NotEq (.d x) (.d y) S) = _
    rw [m, hy]
    simp only [hn, List.contains_iff_mem.mpr hi, Bool.and_self, if_true]
    rw [h]
    rfl
theorem tab_mtOwn {ow : Own} (T : TabT ow) (a b c : D) (S : Store) : mtOwn ow ("__eq__" : Str) (.d (tabD a b c)) S = some nTab := by
  unfold mtOwn
  rw [show fieldsOf S (.d (tabD a b c)) = some (nTab, tabW a b c) from rfl]
  simp only [T.m2, (tab_look a b c).2.2.2]
  rfl
theorem col_mtOwn {ow : Own} (T : ColT ow) (a b c d : D) (S : Store) : mtOwn ow ("__eq__" : Str) (.d (colD a b c d)) S = some nCol := by
  unfold mtOwn
  rw [show fieldsOf S (.d (colD a b c d)) = some (nCol, colW a b c d) from rfl]
  simp only [T.m2, (col_look a b c d).2.2.2.2.2]
  rfl
/-- the own == of what has a class and fields -/
theorem eqI_of {ow : Own} {cn : Str} {x y : D} {k : Kd} {r : Bool} (m : mtOwn ow ("__eq__" : Str) (.d x) [] = some cn) (hy : tyW ow [] (.d y) = some k) (hn : ow.nf cn k = true) (h : ow.mt cn ("__eq__" : Str) [.d x, .d y] [] [] = .ok (.d (.bl r)) []) : eqI ow x y = some r := by
  unfold eqI
  rw [m, hy]
  simp only [hn, if_true]
  rw [h]
/-- columns that are equal exactly if they are the same -/
def ColV (x : D) : Prop := ∃ (s : Str) (ls : List (Str × Str)) (b : Bool) (df : D), x = colD (.str s) (.tup (ls.map linkD)) (.bl b) df ∧ (df = .non ∨ ∃ i, df = .int i)
theorem ColV.n {x : D} (h : ColV x) : ColN x := by
  obtain ⟨s, ls, b, df, rfl, _⟩ := h
  exact ⟨_, _, _, _, rfl⟩
def DfV (x : D) : Prop := x = .non ∨ ∃ i, x = .int i
theorem EqT.df {ow : Own} {n : Nat} {x y : D} (hx : DfV x) (hy : DfV y) : EqT ow n x y := by
  have nb : ∀ {d : D}, DfV d → d.nb = true ∧ Ok 0 d := fun {d} h => by
    rcases h with rfl | ⟨i, rfl⟩
    · exact ⟨rfl, Ok.non⟩
    · exact ⟨rfl, Ok.int⟩
  have e : eqN ow n x y = eqD x y := by rcases hx with rfl | ⟨i, rfl⟩ <;> cases n <;> rfl
  refine ⟨⟨_, e.trans (eqD_ok (nb hx).2 (nb hy).2), eqv_nb (nb hx).1 (nb hy).1⟩, fun z => ?_, fun _ _ => eqv_nb (nb hx).1 (nb hy).1⟩
  rcases hx with rfl | ⟨i, rfl⟩ <;> rcases hy with rfl | ⟨j, rfl⟩ <;> simp_all [sim]
theorem EqT.links {ow : Own} {n : Nat} (ls ls' : List (Str × Str)) : EqT ow (n + 2) (.tup (ls.map linkD)) (.tup (ls'.map linkD)) := EqT.tup (EqTs.all fun x hx y hy => by
  obtain ⟨p, _, rfl⟩ := List.mem_map.mp hx
  obtain ⟨q, _, rfl⟩ := List.mem_map.mp hy
  exact EqT.tup (.cons EqT.str (.cons EqT.str (.nl _))))
theorem col_Ts {ow : Own} {s s' : Str} {ls ls' : List (Str × Str)} {b b' : Bool} {df df' : D} (h : DfV df) (h' : DfV df') : EqTs ow 6 [.str s, .tup (ls.map linkD), .bl b, df] [.str s', .tup (ls'.map linkD), .bl b', df'] :=
  .cons EqT.str (.cons (EqT.links ls ls') (.cons EqT.bl (.cons (EqT.df h h') (.nl _))))
/-- == of columns -/
abbrev SpColEq2 (ow : Own) : Prop := ∀ (x y : D) (S : Store), WF S → ColV x → Kn ow y → (ColV y ∨ isC nCol y = false) → ∃ b, ow.mt nCol ("__eq__" : Str) [.d x, .d y] [] S = .ok (.d (.bl b)) S ∧ (b = true ↔ x = y)
theorem sp_col_eq2 {ow : Own} (T : ColT ow) (hc : isaC ow nCol = true) {x y : D} {S : Store} (hS : WF S) (hx : ColV x) (ky : Kn ow y) (hy : ColV y ∨ isC nCol y = false) :
    ∃ b, evF ow f_Column___eq__ [.d x, .d y] [] S = .ok (.d (.bl b)) S ∧ (b = true ↔ x = y) := by
  obtain ⟨s, ls, b, df, rfl, hd⟩ := hx
  unfold f_Column___eq__
  walk_at "ev2"
  rw [isi_c hc S ky]
  cases hC : isC nCol y with
  | false =>
    walk_at "ev2"
    refine ⟨false, fin_d hS false _, ⟨fun z => (nomatch z), fun e => ?_⟩⟩
    subst e
    cases (show isC nCol (colD (.str s) (.tup (ls.map linkD)) (.bl b) df) = true from rfl).symm.trans hC
  | true =>
    obtain ⟨s', ls', b', df', rfl, hd'⟩ : ColV y := by
      rcases hy with hy | hy
      · exact hy
      · cases hC.symm.trans hy
    have c := col_look (.str s) (.tup (ls.map linkD)) (.bl b) df
    have c' := col_look (.str s') (.tup (ls'.map linkD)) (.bl b') df'
    have F : ∀ a b c d : D, fieldsOf S (.d (colD a b c d)) = some (nCol, colW a b c d) := fun _ _ _ _ => rfl
    walk_at "ev2"
    rw [fld_of (F _ _ _ _) T.f1 c.1]
    walk_at "ev2"
    rw [fld_of (F _ _ _ _) T.f2 c.2.1]
    walk_at "ev2"
    rw [fld_of (F _ _ _ _) T.f3 c.2.2.1]
    walk_at "ev2"
    rw [fld_of (F _ _ _ _) T.f4 c.2.2.2.1]
    walk_at "ev2"
    rw [fld_of (F _ _ _ _) T.f1 c'.1]
    walk_at "ev2"
    rw [fld_of (F _ _ _ _) T.f2 c'.2.1]
    walk_at "ev2"
    rw [fld_of (F _ _ _ _) T.f3 c'.2.2.1]
    walk_at "ev2"
    rw [fld_of (F _ _ _ _) T.f4 c'.2.2.2.1]
    walk_at "ev2"
    obtain ⟨r, h1, _, h2⟩ := cmp_T (ow := ow) (col_Ts (s := s) (s' := s') (ls := ls) (ls' := ls') (b := b) (b' := b') hd hd') S
    rw [h1]
    walk_at "ev2"
    refine ⟨r, fin_d hS false _, ?_⟩
    rw [h2]
    simp only [colD, colF, D.ins.injEq, List.cons.injEq, Prod.mk.injEq, true_and, and_true]
theorem col_T {ow : Own} (T : ColT ow) (hn : ow.nf nCol (.c nCol) = true) (h : SpColEq2 ow) {n : Nat} {x y : D} (hx : ColV x) (hy : ColV y) : EqT ow (n + 1) x y := by
  have ky : Kn ow y := fun c fs e => by
    obtain ⟨_, _, _, _, rfl, _⟩ := hy
    cases e
    exact T.is
  obtain ⟨r, h1, h2⟩ := h x y [] wf_nil hx ky (.inl hy)
  obtain ⟨s, ls, b, df, rfl, hd⟩ := hx
  obtain ⟨s', ls', b', df', rfl, hd'⟩ := hy
  refine EqT.ins (r := r) (eqI_of (col_mtOwn T _ _ _ _ _) (ty_ins T.is) hn h1) h2 fun z => ?_
  have z : simF (colF (.str s) (.tup (ls.map linkD)) (.bl b) df) (colF (.str s') (.tup (ls'.map linkD)) (.bl b') df') = true := by
    unfold colD at z
    simpa only [sim] using z
  simp only [colF, simF, Bool.and_eq_true, decide_eq_true_eq] at z
  obtain ⟨⟨_, z1⟩, ⟨_, z2⟩, ⟨_, z3⟩, ⟨_, z4⟩, _⟩ := z
  have e1 := (EqT.str (ow := ow) (n := 0) (a := s) (b := s')).s z1
  have e2 := (EqT.links (ow := ow) (n := 0) ls ls').s z2
  have e3 := (EqT.bl (ow := ow) (n := 0) (a := b) (b := b')).s z3
  have e4 := (EqT.df (ow := ow) (n := 0) hd hd').s z4
  rw [e1, e2, e3, e4]
  rfl
/-- tables that are equal exactly if they are the same -/
def TabV (x : D) : Prop := ∃ (s : Str) (cols : List D) (ls : List (Str × Str)), x = tabD (.str s) (.tup cols) (.tup (ls.map linkD)) ∧ ∀ c ∈ cols, ColV c
abbrev SpTabEq (ow : Own) : Prop := ∀ (x y : D) (S : Store), WF S → TabV x → Kn ow y → (TabV y ∨ isC nTab y = false) → ∃ b, ow.mt nTab ("__eq__" : Str) [.d x, .d y] [] S = .ok (.d (.bl b)) S ∧ (b = true ↔ x = y)
theorem sp_tab_eq {ow : Own} (T : TabT ow) (TC : ColT ow) (hc : isaC ow nTab = true) (hn : ow.nf nCol (.c nCol) = true) (hq : SpColEq2 ow) {x y : D} {S : Store} (hS : WF S) (hx : TabV x) (ky : Kn ow y) (hy : TabV y ∨ isC nTab y = false) :
    ∃ b, evF ow f_Table___eq__ [.d x, .d y] [] S = .ok (.d (.bl b)) S ∧ (b = true ↔ x = y) := by
  obtain ⟨s, cs, ls, rfl, hd⟩ := hx
  unfold f_Table___eq__
  walk_at "ev2"
  rw [isi_c hc S ky]
  cases hC : isC nTab y with
  | false =>
    walk_at "ev2"
    refine ⟨false, fin_d hS false _, ⟨fun z => (nomatch z), fun e => ?_⟩⟩
    subst e
    cases (show isC nTab (tabD (.str s) (.tup cs) (.tup (ls.map linkD))) = true from rfl).symm.trans hC
  | true =>
    obtain ⟨s', cs', ls', rfl, hd'⟩ : TabV y := by
      rcases hy with hy | hy
      · exact hy
      · cases hC.symm.trans hy
    have c := tab_look (.str s) (.tup cs) (.tup (ls.map linkD))
    have c' := tab_look (.str s') (.tup cs') (.tup (ls'.map linkD))
    have F : ∀ a b c : D, fieldsOf S (.d (tabD a b c)) = some (nTab, tabW a b c) := fun _ _ _ => rfl
    walk_at "ev2"
    rw [fld_of (F _ _ _) T.f1 c.1]
    walk_at "ev2"
    rw [fld_of (F _ _ _) T.f2 c.2.1]
    walk_at "ev2"
    rw [fld_of (F _ _ _) T.f3 c.2.2.1]
    walk_at "ev2"
    rw [fld_of (F _ _ _) T.f1 c'.1]
    walk_at "ev2"
    rw [fld_of (F _ _ _) T.f2 c'.2.1]
    walk_at "ev2"
    rw [fld_of (F _ _ _) T.f3 c'.2.2.1]
    walk_at "ev2"
    have ts : EqTs ow 6 [.str s, .tup cs, .tup (ls.map linkD)] [.str s', .tup cs', .tup (ls'.map linkD)] :=
      .cons EqT.str (.cons (EqT.tup (EqTs.all fun a ha b hb => col_T TC hn hq (hd a ha) (hd' b hb))) (.cons (EqT.links ls ls') (.nl _)))
    obtain ⟨r, h1, _, h2⟩ := cmp_T (ow := ow) ts S
    rw [h1]
    walk_at "ev2"
    refine ⟨r, fin_d hS false _, ?_⟩
    rw [h2]
    simp only [tabD, tabF, D.ins.injEq, List.cons.injEq, Prod.mk.injEq, true_and, and_true]
end Pr

namespace K01
open PySem Mi Pr Dr
local macro_rules | `(tactic| walk_at "ev") => `(tactic| simp only [evF, bndPlain, startI, eE_nm, eE_cst, eE_bin, eE_no, eE_neg, eE_cmp, eE_chain, eE_and, eE_or, eE_ife, eE_ix, eE_sl, eE_tup, eE_lst, eE_box, eE_comp, eE_call, eE_isi, eE_bi, eE_lens, eE_rpr, eE_ty, eE_bty, eE_mt, eE_lm, eE_fld, eT_no, eT_and, eT_or, eT_cmp, eT_chain, eT_tru, eT_yes, eA_nil, eA_cons, eO_non, eO_som, eI_rng, eI_it, eS_expr, eS_set, eS_asg, eS_par, eS_putix, eS_putf, eS_ret, eS_ret0, eS_pass, eS_brk, eS_cont, eS_ife, eS_loop, eS_whil, eS_raise, eS_tri, eSs_nil, eSs_cons, fBin, fNo, fCmp, fCh1, fCh2, ch_t, ch_f, fIx, fSl, fSl2, fCall, fCall2, fMt, fMt2, fCons, fCons2, fNot, fRng1, kNext, kSet, kAsg, kPar, kPut, kPut2, kPut3, kFld, kFld2, kRet, kFor, fComp, asEnv, tgW, asgIs, putAllM, b_ok, b_exc, b_bad, o_ok, o_exc, s_next, s_ret, s_exc, s_brk, s_cont, ab_ok, tr_bl, g_0, g_s, if_t, if_f, anE_t, anE_f, orE_t, orE_f, an_t, an_f, or_t, or_f, ng_i, rg_i, ne_s, ns_s, tri_x, tri_r, tri_n, it_l, it_t, it_s, po_i, fl_n, add_i, sub_i, cw_lt, cw_le, lt_i, le_i, gt_i, ge_i, eq_i, ne_i, eq_s, ne_s', is_n, isnt_n, len_l, len_t, tn_n, tn_c, tn_b, tn_r, tn_x, List.isEmpty_nil, Bool.true_and, List.length_cons, List.length_nil, decide_true, decide_false, if_true, if_false, List.map_cons, List.map_nil, List.cons_append, List.nil_append, Nat.zero_add, Nat.reduceAdd, Nat.reduceSub, List.replicate_zero, List.replicate_succ, List.set_cons_zero, List.set_cons_succ, List.zip_nil_left, List.zip_nil_right, Bool.not_true, Bool.not_false, Bool.false_eq_true, reduceIte])
/-! the law's defs, printed by wip/gen -/
def f__law_column_made : FI := ⟨bndPlain 4, false, 9, (.cons (.set 1 (.bin .Add (.nm 1) (.bin .Mult (.lst (.cons (.cst .non) .nil)) (.bin .Sub (.cst (.int 5)) (.bi true "len" (.cons (.nm 1) .nil)))))) (.cons (.asg (.tup [4, 5, 6, 7, 8]) (.nm 1)) (.cons (.ife (.cmp true .Is (.nm 4) (.cst .non)) (.cons (.ret (.call ("Column" : Str) (.cons (.nm 0) .nil) [("nullable" : Str), ("default" : Str)] (.cons (.nm 2) (.cons (.nm 3) .nil)))) .nil) .nil) (.cons (.ife (.cmp true .Is (.nm 5) (.cst .non)) (.cons (.ret (.call ("Column" : Str) (.cons (.nm 0) (.cons (.nm 4) .nil)) [("nullable" : Str), ("default" : Str)] (.cons (.nm 2) (.cons (.nm 3) .nil)))) .nil) .nil) (.cons (.ife (.cmp true .Is (.nm 6) (.cst .non)) (.cons (.ret (.call ("Column" : Str) (.cons (.nm 0) (.cons (.nm 4) (.cons (.nm 5) .nil))) [("default" : Str), ("nullable" : Str)] (.cons (.nm 3) (.cons (.nm 2) .nil)))) .nil) .nil) (.cons (.ife (.cmp true .Is (.nm 7) (.cst .non)) (.cons (.ret (.call ("Column" : Str) (.cons (.nm 0) (.cons (.nm 4) (.cons (.nm 5) (.cons (.nm 6) .nil)))) [("nullable" : Str), ("default" : Str)] (.cons (.nm 2) (.cons (.nm 3) .nil)))) .nil) .nil) (.cons (.ife (.cmp true .Is (.nm 8) (.cst .non)) (.cons (.ret (.call ("Column" : Str) (.cons (.nm 0) (.cons (.nm 4) (.cons (.nm 5) (.cons (.nm 6) (.cons (.nm 7) .nil))))) [("nullable" : Str), ("default" : Str)] (.cons (.nm 2) (.cons (.nm 3) .nil)))) .nil) .nil) (.cons (.ret (.call ("Column" : Str) (.cons (.nm 0) (.cons (.nm 4) (.cons (.nm 5) (.cons (.nm 6) (.cons (.nm 7) (.cons (.nm 8) .nil)))))) [("nullable" : Str), ("default" : Str)] (.cons (.nm 2) (.cons (.nm 3) .nil)))) .nil))))))))⟩
def f__law_outcome : FI := ⟨bndPlain 4, false, 5, (.cons (.tri (.cons (.ret (.call ("_law_column_made" : Str) (.cons (.nm 0) (.cons (.nm 1) (.cons (.nm 2) (.cons (.nm 3) .nil)))) [] .nil)) .nil) (.cons (.c ("BadName" : Str)) (some 4) (.cons (.ret (.tup (.cons (.cst (.str ("name" : Str))) (.cons (.rpr (.cons (.fld (.nm 4) ("value" : Str)) .nil)) (.cons (.isi [(.b "ValueError")] (.nm 4)) .nil))))) .nil) (.cons (.c ("BadAction" : Str)) (some 4) (.cons (.ret (.tup (.cons (.cst (.str ("action" : Str))) (.cons (.rpr (.cons (.fld (.nm 4) ("value" : Str)) .nil)) (.cons (.isi [(.b "ValueError")] (.nm 4)) .nil))))) .nil) (.cons (.c ("BadColumn" : Str)) (some 4) (.cons (.ret (.tup (.cons (.cst (.str ("column" : Str))) (.cons (.rpr (.cons (.fld (.nm 4) ("name" : Str)) .nil)) (.cons (.isi [(.b "ValueError")] (.nm 4)) .nil))))) .nil) .nil)))) .nil)⟩
def f__law_is_word : FI := ⟨bndPlain 1, false, 2, (.cons (.ife (.or (.no (.tru (.isi [(.b "str")] (.nm 0)))) (.no (.chain .LtE .LtE (.cst (.int 1)) (.bi true "len" (.cons (.nm 0) .nil)) (.cst (.int 8))))) (.cons (.ret (.cst (.bl false))) .nil) .nil) (.cons (.ret (.bi true "all" (.cons (.comp false (.nm 1) [1] (.it (.nm 0)) .yes (.cmp true .In (.nm 1) (.cst (.str ("abcdefghijklmnopqrstuvwxyz" : Str))))) .nil))) .nil))⟩
def f__law_may_link : FI := ⟨bndPlain 3, false, 3, (.cons (.ife (.or (.no (.tru (.isi [(.b "tuple")] (.nm 0)))) (.or (.cmp true .NotEq (.bi true "len" (.cons (.nm 0) .nil)) (.cst (.int 2))) (.or (.no (.tru (.call ("_law_is_word" : Str) (.cons (.ix (.nm 0) (.cst (.int 0))) .nil) [] .nil))) (.no (.tru (.isi [(.b "str")] (.ix (.nm 0) (.cst (.int 1))))))))) (.cons (.ret (.cst (.bl false))) .nil) .nil) (.cons (.ife (.cmp true .Eq (.ix (.nm 0) (.cst (.int 1))) (.cst (.str ("set_null" : Str)))) (.cons (.ret (.nm 1)) .nil) .nil) (.cons (.ife (.cmp true .Eq (.ix (.nm 0) (.cst (.int 1))) (.cst (.str ("set_default" : Str)))) (.cons (.ret (.or (.nm 1) (.cmp true .IsNot (.nm 2) (.cst .non)))) .nil) .nil) (.cons (.ret (.cmp true .In (.ix (.nm 0) (.cst (.int 1))) (.tup (.cons (.cst (.str ("cascade" : Str))) (.cons (.cst (.str ("restrict" : Str))) (.cons (.cst (.str ("no_action" : Str))) .nil)))))) .nil))))⟩
def f__law_due : FI := ⟨bndPlain 4, false, 10, (.cons (.ife (.or (.no (.tru (.call ("_law_is_word" : Str) (.cons (.nm 0) .nil) [] .nil))) (.cmp true .Eq (.nm 0) (.cst (.str ("id" : Str))))) (.cons (.ret (.tup (.cons (.cst (.str ("name" : Str))) (.cons (.rpr (.cons (.nm 0) .nil)) (.cons (.cst (.bl true)) .nil))))) .nil) .nil) (.cons (.set 4 (.and (.isi [(.b "int")] (.nm 3)) (.no (.isi [(.b "bool")] (.nm 3))))) (.cons (.ife (.or (.no (.tru (.isi [(.b "bool")] (.nm 2)))) (.and (.cmp true .IsNot (.nm 3) (.cst .non)) (.no (.tru (.nm 4))))) (.cons (.ret (.tup (.cons (.cst (.str ("column" : Str))) (.cons (.rpr (.cons (.nm 0) .nil)) (.cons (.cst (.bl true)) .nil))))) .nil) .nil) (.cons (.set 5 (.comp false (.nm 7) [7] (.it (.nm 1)) (.no (.tru (.call ("_law_may_link" : Str) (.cons (.nm 7) (.cons (.nm 2) (.cons (.nm 3) .nil))) [] .nil))) (.nm 7))) (.cons (.ife (.cmp true .NotEq (.nm 5) (.lst .nil)) (.cons (.ret (.tup (.cons (.cst (.str ("action" : Str))) (.cons (.rpr (.cons (.ix (.nm 5) (.cst (.int 0))) .nil)) (.cons (.cst (.bl true)) .nil))))) .nil) .nil) (.cons (.set 6 (.comp false (.tup [8, 9]) [8, 9] (.it (.nm 1)) .yes (.nm 8))) (.cons (.ret (.ife (.or (.cmp true .Gt (.bi true "len" (.cons (.nm 6) .nil)) (.cst (.int 4))) (.cmp true .Lt (.lens (.nm 6)) (.bi true "len" (.cons (.nm 6) .nil)))) (.tup (.cons (.cst (.str ("column" : Str))) (.cons (.rpr (.cons (.nm 0) .nil)) (.cons (.cst (.bl true)) .nil)))) (.cst .non))) .nil)))))))⟩
def f__law_bent : FI := ⟨bndPlain 2, false, 10, (.cons (.asg (.tup [4, 5, 6, 7]) (.nm 1)) (.cons (.set 2 (.call ("_law_take" : Str) (.cons (.nm 0) (.cons (.cst (.int 6)) .nil)) [] .nil)) (.cons (.ife (.cmp true .Eq (.nm 2) (.cst (.int 0))) (.cons (.set 4 (.call ("_law_of" : Str) (.cons (.nm 0) (.cons (.lst (.cons (.cst (.str ("id" : Str))) (.cons (.cst (.str ("id" : Str))) (.cons (.cst (.str ("self" : Str))) (.cons (.cst (.str ("row" : Str))) (.cons (.cst (.str ("" : Str))) (.cons (.cst (.str ("A" : Str))) (.cons (.cst (.str ("abcdefghi" : Str))) (.cons (.cst (.str ("a1" : Str))) (.cons (.cst (.str ("x y" : Str))) (.cons (.cst (.int 5)) (.cons (.cst (.bl true)) (.cons (.tup (.cons (.cst (.str ("x" : Str))) .nil)) (.cons (.lst (.cons (.cst (.str ("x" : Str))) .nil)) .nil)))))))))))))) .nil)) [] .nil)) .nil) .nil) (.cons (.ife (.cmp true .Eq (.nm 2) (.cst (.int 1))) (.cons (.set 6 (.call ("_law_of" : Str) (.cons (.nm 0) (.cons (.lst (.cons (.cst (.int 1)) (.cons (.cst (.int 0)) (.cons (.cst (.str ("" : Str))) (.cons (.cst .non) (.cons (.no (.nm 6)) (.cons (.no (.nm 6)) .nil))))))) .nil)) [] .nil)) .nil) .nil) (.cons (.ife (.cmp true .Eq (.nm 2) (.cst (.int 2))) (.cons (.set 7 (.call ("_law_of" : Str) (.cons (.nm 0) (.cons (.lst (.cons (.cst (.bl true)) (.cons (.cst (.bl false)) (.cons (.cst (.str ("0" : Str))) (.cons (.tup (.cons (.cst (.int 1)) .nil)) (.cons (.cst .non) (.cons (.cst (.int 7)) (.cons (.neg (.bin .Pow (.cst (.int 10)) (.cst (.int 39)))) .nil)))))))) .nil)) [] .nil)) .nil) .nil) (.cons (.set 3 (.lst (.cons (.tup (.cons (.cst (.str ("a" : Str))) (.cons (.cst (.str ("Cascade" : Str))) .nil))) (.cons (.tup (.cons (.cst (.str ("a" : Str))) (.cons (.cst .non) .nil))) (.cons (.tup (.cons (.cst (.str ("A" : Str))) (.cons (.cst (.str ("cascade" : Str))) .nil))) (.cons (.lst (.cons (.cst (.str ("a" : Str))) (.cons (.cst (.str ("cascade" : Str))) .nil))) (.cons (.tup (.cons (.cst (.str ("a" : Str))) .nil)) (.cons (.tup (.cons (.cst (.str ("a" : Str))) (.cons (.cst (.str ("cascade" : Str))) (.cons (.cst (.int 0)) .nil)))) (.cons (.cst (.str ("a" : Str))) (.cons (.cst (.int 0)) .nil)))))))))) (.cons (.ife (.cmp true .Eq (.nm 2) (.cst (.int 3))) (.cons (.set 8 (.call ("_law_take" : Str) (.cons (.nm 0) (.cons (.bin .Add (.bi true "len" (.cons (.nm 5) .nil)) (.cst (.int 1))) .nil)) [] .nil)) (.cons (.set 5 (.bin .Add (.bin .Add (.sl (.nm 5) .non (.som (.nm 8))) (.lst (.cons (.call ("_law_of" : Str) (.cons (.nm 0) (.cons (.bin .Add (.nm 3) (.lst (.cons (.tup (.cons (.cst (.str ("e" : Str))) (.cons (.cst (.str ("set_null" : Str))) .nil))) (.cons (.tup (.cons (.cst (.str ("e" : Str))) (.cons (.cst (.str ("set_default" : Str))) .nil))) .nil)))) .nil)) [] .nil) .nil))) (.sl (.nm 5) (.som (.nm 8)) .non))) .nil)) .nil) (.cons (.ife (.cmp true .Eq (.nm 2) (.cst (.int 4))) (.cons (.set 5 (.bin .Add (.nm 5) (.sl (.comp false (.nm 9) [9] (.it (.lst (.cons (.cst (.str ("a" : Str))) (.cons (.cst (.str ("b" : Str))) (.cons (.cst (.str ("c" : Str))) (.cons (.cst (.str ("d" : Str))) (.cons (.cst (.str ("e" : Str))) .nil))))))) .yes (.tup (.cons (.nm 9) (.cons (.cst (.str ("restrict" : Str))) .nil)))) .non (.som (.bin .Sub (.cst (.int 5)) (.bi true "len" (.cons (.nm 5) .nil))))))) .nil) .nil) (.cons (.ret (.tup (.cons (.nm 4) (.cons (.sl (.nm 5) .non (.som (.cst (.int 5)))) (.cons (.nm 6) (.cons (.nm 7) .nil)))))) .nil)))))))))⟩
def f__law_right : FI := ⟨bndPlain 1, false, 11, (.cons (.set 1 (.call ("_law_column" : Str) (.cons (.nm 0) (.cons (.call ("_law_of" : Str) (.cons (.nm 0) (.cons (.lst (.cons (.cst (.str ("x" : Str))) (.cons (.cst (.str ("abcdefgh" : Str))) (.cons (.cst (.str ("table" : Str))) (.cons (.cst (.str ("self" : Str))) .nil))))) .nil)) [] .nil) (.cons (.lst (.cons (.cst (.str ("a" : Str))) (.cons (.cst (.str ("b" : Str))) (.cons (.cst (.str ("c" : Str))) (.cons (.cst (.str ("d" : Str))) .nil))))) (.cons (.cst (.int 4)) .nil)))) [] .nil)) (.cons (.asg (.tup [3, 4, 5, 6]) (.nm 1)) (.cons (.par [7, 8] (.cons (.call ("_law_outcome" : Str) (.cons (.nm 3) (.cons (.nm 4) (.cons (.nm 5) (.cons (.nm 6) .nil)))) [] .nil) (.cons (.call ("_law_outcome" : Str) (.cons (.nm 3) (.cons (.nm 4) (.cons (.nm 5) (.cons (.nm 6) .nil)))) [] .nil) .nil))) (.cons (.ife (.or (.no (.tru (.isi [(.c ("Column" : Str))] (.nm 7)))) (.or (.cmp true .NotEq (.nm 7) (.nm 8)) (.or (.cmp true .Eq (.nm 7) (.nm 4)) (.cmp true .Eq (.nm 7) (.nm 1))))) (.cons (.ret (.cst (.bl false))) .nil) .nil) (.cons (.ife (.cmp true .NotEq (.rpr (.cons (.tup (.cons (.fld (.nm 7) ("name" : Str)) (.cons (.fld (.nm 7) ("links" : Str)) (.cons (.fld (.nm 7) ("nullable" : Str)) (.cons (.fld (.nm 7) ("default" : Str)) .nil))))) .nil)) (.rpr (.cons (.tup (.cons (.nm 3) (.cons (.ty "tuple" (.cons (.nm 4) .nil)) (.cons (.nm 5) (.cons (.nm 6) .nil))))) .nil))) (.cons (.ret (.cst (.bl false))) .nil) .nil) (.cons (.set 2 (.call ("_law_bent" : Str) (.cons (.nm 0) (.cons (.nm 1) .nil)) [] .nil)) (.cons (.par [9, 10] (.cons (.call ("_law_outcome" : Str) (.cons (.ix (.nm 2) (.cst (.int 0))) (.cons (.ix (.nm 2) (.cst (.int 1))) (.cons (.ix (.nm 2) (.cst (.int 2))) (.cons (.ix (.nm 2) (.cst (.int 3))) .nil)))) [] .nil) (.cons (.call ("_law_due" : Str) (.cons (.ix (.nm 2) (.cst (.int 0))) (.cons (.ix (.nm 2) (.cst (.int 1))) (.cons (.ix (.nm 2) (.cst (.int 2))) (.cons (.ix (.nm 2) (.cst (.int 3))) .nil)))) [] .nil) .nil))) (.cons (.ife (.cmp true .IsNot (.nm 10) (.cst .non)) (.cons (.ret (.cmp true .Eq (.nm 9) (.nm 10))) .nil) .nil) (.cons (.ret (.and (.isi [(.c ("Column" : Str))] (.nm 9)) (.cmp true .Eq (.cmp true .Eq (.nm 9) (.nm 7)) (.cmp true .Eq (.rpr (.cons (.nm 2) .nil)) (.rpr (.cons (.nm 1) .nil)))))) .nil)))))))))⟩
def f_law : FI := ⟨bndPlain 1, false, 5, (.cons (.loop (.nm 1) (.rng (.bi true "max" (.cons (.cst (.int 1)) (.cons (.bi true "min" (.cons (.cst (.int 2)) (.cons (.bi true "len" (.cons (.nm 0) .nil)) .nil))) .nil)))) (.cons (.set 2 (.call ("_law_bag" : Str) (.cons (.nm 0) (.cons (.nm 1) .nil)) [] .nil)) (.cons (.loop (.nm 3) (.rng (.cst (.int 20))) (.cons (.ife (.no (.tru (.call ("_law_right" : Str) (.cons (.nm 2) .nil) [] .nil))) (.cons (.ret (.cst (.bl false))) .nil) .nil) .nil)) (.cons (.set 4 (.call ("Column" : Str) (.cons (.cst (.str ("x" : Str))) .nil) [] .nil)) (.cons (.ife (.cmp true .NotEq (.lst (.cons (.fld (.nm 4) ("name" : Str)) (.cons (.fld (.nm 4) ("links" : Str)) (.cons (.fld (.nm 4) ("nullable" : Str)) (.cons (.fld (.nm 4) ("default" : Str)) .nil))))) (.lst (.cons (.cst (.str ("x" : Str))) (.cons (.tup .nil) (.cons (.cst (.bl false)) (.cons (.cst .non) .nil)))))) (.cons (.ret (.cst (.bl false))) .nil) .nil) .nil))))) (.cons (.ret (.cst (.bl true))) .nil))⟩
/-! repr -/
def Shw (v : D) : Prop := (v.plain && v.py.showable && !v.py.hasDict && decide (v.py.depth ≤ 60) && decide (v.py.shown.length ≤ 100000)) = true
theorem repr_d {v : D} (h : Shw v) (S : Store) : reprM [.d v] S = .ok (.d (.str v.py.shown)) S := by
  unfold reprM
  simp only [asD]
  exact if_pos h
/-- what speaks against a column, by a word and what is shown -/
def colK (nm : D) (refs : List D) (nul df : D) : Option (Str × D) :=
  if !isName nm || isStrD ("id" : Str) nm then some (("name" : Str), nm)
  else if !isT "bool" nul || (hasD df && !isInt df) then some (("column" : Str), nm)
  else match badLink (colActs (nulB nul) (hasD df)) refs with
    | some x => some (("action" : Str), x)
    | none => if twins (refs.map aim) || decide (4 < refs.length) then some (("column" : Str), nm) else none
def excOf (p : Str × D) : Str × List (Str × D) := if p.1 = ("name" : Str) then (("BadName" : Str), [(("value" : Str), p.2)]) else if p.1 = ("action" : Str) then (("BadAction" : Str), [(("value" : Str), p.2)]) else (("BadColumn" : Str), [(("name" : Str), p.2)])
inductive K3 : Str × D → Str × List (Str × D) → Prop
  | n (v : D) : K3 (("name" : Str), v) (("BadName" : Str), [(("value" : Str), v)])
  | a (v : D) : K3 (("action" : Str), v) (("BadAction" : Str), [(("value" : Str), v)])
  | c (v : D) : K3 (("column" : Str), v) (("BadColumn" : Str), [(("name" : Str), v)])
theorem col_K3 (nm : D) (refs : List D) (nul df : D) : (colK nm refs nul df = none ∧ colX nm refs nul df = none) ∨ ∃ p q, colK nm refs nul df = some p ∧ colX nm refs nul df = some q ∧ K3 p q := by
  unfold colK colX
  split
  · exact .inr ⟨_, _, rfl, rfl, .n _⟩
  · split
    · exact .inr ⟨_, _, rfl, rfl, .c _⟩
    · cases badLink (colActs (nulB nul) (hasD df)) refs with
      | some x => exact .inr ⟨_, _, rfl, rfl, .a _⟩
      | none =>
        dsimp only
        split
        · exact .inr ⟨_, _, rfl, rfl, .c _⟩
        · exact .inl ⟨rfl, rfl⟩
/-- the fields by name -/
inductive ColKw (nul df : D) : List (Str × W) → Prop
  | nd : ColKw nul df [(("nullable" : Str), .d nul), (("default" : Str), .d df)]
  | dn : ColKw nul df [(("default" : Str), .d df), (("nullable" : Str), .d nul)]
theorem bnd_of {w nm : W} {refs : List D} {nul df : W} {kws : List (Str × W)} (h : bndP [("self" : Str), ("name" : Str)] [(("nullable" : Str), .bl false), (("default" : Str), .non)] [w, nm] kws = some [w, nm, nul, df]) (hl : refs.length ≤ 100000) : bndCol (w :: nm :: refs.map W.d) kws = some [w, nm, nul, df, .d (.tup refs)] := by
  show (match bndP [("self" : Str), ("name" : Str)] [(("nullable" : Str), .bl false), (("default" : Str), .non)] [w, nm] kws with
    | some l => if true then (match pureL (refs.map W.d) with
      | some ds => if ds.length ≤ 100000 then some (l ++ [W.d (.tup ds)]) else none
      | none => none) else _
    | none => none) = _
  rw [h, pureL_d]
  simp [hl]
theorem bnd_kw {w nm : W} {refs : List D} {nul df : D} {kws : List (Str × W)} (h : ColKw nul df kws) (hl : refs.length ≤ 100000) : bndCol (w :: nm :: refs.map W.d) kws = some [w, nm, .d nul, .d df, .d (.tup refs)] := by
  refine bnd_of ?_ hl
  cases h <;> kernel_rfl
abbrev SpColumn (ow : Own) : Prop := ∀ (nm nul df : D) (refs : List D) (kws : List (Str × W)) (S : Store), WF S → ColKw nul df kws ∨ (kws = [] ∧ nul = .bl false ∧ df = .non) → Fit ow nm → Kn ow nul → Kn ow df → (∀ x ∈ refs, FitL ow x) → refs.length ≤ 1000 →
  ow.fn nCol (.d nm :: refs.map W.d) kws S = madeR nCol (colF nm (.tup refs) nul df) (colX nm refs nul df) S
theorem mul_non (k : Int) (h0 : 0 ≤ k) (h1 : k ≤ 5) (S : Store) : binW .Mult (.d (.lst [.non])) (.d (.int k)) S = .ok (.d (.lst (List.replicate k.toNat .non))) S := by
  show (if decide (-(2 ^ 63) ≤ k) && decide (k < 2 ^ 63) && decide (1 * k.toNat ≤ 100000) then R.ok (W.d (.lst (List.replicate k.toNat [D.non]).flatten)) S else R.bad) = _
  rw [if_pos (by rw [decide_eq_true (by omega), decide_eq_true (by omega), decide_eq_true (by omega)]; rfl)]
  rw [show (List.replicate k.toNat [D.non]).flatten = List.replicate k.toNat D.non from by
    induction k.toNat with
    | zero => rfl
    | succ n ih => rw [List.replicate_succ, List.flatten_cons, ih]; rfl]
theorem sp_column_made {ow : Own} (hC : SpColumn ow) {nm nul df : D} {refs : List D} {S : Store} (hS : WF S) (k1 : Fit ow nm) (k2 : Kn ow nul) (k3 : Kn ow df) (k4 : ∀ x ∈ refs, FitL ow x) (k5 : refs.length ≤ 5) (k6 : ∀ x ∈ refs, hasD x = true) :
    evF ow f__law_column_made [.d nm, .d (.lst refs), .d nul, .d df] [] S = madeR nCol (colF nm (.tup refs) nul df) (colX nm refs nul df) S := by
  have fin : ∀ r : R W, r = madeR nCol (colF nm (.tup refs) nul df) (colX nm refs nul df) S → ∀ env, finM false S.length ((RS.ofR env r kRet).seq (evSs ow .nil)) = r := fun r hr env => by
    rw [hr]
    unfold madeR
    split
    · exact fin_d hS false _
    · exact fin_x hS false _ _ _
  have fin2 : ∀ r : R W, r = madeR nCol (colF nm (.tup refs) nul df) (colX nm refs nul df) S → ∀ env k, finM false S.length (((RS.ofR env r kRet).seq (evSs ow .nil)).seq k) = r := fun r hr env k => by
    rw [hr]
    unfold madeR
    split
    · exact fin_d hS false _
    · exact fin_x hS false _ _ _
  have non : ∀ x ∈ refs, isNonB (.d x) = false := fun x hx => by
    have := k6 x hx
    cases x <;> first | rfl | cases this
  have call : ∀ kws, ColKw nul df kws → ow.fn nCol (.d nm :: refs.map W.d) kws S = madeR nCol (colF nm (.tup refs) nul df) (colX nm refs nul df) S := fun kws h => hC nm nul df refs kws S hS (.inl h) k1 k2 k3 k4 (by omega)
  have c1 := call _ .nd
  have c2 := call _ .dn
  unfold f__law_column_made
  walk_at "ev"
  rw [show lstOf [.d .non] S = .ok (.d (.lst [.non])) S from rfl]
  walk_at "ev"
  rw [mul_non _ (by omega) (by omega)]
  walk_at "ev"
  rw [add_l (by simp; omega)]
  walk_at "ev"
  match refs, k5, non, c1, c2, fin, fin2 with
  | [], _, non, c1, c2, fin, fin2 =>
    rw [show ([] : List D) ++ List.replicate ((5 : Int) - (([] : List D).length : Int)).toNat D.non = [.non, .non, .non, .non, .non] from rfl]
    walk_at "ev"
    rw [show isNonB (.d .non) = true from rfl]
    walk_at "ev"
    exact (fin2 _ c1 _ _).trans c1
  | [a], _, non, c1, c2, fin, fin2 =>
    rw [show ([a] : List D) ++ List.replicate ((5 : Int) - (([a] : List D).length : Int)).toNat D.non = [a, D.non, D.non, D.non, D.non] from rfl]
    walk_at "ev"
    rw [non a (by simp)]
    walk_at "ev"
    rw [show isNonB (.d .non) = true from rfl]
    walk_at "ev"
    exact (fin2 _ c1 _ _).trans c1
  | [a, b], _, non, c1, c2, fin, fin2 =>
    rw [show ([a, b] : List D) ++ List.replicate ((5 : Int) - (([a, b] : List D).length : Int)).toNat D.non = [a, b, D.non, D.non, D.non] from rfl]
    walk_at "ev"
    rw [non a (by simp)]
    walk_at "ev"
    rw [non b (by simp)]
    walk_at "ev"
    rw [show isNonB (.d .non) = true from rfl]
    walk_at "ev"
    exact (fin2 _ c2 _ _).trans c2
  | [a, b, c], _, non, c1, c2, fin, fin2 =>
    rw [show ([a, b, c] : List D) ++ List.replicate ((5 : Int) - (([a, b, c] : List D).length : Int)).toNat D.non = [a, b, c, D.non, D.non] from rfl]
    walk_at "ev"
    rw [non a (by simp)]
    walk_at "ev"
    rw [non b (by simp)]
    walk_at "ev"
    rw [non c (by simp)]
    walk_at "ev"
    rw [show isNonB (.d .non) = true from rfl]
    walk_at "ev"
    exact (fin2 _ c1 _ _).trans c1
  | [a, b, c, d], _, non, c1, c2, fin, fin2 =>
    rw [show ([a, b, c, d] : List D) ++ List.replicate ((5 : Int) - (([a, b, c, d] : List D).length : Int)).toNat D.non = [a, b, c, d, D.non] from rfl]
    walk_at "ev"
    rw [non a (by simp)]
    walk_at "ev"
    rw [non b (by simp)]
    walk_at "ev"
    rw [non c (by simp)]
    walk_at "ev"
    rw [non d (by simp)]
    walk_at "ev"
    rw [show isNonB (.d .non) = true from rfl]
    walk_at "ev"
    exact (fin2 _ c1 _ _).trans c1
  | [a, b, c, d, e], _, non, c1, c2, fin, fin2 =>
    rw [show ([a, b, c, d, e] : List D) ++ List.replicate ((5 : Int) - (([a, b, c, d, e] : List D).length : Int)).toNat D.non = [a, b, c, d, e] from rfl]
    walk_at "ev"
    rw [non a (by simp)]
    walk_at "ev"
    rw [non b (by simp)]
    walk_at "ev"
    rw [non c (by simp)]
    walk_at "ev"
    rw [non d (by simp)]
    walk_at "ev"
    rw [non e (by simp)]
    walk_at "ev"
    exact (fin _ c1 _).trans c1
  | _ :: _ :: _ :: _ :: _ :: _ :: _, h, _, _, _, _, _ => simp at h
end K01

namespace K01
open PySem Mi Pr Dr
local macro_rules | `(tactic| walk_at "ev") => `(tactic| simp only [evF, bndPlain, startI, eE_nm, eE_cst, eE_bin, eE_no, eE_neg, eE_cmp, eE_chain, eE_and, eE_or, eE_ife, eE_ix, eE_sl, eE_tup, eE_lst, eE_box, eE_comp, eE_call, eE_isi, eE_bi, eE_lens, eE_rpr, eE_ty, eE_bty, eE_mt, eE_lm, eE_fld, eT_no, eT_and, eT_or, eT_cmp, eT_chain, eT_tru, eT_yes, eA_nil, eA_cons, eO_non, eO_som, eI_rng, eI_it, eS_expr, eS_set, eS_asg, eS_par, eS_putix, eS_putf, eS_ret, eS_ret0, eS_pass, eS_brk, eS_cont, eS_ife, eS_loop, eS_whil, eS_raise, eS_tri, eSs_nil, eSs_cons, fBin, fNo, fCmp, fCh1, fCh2, ch_t, ch_f, fIx, fSl, fSl2, fCall, fCall2, fMt, fMt2, fCons, fCons2, fNot, fRng1, kNext, kSet, kAsg, kPar, kPut, kPut2, kPut3, kFld, kFld2, kRet, kFor, fComp, asEnv, tgW, asgIs, putAllM, b_ok, b_exc, b_bad, o_ok, o_exc, s_next, s_ret, s_exc, s_brk, s_cont, ab_ok, tr_bl, g_0, g_s, if_t, if_f, anE_t, anE_f, orE_t, orE_f, an_t, an_f, or_t, or_f, ng_i, rg_i, ne_s, ns_s, tri_x, tri_r, tri_n, it_l, it_t, it_s, po_i, fl_n, add_i, sub_i, cw_lt, cw_le, lt_i, le_i, gt_i, ge_i, eq_i, ne_i, eq_s, ne_s', is_n, isnt_n, len_l, len_t, tn_n, tn_c, tn_b, tn_r, tn_x, List.isEmpty_nil, Bool.true_and, List.length_cons, List.length_nil, decide_true, decide_false, if_true, if_false, List.map_cons, List.map_nil, List.cons_append, List.nil_append, Nat.zero_add, Nat.reduceAdd, Nat.reduceSub, List.replicate_zero, List.replicate_succ, List.set_cons_zero, List.set_cons_succ, List.zip_nil_left, List.zip_nil_right, Bool.not_true, Bool.not_false, Bool.false_eq_true, reduceIte])
def outD (nm : D) (refs : List D) (nul df : D) : D := match colK nm refs nul df with
  | none => colD nm (.tup refs) nul df
  | some (k, v) => .tup [.str k, .str v.py.shown, .bl true]
abbrev xNames : List Str := [("BadName" : Str), ("BadAction" : Str), ("BadColumn" : Str)]
structure XT (ow : Own) : Prop where
  m : ∀ c ∈ xNames, ∀ k ∈ xNames, ow.exm c (.c k) = some (decide (c = k))
  x : ∀ c ∈ xNames, c ∈ ow.xcs
  i : ∀ c ∈ xNames, ow.isa (.c c) (.b "ValueError") = some true
  f1 : ow.xflds.contains (("BadName" : Str), ("value" : Str)) = true
  f2 : ow.xflds.contains (("BadAction" : Str), ("value" : Str)) = true
  f3 : ow.xflds.contains (("BadColumn" : Str), ("name" : Str)) = true
theorem fld_x {ow : Own} {c f : Str} {fs : List (Str × D)} {x : D} (h : ow.xflds.contains (c, f) = true) (hl : fs.lookup f = some x) (S : Store) : fldX ow f (.x c fs) S = .ok (.d x) S := by
  show (if ow.xflds.contains (c, f) then match fs.lookup f with | some x => R.ok (W.d x) S | none => R.bad else R.bad) = _
  rw [if_pos h, hl]
theorem isi_x {ow : Own} {c : Str} {fs : List (Str × D)} {q : Kd} {b : Bool} (hc : c ∈ ow.xcs) (h : ow.isa (.c c) q = some b) (S : Store) : isiM ow [q] (.x c fs) S = .ok (.d (.bl b)) S := isi_of (if_pos (List.contains_iff_mem.mpr hc)) h
theorem hd_ret {ow : Own} {c : Str} {i : Option Nat} {su : EnvM → Store → RS} {fs : List (Str × D)} {env : EnvM} {S : Store} {d : D} (hc : c ∈ ow.xcs) (hS : noxS S = true) (h : su (asEnv i (.x c fs) env) S = .ret (.d d) S) : fHd ow c i su fs env S = .ret (.d d) S := by
  unfold fHd
  rw [if_pos (List.contains_iff_mem.mpr hc), h]
  simp only [RS.nox, W.nox, hS, Bool.true_and, if_true]
  rfl
theorem dec_ne {a b : Str} (h : decide (a = b) = false) : decide (a = b) = false := h
theorem sp_outcome {ow : Own} (X : XT ow) {nm nul df : D} {refs : List D} {S : Store} (hM : ow.fn ("_law_column_made" : Str) [.d nm, .d (.lst refs), .d nul, .d df] [] S = madeR nCol (colF nm (.tup refs) nul df) (colX nm refs nul df) S)
    (hS : WF S) (hX : noxS S = true) (hsh : ∀ k v, colK nm refs nul df = some (k, v) → Shw v) :
    evF ow f__law_outcome [.d nm, .d (.lst refs), .d nul, .d df] [] S = .ok (.d (outD nm refs nul df)) S := by
  have nb : ow.exm ("BadAction" : Str) (.c ("BadName" : Str)) = some false := (X.m _ (by simp [xNames]) _ (by simp [xNames])).trans (congrArg some (by decide +kernel))
  have nc : ow.exm ("BadColumn" : Str) (.c ("BadName" : Str)) = some false := (X.m _ (by simp [xNames]) _ (by simp [xNames])).trans (congrArg some (by decide +kernel))
  have ac : ow.exm ("BadColumn" : Str) (.c ("BadAction" : Str)) = some false := (X.m _ (by simp [xNames]) _ (by simp [xNames])).trans (congrArg some (by decide +kernel))
  have nn : ow.exm ("BadName" : Str) (.c ("BadName" : Str)) = some true := (X.m _ (by simp [xNames]) _ (by simp [xNames])).trans (congrArg some (by decide +kernel))
  have aa : ow.exm ("BadAction" : Str) (.c ("BadAction" : Str)) = some true := (X.m _ (by simp [xNames]) _ (by simp [xNames])).trans (congrArg some (by decide +kernel))
  have cc : ow.exm ("BadColumn" : Str) (.c ("BadColumn" : Str)) = some true := (X.m _ (by simp [xNames]) _ (by simp [xNames])).trans (congrArg some (by decide +kernel))
  have t3 : ∀ (a b c : D) (S : Store), tupOf [.d a, .d b, .d c] S = .ok (.d (.tup [a, b, c])) S := fun _ _ _ _ => rfl
  unfold f__law_outcome outD
  walk_at "ev"
  rw [hM]
  unfold madeR
  rcases col_K3 nm refs nul df with ⟨e1, e2⟩ | ⟨p, q, e1, e2, k3⟩
  · rw [e1, e2]
    walk_at "ev"
    exact fin_d hS false _
  · rw [e1, e2]
    cases k3 with
    | n v =>
      have sh := hsh _ _ e1
      walk_at "ev"
      rw [eH_t nn, hd_ret (X.x _ (by simp [xNames])) hX (d := .tup [.str ("name" : Str), .str v.py.shown, .bl true])]
      · walk_at "ev"
        exact fin_d hS false _
      · walk_at "ev"
        rw [fld_x X.f1 rfl]
        walk_at "ev"
        rw [repr_d sh]
        walk_at "ev"
        rw [isi_x (X.x _ (by simp [xNames])) (X.i _ (by simp [xNames]))]
        walk_at "ev"
        rw [t3]
        walk_at "ev"
    | a v =>
      have sh := hsh _ _ e1
      walk_at "ev"
      rw [eH_f nb, eH_t aa, hd_ret (X.x _ (by simp [xNames])) hX (d := .tup [.str ("action" : Str), .str v.py.shown, .bl true])]
      · walk_at "ev"
        exact fin_d hS false _
      · walk_at "ev"
        rw [fld_x X.f2 rfl]
        walk_at "ev"
        rw [repr_d sh]
        walk_at "ev"
        rw [isi_x (X.x _ (by simp [xNames])) (X.i _ (by simp [xNames]))]
        walk_at "ev"
        rw [t3]
        walk_at "ev"
    | c v =>
      have sh := hsh _ _ e1
      walk_at "ev"
      rw [eH_f nc, eH_f ac, eH_t cc, hd_ret (X.x _ (by simp [xNames])) hX (d := .tup [.str ("column" : Str), .str v.py.shown, .bl true])]
      · walk_at "ev"
        exact fin_d hS false _
      · walk_at "ev"
        rw [fld_x X.f3 rfl]
        walk_at "ev"
        rw [repr_d sh]
        walk_at "ev"
        rw [isi_x (X.x _ (by simp [xNames])) (X.i _ (by simp [xNames]))]
        walk_at "ev"
        rw [t3]
        walk_at "ev"
theorem word_same : f__law_is_word = f_is_name := rfl
abbrev SpWord (ow : Own) : Prop := ∀ (v : D) (S : Store), WF S → Fit ow v → ow.fn ("_law_is_word" : Str) [.d v] [] S = .ok (.d (.bl (isName v))) S
theorem sp_may_link {ow : Own} (h1 : isaB ow "str" = true) (h2 : isaB ow "tuple" = true) (hw : SpWord ow) {v p : D} {b : Bool} {S : Store} (hS : WF S) (k : FitL ow v) :
    evF ow f__law_may_link [.d v, .d (.bl b), .d p] [] S = .ok (.d (.bl (isLink (colActs b (hasD p)) v))) S := by
  unfold f__law_may_link
  walk_at "ev"
  rw [isi_b h2 S k.k]
  cases v with
  | tup xs =>
    rw [show isT "tuple" (.tup xs) = true from rfl]
    walk_at "ev"
    match xs, k.p xs rfl with
    | [], _ =>
      rw [show (decide (((([] : List D).length : Nat) : Int) = 2)) = false from rfl]
      walk_at "ev"
      rw [fin_d hS]; rfl
    | [a], _ =>
      rw [show (decide (((([a] : List D).length : Nat) : Int) = 2)) = false from rfl]
      walk_at "ev"
      rw [fin_d hS]; rfl
    | [a, c], kp =>
      rw [show (decide (((([a, c] : List D).length : Nat) : Int) = 2)) = true from rfl]
      walk_at "ev"
      rw [ix_t0]
      walk_at "ev"
      rw [hw a S hS (kp a (by simp))]
      show _ = R.ok (W.d (D.bl (isName a && inActs (colActs b (hasD p)) c))) S
      cases isName a
      · walk_at "ev"
        rw [fin_d hS]; rfl
      · walk_at "ev"
        rw [ix_t1]
        walk_at "ev"
        rw [isi_b h1 S (kp c (by simp)).k]
        cases c with
        | str s =>
          rw [show isT "str" (.str s) = true from rfl]
          walk_at "ev"
          rw [ix_t1]
          walk_at "ev"
          show _ = R.ok (W.d (D.bl (decide (s ∈ colActs b (hasD p))))) S
          by_cases e1 : s = ("set_null" : Str)
          · rw [decide_eq_true e1]
            walk_at "ev"
            rw [fin_d hS, e1]
            cases b <;> cases hasD p <;> rfl
          · rw [decide_eq_false e1]
            walk_at "ev"
            rw [ix_t1]
            walk_at "ev"
            by_cases e2 : s = ("set_default" : Str)
            · rw [decide_eq_true e2, e2]
              walk_at "ev"
              cases b
              · walk_at "ev"
                rw [fin_d hS]
                cases p <;> rfl
              · walk_at "ev"
                rw [fin_d hS]
                rfl
            · rw [decide_eq_false e2]
              walk_at "ev"
              rw [ix_t1]
              walk_at "ev"
              rw [show ∀ (a b c : D) (S : Store), tupOf [.d a, .d b, .d c] S = .ok (.d (.tup [a, b, c])) S from fun _ _ _ _ => rfl]
              walk_at "ev"
              rw [show [D.str ("cascade" : Str), D.str ("restrict" : Str), D.str ("no_action" : Str)] = acts3.map D.str from rfl, in_acts (acts := acts3) .t]
              walk_at "ev"
              rw [fin_d hS]
              congr 3
              rw [decide_eq_decide]
              unfold colActs acts3 acts4 acts5
              cases b <;> cases hasD p <;> simp [e1, e2]
        | _ =>
          rw [show isT "str" _ = false from rfl]
          walk_at "ev"
          rw [fin_d hS]; rfl
    | a :: b :: c :: r, _ =>
      rw [show (decide ((((a :: b :: c :: r : List D).length : Nat) : Int) = 2)) = false from decide_eq_false (by simp only [List.length_cons]; omega)]
      walk_at "ev"
      rw [fin_d hS]; rfl
  | _ =>
    rw [show isT "tuple" _ = false from rfl]
    walk_at "ev"
    rw [fin_d hS]; rfl
end K01

namespace K01
open PySem Mi Pr Dr
local macro_rules | `(tactic| walk_at "ev") => `(tactic| simp only [evF, bndPlain, startI, eE_nm, eE_cst, eE_bin, eE_no, eE_neg, eE_cmp, eE_chain, eE_and, eE_or, eE_ife, eE_ix, eE_sl, eE_tup, eE_lst, eE_box, eE_comp, eE_call, eE_isi, eE_bi, eE_lens, eE_rpr, eE_ty, eE_bty, eE_mt, eE_lm, eE_fld, eT_no, eT_and, eT_or, eT_cmp, eT_chain, eT_tru, eT_yes, eA_nil, eA_cons, eO_non, eO_som, eI_rng, eI_it, eS_expr, eS_set, eS_asg, eS_par, eS_putix, eS_putf, eS_ret, eS_ret0, eS_pass, eS_brk, eS_cont, eS_ife, eS_loop, eS_whil, eS_raise, eS_tri, eSs_nil, eSs_cons, fBin, fNo, fCmp, fCh1, fCh2, ch_t, ch_f, fIx, fSl, fSl2, fCall, fCall2, fMt, fMt2, fCons, fCons2, fNot, fRng1, kNext, kSet, kAsg, kPar, kPut, kPut2, kPut3, kFld, kFld2, kRet, kFor, fComp, asEnv, tgW, asgIs, putAllM, b_ok, b_exc, b_bad, o_ok, o_exc, s_next, s_ret, s_exc, s_brk, s_cont, ab_ok, tr_bl, g_0, g_s, if_t, if_f, anE_t, anE_f, orE_t, orE_f, an_t, an_f, or_t, or_f, ng_i, rg_i, ne_s, ns_s, tri_x, tri_r, tri_n, it_l, it_t, it_s, po_i, fl_n, add_i, sub_i, cw_lt, cw_le, lt_i, le_i, gt_i, ge_i, eq_i, ne_i, eq_s, ne_s', is_n, isnt_n, len_l, len_t, tn_n, tn_c, tn_b, tn_r, tn_x, List.isEmpty_nil, Bool.true_and, List.length_cons, List.length_nil, decide_true, decide_false, if_true, if_false, List.map_cons, List.map_nil, List.cons_append, List.nil_append, Nat.zero_add, Nat.reduceAdd, Nat.reduceSub, List.replicate_zero, List.replicate_succ, List.set_cons_zero, List.set_cons_succ, List.zip_nil_left, List.zip_nil_right, Bool.not_true, Bool.not_false, Bool.false_eq_true, reduceIte])
theorem dd_mets : ∀ (xs acc : List Str), xs.foldl met acc = dd acc xs
  | [], acc => rfl
  | x :: r, acc => by
    rw [List.foldl_cons]
    unfold dd
    rw [dd_mets r]
    congr 1
    unfold met
    by_cases h : x ∈ acc
    · rw [if_pos h, if_pos (List.any_eq_true.mpr ⟨x, h, by simp⟩)]
    · rw [if_neg h, if_neg fun q => ?_]
      obtain ⟨y, hy, e⟩ := List.any_eq_true.mp q
      rw [beq_iff_eq] at e
      subst e
      exact h hy
theorem strsOf_map : ∀ xs : List Str, strsOf (xs.map D.str) = some xs
  | [] => rfl
  | x :: r => by
    show (strsOf (r.map D.str)).map (x :: ·) = _
    rw [strsOf_map r]; rfl
theorem lens_strs {xs : List Str} (h : xs.length ≤ 1000) (S : Store) : lenSetM (.d (.lst (xs.map D.str))) S = .ok (.d (.int (dd [] xs).length)) S := by
  unfold lenSetM
  simp only [asD, strsOf_map]
  rw [if_pos h]
  unfold mets
  rw [dd_mets]
theorem ne_nil {ow : Own} {xs : List D} (h : ∀ x ∈ xs, Ok 60 x) (k : Bool) (S : Store) : cmpX ow k .NotEq (.d (.lst xs)) (.d (.lst [])) S = .ok (.d (.bl (!xs.isEmpty))) S := by
  rw [cx_ne S rfl, eqW_d S true (eqD_ok (Ok.lst h) (Ok.lst (n := 0) (xs := []) (fun _ h => nomatch h))), od_ok]
  cases xs <;> simp [D.py, pyL, PyData.eqv, PyData.eqvAll]
def dueD (nm : D) (refs : List D) (nul df : D) : D := match colK nm refs nul df with
  | none => .non
  | some (k, v) => .tup [.str k, .str v.py.shown, .bl true]
abbrev SpMay (ow : Own) : Prop := ∀ (v p : D) (b : Bool) (S : Store), WF S → FitL ow v → ow.fn ("_law_may_link" : Str) [.d v, .d (.bl b), .d p] [] S = .ok (.d (.bl (isLink (colActs b (hasD p)) v))) S
theorem find_filter {α : Type} (p : α → Bool) : ∀ xs : List α, xs.find? p = (xs.filter p).head?
  | [] => rfl
  | x :: r => by
    rw [List.find?_cons, List.filter_cons]
    cases p x
    · simpa using find_filter p r
    · rfl
theorem sp_due {ow : Own} (hb : isaB ow "bool" = true) (hi : isaB ow "int" = true) (hw : SpWord ow) (hm : SpMay ow) {nm nul df : D} {refs : List D} {S : Store} (hS : WF S) (k1 : Fit ow nm) (k2 : Kn ow nul) (k3 : Kn ow df) (k4 : ∀ x ∈ refs, FitL ow x) (k5 : refs.length ≤ 5) (k6 : ∀ x ∈ refs, Ok 60 x)
    (shn : Shw nm) (shl : ∀ x ∈ refs, Shw x) :
    evF ow f__law_due [.d nm, .d (.lst refs), .d nul, .d df] [] S = .ok (.d (dueD nm refs nul df)) S := by
  have t3 : ∀ (a b c : D) (S : Store), tupOf [.d a, .d b, .d c] S = .ok (.d (.tup [a, b, c])) S := fun _ _ _ _ => rfl
  unfold f__law_due
  walk_at "ev"
  rw [hw nm S hS k1]
  unfold dueD
  unfold colK
  cases hnm : isName nm with
  | false =>
    walk_at "ev"
    rw [repr_d shn]
    walk_at "ev"
    rw [t3]
    walk_at "ev"
    exact fin_d hS false _
  | true =>
    obtain ⟨s, rfl⟩ : ∃ s, nm = .str s := by cases nm <;> first | exact ⟨_, rfl⟩ | cases hnm
    walk_at "ev"
    rw [show isStrD ("id" : Str) (.str s) = decide (s = ("id" : Str)) from rfl]
    cases hid : decide (s = ("id" : Str)) with
    | true =>
      walk_at "ev"
      rw [repr_d shn]
      walk_at "ev"
      rw [t3]
      walk_at "ev"
      exact fin_d hS false _
    | false =>
      walk_at "ev"
      rw [isi_b hi S k3]
      have whole : (fAndE (evE ow (.no (.isi [(.b "bool")] (.nm 3))) [some (.d (.str s)), some (.d (.lst refs)), some (.d nul), some (.d df), none, none, none, none, none, none]) (.d (.bl (isT "int" df))) S) = .ok (.d (.bl (isInt df))) S := by
        unfold isInt
        cases isT "int" df
        · rfl
        · walk_at "ev"
          rw [isi_b hb S k3]
          walk_at "ev"
      walk_at "ev"
      rw [whole]
      walk_at "ev"
      rw [isi_b hb S k2]
      cases hbl : isT "bool" nul with
      | false =>
        walk_at "ev"
        rw [repr_d shn]
        walk_at "ev"
        rw [t3]
        walk_at "ev"
        exact fin_d hS false _
      | true =>
        obtain ⟨b, rfl⟩ : ∃ b, nul = .bl b := by cases nul <;> first | exact ⟨_, rfl⟩ | cases hbl
        walk_at "ev"
        have rest : ∀ w4 : Option W, finM false S.length (evSs ow (.cons (.set 5 (.comp false (.nm 7) [7] (.it (.nm 1)) (.no (.tru (.call ("_law_may_link" : Str) (.cons (.nm 7) (.cons (.nm 2) (.cons (.nm 3) .nil))) [] .nil))) (.nm 7))) (.cons (.ife (.cmp true .NotEq (.nm 5) (.lst .nil)) (.cons (.ret (.tup (.cons (.cst (.str ("action" : Str))) (.cons (.rpr (.cons (.ix (.nm 5) (.cst (.int 0))) .nil)) (.cons (.cst (.bl true)) .nil))))) .nil) .nil) (.cons (.set 6 (.comp false (.tup [8, 9]) [8, 9] (.it (.nm 1)) .yes (.nm 8))) (.cons (.ret (.ife (.or (.cmp true .Gt (.bi true "len" (.cons (.nm 6) .nil)) (.cst (.int 4))) (.cmp true .Lt (.lens (.nm 6)) (.bi true "len" (.cons (.nm 6) .nil)))) (.tup (.cons (.cst (.str ("column" : Str))) (.cons (.rpr (.cons (.nm 0) .nil)) (.cons (.cst (.bl true)) .nil)))) (.cst .non))) .nil))))
            [some (.d (.str s)), some (.d (.lst refs)), some (.d (.bl b)), some (.d df), w4, none, none, none, none, none] S) =
            .ok (.d (match (match badLink (colActs b (hasD df)) refs with
              | some x => some (("action" : Str), x)
              | none => if twins (refs.map aim) || decide (4 < refs.length) then some (("column" : Str), .str s) else none : Option (Str × D)) with
              | none => D.non
              | some (k, v) => .tup [.str k, .str v.py.shown, .bl true])) S := by
          intro w4
          walk_at "ev"
          rw [comp_filter (fun x => !isLink (colActs b (hasD df)) x) id hS (by omega) (fun x hx => by
            refine ⟨_, fun _ => rfl, fun ac => ⟨?_, fun _ => rfl⟩⟩
            have wf : WF (tmpS S ac) := wf_app hS (pure_below _ _)
            simp only [wipeM, List.set_cons_zero, List.set_cons_succ]
            walk_at "ev"
            rw [hm x df b _ wf (k4 x hx)]
            walk_at "ev")]
          rw [List.map_id]
          walk_at "ev"
          rw [show lstOf [] S = .ok (.d (.lst [])) S from rfl]
          walk_at "ev"
          rw [ne_nil (fun x hx => k6 x ((List.mem_filter.mp hx).1))]
          unfold badLink
          rw [find_filter]
          cases hf : refs.filter (fun x => !isLink (colActs b (hasD df)) x) with
          | cons x r =>
            have hx : x ∈ refs := (List.mem_filter.mp (hf ▸ List.mem_cons_self ..)).1
            rw [show ((x :: r).isEmpty) = false from rfl]
            walk_at "ev"
            rw [ix_lst (i := 0) (x := x) (atN 0 rfl rfl)]
            walk_at "ev"
            rw [repr_d (shl x hx)]
            walk_at "ev"
            rw [t3]
            walk_at "ev"
            exact fin_d hS false _
          | nil =>
            have good : ∀ x ∈ refs, isLink (colActs b (hasD df)) x = true := fun x hx => by
              cases h : isLink (colActs b (hasD df)) x with
              | true => rfl
              | false =>
                have : x ∈ refs.filter (fun x => !isLink (colActs b (hasD df)) x) := List.mem_filter.mpr ⟨hx, by rw [h]; rfl⟩
                rw [hf] at this
                cases this
            rw [show (([] : List D).isEmpty) = true from rfl]
            walk_at "ev"
            rw [comp_map fst2 hS (by omega) (fun x hx => by
              obtain ⟨t, a, rfl, _, _⟩ := link_form (good x hx)
              exact ⟨_, fun _ => rfl, fun ac => ⟨rfl, rfl⟩⟩)]
            walk_at "ev"
            rw [aims_eq good]
            rw [show decide ((4 : Int) < ((List.map D.str (List.map aim refs)).length : Int)) = decide (4 < refs.length) from decide_eq_decide.mpr (by simp; omega)]
            show _ = R.ok (W.d (match (if (twins (refs.map aim) || decide (4 < refs.length)) = true then some (("column" : Str), D.str s) else none : Option (Str × D)) with | none => D.non | some (k, v) => .tup [.str k, .str v.py.shown, .bl true])) S
            cases h4 : decide (4 < refs.length) with
            | true =>
              walk_at "ev"
              rw [repr_d shn]
              walk_at "ev"
              rw [t3]
              walk_at "ev"
              rw [Bool.or_true]
              exact fin_d hS false _
            | false =>
              walk_at "ev"
              rw [lens_strs (by simp; omega)]
              walk_at "ev"
              rw [show decide (((dd [] (refs.map aim)).length : Int) < ((List.map D.str (List.map aim refs)).length : Int)) = twins (refs.map aim) from decide_eq_decide.mpr (by simp)]
              cases htw : twins (refs.map aim) with
              | true =>
                walk_at "ev"
                rw [repr_d shn]
                walk_at "ev"
                rw [t3]
                walk_at "ev"
                exact fin_d hS false _
              | false =>
                walk_at "ev"
                exact fin_d hS false _
        cases hdf : hasD df with
        | false =>
          obtain rfl : df = .non := by cases df <;> first | rfl | cases hdf
          rw [hdf] at rest
          exact rest _
        | true =>
          rw [show isNonB (W.d df) = false from by cases df <;> first | rfl | cases hdf]
          walk_at "ev"
          rw [hdf] at rest
          cases hin : isInt df with
          | false =>
            walk_at "ev"
            rw [repr_d shn]
            walk_at "ev"
            rw [t3]
            walk_at "ev"
            exact fin_d hS false _
          | true =>
            walk_at "ev"
            exact rest _
end K01

namespace K01
open PySem Mi Pr Dr
local macro_rules | `(tactic| walk_at "ev") => `(tactic| simp only [evF, bndPlain, startI, eE_nm, eE_cst, eE_bin, eE_no, eE_neg, eE_cmp, eE_chain, eE_and, eE_or, eE_ife, eE_ix, eE_sl, eE_tup, eE_lst, eE_box, eE_comp, eE_call, eE_isi, eE_bi, eE_lens, eE_rpr, eE_ty, eE_bty, eE_mt, eE_lm, eE_fld, eT_no, eT_and, eT_or, eT_cmp, eT_chain, eT_tru, eT_yes, eA_nil, eA_cons, eO_non, eO_som, eI_rng, eI_it, eS_expr, eS_set, eS_asg, eS_par, eS_putix, eS_putf, eS_ret, eS_ret0, eS_pass, eS_brk, eS_cont, eS_ife, eS_loop, eS_whil, eS_raise, eS_tri, eSs_nil, eSs_cons, fBin, fNo, fCmp, fCh1, fCh2, ch_t, ch_f, fIx, fSl, fSl2, fCall, fCall2, fMt, fMt2, fCons, fCons2, fNot, fRng1, kNext, kSet, kAsg, kPar, kPut, kPut2, kPut3, kFld, kFld2, kRet, kFor, fComp, asEnv, tgW, asgIs, putAllM, b_ok, b_exc, b_bad, o_ok, o_exc, s_next, s_ret, s_exc, s_brk, s_cont, ab_ok, tr_bl, g_0, g_s, if_t, if_f, anE_t, anE_f, orE_t, orE_f, an_t, an_f, or_t, or_f, ng_i, rg_i, ne_s, ns_s, tri_x, tri_r, tri_n, it_l, it_t, it_s, po_i, fl_n, add_i, sub_i, cw_lt, cw_le, lt_i, le_i, gt_i, ge_i, eq_i, ne_i, eq_s, ne_s', is_n, isnt_n, len_l, len_t, tn_n, tn_c, tn_b, tn_r, tn_x, l_0, t_0, l_1, t_1, l_2, t_2, l_3, t_3, l_4, t_4, l_5, t_5, l_6, t_6, l_7, t_7, l_8, t_8, l_9, l_10, l_11, l_12, l_13, l_14, l_15, l_16, l_17, l_18, l_19, bx_0, sl_l, sl_t, List.isEmpty_nil, Bool.true_and, List.length_cons, List.length_nil, decide_true, decide_false, eq_self, Int.reduceEq, Int.reduceAdd, Int.reduceSub, Int.reduceLT, Int.reduceLE, if_true, if_false, List.map_cons, List.map_nil, List.cons_append, List.nil_append, Nat.zero_add, Nat.reduceAdd, Nat.reduceSub, List.replicate_zero, List.replicate_succ, List.set_cons_zero, List.set_cons_succ, List.zip_nil_left, List.zip_nil_right, Bool.not_true, Bool.not_false, Bool.false_eq_true, reduceIte])
/-! what is drawn is harmless -/
def shortB : D → Bool
  | .str s => decide (s.length ≤ 100000)
  | _ => true
def goodB (v : D) : Bool := v.noIns && shortB v && gdB 50 200 v
def partsB : D → Bool
  | .tup xs => xs.all fun x => x.noIns && shortB x
  | _ => true
def goodL (v : D) : Bool := goodB v && partsB v && hasD v
theorem noIns_kn {ow : Own} {v : D} (h : v.noIns = true) : Kn ow v := fun c fs e => by subst e; cases h
theorem fit_of {ow : Own} {v : D} (h1 : v.noIns = true) (h2 : shortB v = true) : Fit ow v := ⟨noIns_kn h1, fun s e => by subst e; exact of_decide_eq_true h2⟩
structure Good (ow : Own) (v : D) : Prop where
  f : Fit ow v
  g : Gd 50 200 v
theorem Good.o {ow : Own} {v : D} (h : Good ow v) : Ok 60 v := h.g.ok.mono (by decide)
theorem Good.s {ow : Own} {v : D} (h : Good ow v) : Shw v := h.g.shw
theorem good_of {ow : Own} {v : D} (h : goodB v = true) : Good ow v := by
  unfold goodB at h
  simp only [Bool.and_eq_true] at h
  obtain ⟨⟨h1, h2⟩, h3⟩ := h
  exact ⟨fit_of h1 h2, gd_of h3⟩
structure GoodL (ow : Own) (v : D) : Prop where
  g : Good ow v
  l : FitL ow v
  d : hasD v = true
theorem goodL_of {ow : Own} {v : D} (h : goodL v = true) : GoodL ow v := by
  unfold goodL at h
  simp only [Bool.and_eq_true] at h
  obtain ⟨⟨h1, h2⟩, h3⟩ := h
  refine ⟨good_of h1, ⟨(good_of h1).f.k, fun xs e x hx => ?_⟩, h3⟩
  subst e
  have := List.all_eq_true.mp h2 x hx
  rw [Bool.and_eq_true] at this
  exact fit_of this.1 this.2
theorem good_mem {ow : Own} {ds : List D} {x : D} (h : ds.all goodB = true) (hx : x ∈ ds) : Good ow x := good_of (List.all_eq_true.mp h x hx)
theorem goodL_mem {ow : Own} {ds : List D} {x : D} (h : ds.all goodL = true) (hx : x ∈ ds) : GoodL ow x := goodL_of (List.all_eq_true.mp h x hx)
structure Bent (ow : Own) (x : D) : Prop where
  e : ∃ t L n d, x = .tup [t, .lst L, n, d] ∧ Good ow t ∧ (∀ y ∈ L, GoodL ow y) ∧ L.length ≤ 5 ∧ Good ow n ∧ Good ow d
def bTitles : List D := [.str ("id" : Str), .str ("id" : Str), .str ("self" : Str), .str ("row" : Str), .str ("" : Str), .str ("A" : Str), .str ("abcdefghi" : Str), .str ("a1" : Str), .str ("x y" : Str), .int 5, .bl true, .tup [.str ("x" : Str)], .lst [.str ("x" : Str)]]
def bOpens (b : Bool) : List D := [.int 1, .int 0, .str ("" : Str), .non, .bl !b, .bl !b]
def bPresets : List D := [.bl true, .bl false, .str ("0" : Str), .tup [.int 1], .non, .int 7, .int (-(10 ^ (39 : Int).toNat))]
def bOdd : List D := [.tup [.str ("a" : Str), .str ("Cascade" : Str)], .tup [.str ("a" : Str), .non], .tup [.str ("A" : Str), .str ("cascade" : Str)], .lst [.str ("a" : Str), .str ("cascade" : Str)], .tup [.str ("a" : Str)], .tup [.str ("a" : Str), .str ("cascade" : Str), .int 0], .str ("a" : Str), .int 0]
def bOdd2 : List D := [.tup [.str ("e" : Str), .str ("set_null" : Str)], .tup [.str ("e" : Str), .str ("set_default" : Str)]]
def bFive : List Str := [("a" : Str), ("b" : Str), ("c" : Str), ("d" : Str), ("e" : Str)]
abbrev SpBent (F : List W → List (Str × W) → Store → R W) (ow : Own) : Prop := ∀ (S : Store) (i n : Nat) (c : Cell) (t p : D) (b : Bool) (L : List D), WF S → S[i]? = some c → Bag n c → n + 3 ≤ 1000000000 → Good ow t → (∀ y ∈ L, GoodL ow y) → L.length ≤ 4 → Good ow p →
  ∃ (x : D) (c' : Cell), F [.o i, .d (.tup [t, .lst L, .bl b, p])] [] S = .ok (.d x) (S.set i c') ∧ Bent ow x ∧ Bag (n + 3) c'
theorem sp_bent {ow : Own} (ht : SpTake (ow.fn ("_law_take" : Str))) (hof : SpOf (ow.fn ("_law_of" : Str))) : SpBent (evF ow f__law_bent) ow := by
  intro S i n c t p b L hS hc hb hn gt gL hL gp
  obtain ⟨r, c1, e1, r0, r1, b1⟩ := ht S i n c 6 hS hc hb (by omega) (by decide) (by decide)
  have hS1 := wf_set (i := i) hS (b1.below (m := S.length))
  have hc1 : (S.set i c1)[i]? = some c1 := at_set hc
  unfold f__law_bent
  walk_at "ev"
  rw [e1]
  have gb : Good ow (.bl b) := by cases b <;> exact good_of (by decide +kernel)
  have draw : ∀ (ds : List D), ds ≠ [] → ds.length < 1000000 → ∃ (x : D) (c' : Cell), ow.fn ("_law_of" : Str) [.o i, .d (.lst ds)] [] (S.set i c1) = .ok (.d x) (S.set i c') ∧ x ∈ ds ∧ Bag (n + 2) c' := fun ds h1 h2 => by
    obtain ⟨x, c2, e, hx, b2⟩ := hof (S.set i c1) i (n + 1) c1 ds hS1 hc1 b1 (by omega) h1 h2
    rw [set2] at e
    exact ⟨x, c2, e, hx, b2⟩
  have c5 : ∀ L : List D, L.length ≤ 5 → cutG L none (some 5) = L := fun L h => by
    rw [show (5 : Int) = ((5 : Nat) : Int) from rfl, cut_to, List.take_of_length_le h]
  have fin : ∀ (c2 : Cell) (t2 n2 d2 : D) (L2 : List D), Bag (n + 3) c2 → Good ow t2 → (∀ y ∈ L2, GoodL ow y) → L2.length ≤ 5 → Good ow n2 → Good ow d2 →
      ∃ (x : D) (c' : Cell), finM false S.length (.ret (.d (.tup [t2, .lst (cutG L2 none (some 5)), n2, d2])) (S.set i c2)) = .ok (.d x) (S.set i c') ∧ Bent ow x ∧ Bag (n + 3) c' := fun c2 t2 n2 d2 L2 hb2 g1 g2 g3 g4 g5 =>
    ⟨_, c2, fin_dL (by simp) (wf_set hS hb2.below) false _, ⟨t2, L2, n2, d2, by rw [c5 L2 g3], g1, g2, g3, g4, g5⟩, hb2⟩
  have cases6 : r = 0 ∨ r = 1 ∨ r = 2 ∨ r = 3 ∨ r = 4 ∨ r = 5 := by omega
  rcases cases6 with rfl | rfl | rfl | rfl | rfl | rfl
  · walk_at "ev"
    obtain ⟨x, c2, e2, hx, b2⟩ := draw bTitles (by simp [bTitles]) (by simp [bTitles])
    have g := good_mem (ow := ow) (by decide +kernel) hx
    unfold bTitles at e2
    rw [e2]
    walk_at "ev"
    exact fin c2 x (.bl b) p L (b2.mono (by omega)) g gL (by omega) gb gp
  · walk_at "ev"
    obtain ⟨x, c2, e2, hx, b2⟩ := draw (bOpens b) (by simp [bOpens]) (by simp [bOpens])
    have g := good_mem (ow := ow) (by cases b <;> decide +kernel) hx
    unfold bOpens at e2
    rw [e2]
    walk_at "ev"
    exact fin c2 t x p L (b2.mono (by omega)) gt gL (by omega) g gp
  · walk_at "ev"
    rw [pow_i _ 10 39 (by decide)]
    walk_at "ev"
    obtain ⟨x, c2, e2, hx, b2⟩ := draw bPresets (by simp [bPresets]) (by simp [bPresets])
    have g := good_mem (ow := ow) (by decide +kernel) hx
    unfold bPresets at e2
    rw [e2]
    walk_at "ev"
    exact fin c2 t (.bl b) x L (b2.mono (by omega)) gt gL (by omega) gb g
  · walk_at "ev"
    rw [show [D.tup [D.str ("a" : Str), D.str ("Cascade" : Str)], D.tup [D.str ("a" : Str), D.non], D.tup [D.str ("A" : Str), D.str ("cascade" : Str)], D.lst [D.str ("a" : Str), D.str ("cascade" : Str)], D.tup [D.str ("a" : Str)], D.tup [D.str ("a" : Str), D.str ("cascade" : Str), D.int 0], D.str ("a" : Str), D.int 0] = bOdd from rfl]
    obtain ⟨k, c2, e2, k0, k1, b2⟩ := ht (S.set i c1) i (n + 1) c1 (L.length + 1) hS1 hc1 b1 (by omega) (by omega) (by omega)
    rw [e2, set2]
    walk_at "ev"
    rw [show [D.tup [D.str ("e" : Str), D.str ("set_null" : Str)], D.tup [D.str ("e" : Str), D.str ("set_default" : Str)]] = bOdd2 from rfl, add_ll (by decide)]
    walk_at "ev"
    obtain ⟨x, c3, e3, hx, b3⟩ := hof (S.set i c2) i (n + 2) c2 (bOdd ++ bOdd2) (wf_set hS b2.below) (at_set hc) b2 (by omega) (by simp [bOdd]) (by simp [bOdd, bOdd2])
    have g := goodL_mem (ow := ow) (by decide +kernel) hx
    rw [e3, set2]
    have hk : k = ((k.toNat : Nat) : Int) := by omega
    rw [hk]
    walk_at "ev"
    rw [cut_to, add_ll (by simp; omega)]
    walk_at "ev"
    rw [cut_from, add_ll (by simp; omega)]
    walk_at "ev"
    refine fin c3 t (.bl b) p _ b3 gt (fun y hy => ?_) (by simp; omega) gb gp
    rcases List.mem_append.mp hy with hy | hy
    · rcases List.mem_append.mp hy with hy | hy
      · exact gL y (List.mem_of_mem_take hy)
      · rw [List.mem_singleton] at hy
        subst hy
        exact g
    · exact gL y (List.mem_of_mem_drop hy)
  · walk_at "ev"
    rw [show [W.d (D.str ("a" : Str)), W.d (D.str ("b" : Str)), W.d (D.str ("c" : Str)), W.d (D.str ("d" : Str)), W.d (D.str ("e" : Str))] = (bFive.map D.str).map W.d from rfl]
    rw [comp_map (fun x => .tup [x, .str ("restrict" : Str)]) hS1 (by decide) (fun x hx => ⟨_, fun _ => rfl, fun ac => ⟨rfl, rfl⟩⟩)]
    have hk : (5 : Int) - (L.length : Int) = ((5 - L.length : Nat) : Int) := by omega
    walk_at "ev"
    rw [hk, cut_to, add_ll (by simp; omega)]
    walk_at "ev"
    refine fin c1 t (.bl b) p _ (b1.mono (by omega)) gt (fun y hy => ?_) (by simp; omega) gb gp
    rcases List.mem_append.mp hy with hy | hy
    · exact gL y hy
    · exact goodL_mem (ds := (bFive.map D.str).map fun x => .tup [x, .str ("restrict" : Str)]) (by decide +kernel) (List.mem_of_mem_take hy)
  · walk_at "ev"
    exact fin c1 t (.bl b) p L (b1.mono (by omega)) gt gL (by omega) gb gp
end K01

namespace K01
open PySem Mi Pr Dr
local macro_rules | `(tactic| walk_at "ev") => `(tactic| simp only [evF, bndPlain, startI, eE_nm, eE_cst, eE_bin, eE_no, eE_neg, eE_cmp, eE_chain, eE_and, eE_or, eE_ife, eE_ix, eE_sl, eE_tup, eE_lst, eE_box, eE_comp, eE_call, eE_isi, eE_bi, eE_lens, eE_rpr, eE_ty, eE_bty, eE_mt, eE_lm, eE_fld, eT_no, eT_and, eT_or, eT_cmp, eT_chain, eT_tru, eT_yes, eA_nil, eA_cons, eO_non, eO_som, eI_rng, eI_it, eS_expr, eS_set, eS_asg, eS_par, eS_putix, eS_putf, eS_ret, eS_ret0, eS_pass, eS_brk, eS_cont, eS_ife, eS_loop, eS_whil, eS_raise, eS_tri, eSs_nil, eSs_cons, fBin, fNo, fCmp, fCh1, fCh2, ch_t, ch_f, fIx, fSl, fSl2, fCall, fCall2, fMt, fMt2, fCons, fCons2, fNot, fRng1, kNext, kSet, kAsg, kPar, kPut, kPut2, kPut3, kFld, kFld2, kRet, kFor, fComp, asEnv, tgW, asgIs, putAllM, b_ok, b_exc, b_bad, o_ok, o_exc, s_next, s_ret, s_exc, s_brk, s_cont, ab_ok, tr_bl, g_0, g_s, if_t, if_f, anE_t, anE_f, orE_t, orE_f, an_t, an_f, or_t, or_f, ng_i, rg_i, ne_s, ns_s, tri_x, tri_r, tri_n, it_l, it_t, it_s, po_i, fl_n, add_i, sub_i, cw_lt, cw_le, lt_i, le_i, gt_i, ge_i, eq_i, ne_i, eq_s, ne_s', is_n, isnt_n, len_l, len_t, tn_n, tn_c, tn_b, tn_r, tn_x, l_0, t_0, l_1, t_1, l_2, t_2, l_3, t_3, l_4, t_4, l_5, t_5, l_6, t_6, l_7, t_7, l_8, t_8, l_9, l_10, l_11, l_12, l_13, l_14, l_15, l_16, l_17, l_18, l_19, bx_0, sl_l, sl_t, List.isEmpty_nil, Bool.true_and, List.length_cons, List.length_nil, decide_true, decide_false, eq_self, Int.reduceEq, Int.reduceAdd, Int.reduceSub, Int.reduceLT, Int.reduceLE, if_true, if_false, List.map_cons, List.map_nil, List.cons_append, List.nil_append, Nat.zero_add, Nat.reduceAdd, Nat.reduceSub, List.replicate_zero, List.replicate_succ, List.set_cons_zero, List.set_cons_succ, List.zip_nil_left, List.zip_nil_right, Bool.not_true, Bool.not_false, Bool.false_eq_true, reduceIte])
abbrev SpOut (ow : Own) : Prop := ∀ (nm nul df : D) (refs : List D) (S : Store), WF S → noxS S = true → Good ow nm → Good ow nul → Good ow df → (∀ x ∈ refs, GoodL ow x) → refs.length ≤ 5 → ow.fn ("_law_outcome" : Str) [.d nm, .d (.lst refs), .d nul, .d df] [] S = .ok (.d (outD nm refs nul df)) S
abbrev SpDue (ow : Own) : Prop := ∀ (nm nul df : D) (refs : List D) (S : Store), WF S → Good ow nm → Good ow nul → Good ow df → (∀ x ∈ refs, GoodL ow x) → refs.length ≤ 5 → ow.fn ("_law_due" : Str) [.d nm, .d (.lst refs), .d nul, .d df] [] S = .ok (.d (dueD nm refs nul df)) S
abbrev SpColEq (ow : Own) : Prop := ∀ (nm lk nul df y : D) (S : Store), WF S → Kn ow y → (isC nCol y = true → ∃ nm' lk' nul' df' b, y = colD nm' lk' nul' df' ∧ eqD (.tup [nm, lk, nul, df]) (.tup [nm', lk', nul', df']) = some b) →
    ∃ b, ow.mt nCol ("__eq__" : Str) [.d (colD nm lk nul df), .d y] [] S = .ok (.d (.bl b)) S ∧ (isC nCol y = false → b = false) ∧ ∀ nm' lk' nul' df' b', y = colD nm' lk' nul' df' → eqD (.tup [nm, lk, nul, df]) (.tup [nm', lk', nul', df']) = some b' → b = b'
structure NfT (ow : Own) : Prop where
  c : ow.nf nCol (.c nCol) = true
  l : ow.nf nCol (.b "list") = true
  t : ow.nf nCol (.b "tuple") = true
theorem col_mtOwn {ow : Own} (T : ColT ow) (a b c d : D) (S : Store) : mtOwn ow ("__eq__" : Str) (.d (colD a b c d)) S = some nCol := by
  unfold mtOwn
  rw [show fieldsOf S (.d (colD a b c d)) = some (nCol, colW a b c d) from rfl]
  simp only [T.m2, (col_look a b c d).2.2.2.2.2]
  rfl
theorem cmp_col {ow : Own} (T : ColT ow) {a b c d y : D} {S : Store} {k : Kd} (hy : tyW ow S (.d y) = some k) (hn : ow.nf nCol k = true) {r : Bool} (h : ow.mt nCol ("__eq__" : Str) [.d (colD a b c d), .d y] [] S = .ok (.d (.bl r)) S) :
    cmpX ow true .Eq (.d (colD a b c d)) (.d y) S = .ok (.d (.bl r)) S ∧ cmpX ow true .NotEq (.d (colD a b c d)) (.d y) S = .ok (.d (.bl !r)) S := by
  have m := col_mtOwn T a b c d S
  constructor
  · show orDeep ow true false (.d (colD a b c d)) (.d y) S (match mtOwn ow ("__eq__" : Str) (.d (colD a b c d)) S with
      | some cn => (match true, tyW ow S (.d y) with
        | true, some k => if ow.nf cn k then eqR false (ow.mt cn "__eq__" [.d (colD a b c d), .d y] [] S) else .bad
        | _, _ => .bad)
      | none => cmpW .Eq (.d (colD a b c d)) (.d y) S) = _
    rw [m, hy]
    simp only [hn, if_true]
    rw [h]
    rfl
  · show orDeep ow true true (.d (colD a b c d)) (.d y) S (match mtOwn ow ("__eq__" : Str) (.d (colD a b c d)) S with
      | some cn => (match true, tyW ow S (.d y) with
        | true, some k => if ow.nf cn k && ow.ins.contains cn then eqR true (ow.mt cn "__eq__" [.d (colD a b c d), .d y] [] S) else .bad
        | _, _ => .bad)
      | none => cmpW .NotEq (.d (colD a b c d)) (.d y) S) = _
    rw [m, hy]
    simp only [hn, List.contains_iff_mem.mpr T.is, Bool.and_self, if_true]
    rw [h]
    rfl
/-- a column that can be -/
structure ColOk (nm : D) (refs : List D) (nul df : D) : Prop where
  e : ∃ s b, nm = .str s ∧ nul = .bl b ∧ isNameS s = true ∧ (df = .non ∨ ∃ i, df = .int i) ∧ ∀ x ∈ refs, ∃ n a, x = .tup [.str n, .str a]
theorem col_ok {nm nul df : D} {refs : List D} (h : colK nm refs nul df = none) : ColOk nm refs nul df := by
  unfold colK at h
  split at h
  · cases h
  rename_i h1
  split at h
  · cases h
  rename_i h2
  simp only [Bool.or_eq_true, Bool.not_eq_true', not_or, Bool.not_eq_false, Bool.and_eq_true, not_and, Bool.not_eq_true] at h1 h2
  obtain ⟨s, rfl⟩ : ∃ s, nm = .str s := by cases nm <;> first | exact ⟨_, rfl⟩ | (cases h1.1; done)
  obtain ⟨b, rfl⟩ : ∃ b, nul = .bl b := by cases nul <;> first | exact ⟨_, rfl⟩ | (cases h2.1; done)
  have hdf : df = .non ∨ ∃ i, df = .int i := by
    cases df <;> first | exact .inl rfl | exact .inr ⟨_, rfl⟩ | (cases h2.2 rfl; done)
  refine ⟨s, b, rfl, rfl, h1.1, hdf, fun x hx => ?_⟩
  split at h
  · cases h
  · rename_i hb
    obtain ⟨n, a, e, _⟩ := link_form (good_links hb x hx)
    exact ⟨n, a, e⟩
theorem links_nb : ∀ {refs : List D}, (∀ x ∈ refs, ∃ n a, x = D.tup [.str n, .str a]) → D.nb.nbL refs = true
  | [], _ => by simp [D.nb.nbL]
  | x :: r, h => by
    obtain ⟨n, a, rfl⟩ := h x (List.mem_cons_self ..)
    simp only [D.nb.nbL, links_nb fun y hy => h y (List.mem_cons_of_mem _ hy), D.nb, Bool.and_self]
/-- == of two columns that can be tells whether all is the same -/
theorem col_same {nm nul df nm' nul' df' : D} {refs refs' : List D} (h : ColOk nm refs nul df) (h' : ColOk nm' refs' nul' df') :
    PyData.eqv (D.tup [nm, .tup refs, nul, df]).py (D.tup [nm', .tup refs', nul', df']).py = true ↔ nm = nm' ∧ refs = refs' ∧ nul = nul' ∧ df = df' := by
  obtain ⟨s, b, rfl, rfl, _, hd, hl⟩ := h.e
  obtain ⟨s', b', rfl, rfl, _, hd', hl'⟩ := h'.e
  have e1 : PyData.eqv (D.tup refs).py (D.tup refs').py = true ↔ D.tup refs = D.tup refs' := eqv_nb (by simpa [D.nb] using links_nb hl) (by simpa [D.nb] using links_nb hl')
  have nb : ∀ {d : D}, d = .non ∨ (∃ i, d = .int i) → d.nb = true := fun {d} h => by
    rcases h with rfl | ⟨i, rfl⟩ <;> simp [D.nb]
  have e2 := eqv_nb (nb hd) (nb hd')
  have e3 : PyData.eqv (D.str s).py (D.str s').py = true ↔ D.str s = D.str s' := eqv_nb (by simp [D.nb]) (by simp [D.nb])
  have e4 : PyData.eqv (D.bl b).py (D.bl b').py = true ↔ b = b' := by simp [D.py, PyData.eqv]
  have e0 : PyData.eqv (D.tup [D.str s, .tup refs, D.bl b, df]).py (D.tup [D.str s', .tup refs', D.bl b', df']).py = (PyData.eqv (D.str s).py (D.str s').py && (PyData.eqv (D.tup refs).py (D.tup refs').py && (PyData.eqv (D.bl b).py (D.bl b').py && (PyData.eqv df.py df'.py && true)))) := by
    rw [show (D.tup [D.str s, .tup refs, D.bl b, df]).py = PyData.tuple [(D.str s).py, (D.tup refs).py, (D.bl b).py, df.py] from by simp only [D.py, pyL], show (D.tup [D.str s', .tup refs', D.bl b', df']).py = PyData.tuple [(D.str s').py, (D.tup refs').py, (D.bl b').py, df'.py] from by simp only [D.py, pyL]]
    simp only [PyData.eqv, PyData.eqvAll]
  rw [e0]
  simp only [Bool.and_eq_true, Bool.and_true]
  rw [e1, e2, e3, e4]
  simp
end K01

namespace K01
open PySem Mi Pr Dr
local macro_rules | `(tactic| walk_at "ev") => `(tactic| simp only [evF, bndPlain, startI, eE_nm, eE_cst, eE_bin, eE_no, eE_neg, eE_cmp, eE_chain, eE_and, eE_or, eE_ife, eE_ix, eE_sl, eE_tup, eE_lst, eE_box, eE_comp, eE_call, eE_isi, eE_bi, eE_lens, eE_rpr, eE_ty, eE_bty, eE_mt, eE_lm, eE_fld, eT_no, eT_and, eT_or, eT_cmp, eT_chain, eT_tru, eT_yes, eA_nil, eA_cons, eO_non, eO_som, eI_rng, eI_it, eS_expr, eS_set, eS_asg, eS_par, eS_putix, eS_putf, eS_ret, eS_ret0, eS_pass, eS_brk, eS_cont, eS_ife, eS_loop, eS_whil, eS_raise, eS_tri, eSs_nil, eSs_cons, fBin, fNo, fCmp, fCh1, fCh2, ch_t, ch_f, fIx, fSl, fSl2, fCall, fCall2, fMt, fMt2, fCons, fCons2, fNot, fRng1, kNext, kSet, kAsg, kPar, kPut, kPut2, kPut3, kFld, kFld2, kRet, kFor, fComp, asEnv, tgW, asgIs, putAllM, b_ok, b_exc, b_bad, o_ok, o_exc, s_next, s_ret, s_exc, s_brk, s_cont, ab_ok, tr_bl, g_0, g_s, if_t, if_f, anE_t, anE_f, orE_t, orE_f, an_t, an_f, or_t, or_f, ng_i, rg_i, ne_s, ns_s, tri_x, tri_r, tri_n, it_l, it_t, it_s, po_i, fl_n, add_i, sub_i, cw_lt, cw_le, lt_i, le_i, gt_i, ge_i, eq_i, ne_i, eq_s, ne_s', is_n, isnt_n, len_l, len_t, tn_n, tn_c, tn_b, tn_r, tn_x, l_0, t_0, l_1, t_1, l_2, t_2, l_3, t_3, l_4, t_4, l_5, t_5, l_6, t_6, l_7, t_7, l_8, t_8, l_9, l_10, l_11, l_12, l_13, l_14, l_15, l_16, l_17, l_18, l_19, bx_0, sl_l, sl_t, List.isEmpty_nil, Bool.true_and, List.length_cons, List.length_nil, decide_true, decide_false, eq_self, Int.reduceEq, Int.reduceAdd, Int.reduceSub, Int.reduceLT, Int.reduceLE, if_true, if_false, List.map_cons, List.map_nil, List.cons_append, List.nil_append, Nat.zero_add, Nat.reduceAdd, Nat.reduceSub, List.replicate_zero, List.replicate_succ, List.set_cons_zero, List.set_cons_succ, List.zip_nil_left, List.zip_nil_right, Bool.not_true, Bool.not_false, Bool.false_eq_true, reduceIte])
abbrev n4 : List Str := [("a" : Str), ("b" : Str), ("c" : Str), ("d" : Str)]
abbrev t4 : List D := [.str ("x" : Str), .str ("abcdefgh" : Str), .str ("table" : Str), .str ("self" : Str)]
theorem draw_sub5 (b d : Bool) : ∀ a ∈ drawActs b d, a ∈ acts5 := by
  cases b <;> cases d <;> decide +kernel
theorem linkB : (n4.all fun n => acts5.all fun a => goodL (linkD (n, a)) && isNameS n) = true := by decide +kernel
theorem drawn_good {ow : Own} {b d : Bool} {left : List Str} {ls : List (Str × Str)} {room : Int} (h : LkInv n4 (drawActs b d) room 4 left ls) : ∀ x ∈ ls.map linkD, GoodL ow x := by
  intro x hx
  obtain ⟨⟨n, a⟩, hp, rfl⟩ := List.mem_map.mp hx
  have hn : n ∈ n4 := h.p.subset (List.mem_append_left _ (List.mem_map.mpr ⟨(n, a), hp, rfl⟩))
  have ha := draw_sub5 b d a (h.a _ hp)
  have := List.all_eq_true.mp (List.all_eq_true.mp linkB n hn) a ha
  rw [Bool.and_eq_true] at this
  exact goodL_of this.1
theorem drawn_col {t p : D} {b : Bool} {left : List Str} {ls : List (Str × Str)} {room : Int} (ht : t ∈ t4) (hp : p = .non ∨ p = .int 0 ∨ p = .int 1) (h : LkInv n4 (drawActs b (hasD p)) room 4 left ls) : colK t (ls.map linkD) (.bl b) p = none := by
  have t1 : (!isName t || isStrD ("id" : Str) t) = false := by
    have : (t4.all fun t => !(!isName t || isStrD ("id" : Str) t)) = true := by decide +kernel
    simpa using List.all_eq_true.mp this t ht
  have t2 : (!isT "bool" (.bl b) || (hasD p && !isInt p)) = false := by
    rcases hp with rfl | rfl | rfl <;> rfl
  have t3 : badLink (colActs b (hasD p)) (ls.map linkD) = none := by
    refine List.find?_eq_none.mpr fun x hx => ?_
    obtain ⟨⟨n, a⟩, hq, rfl⟩ := List.mem_map.mp hx
    have hn : n ∈ n4 := h.p.subset (List.mem_append_left _ (List.mem_map.mpr ⟨(n, a), hq, rfl⟩))
    have ha := draw_sub b (hasD p) a (h.a _ hq)
    have := List.all_eq_true.mp (List.all_eq_true.mp linkB n hn) a (draw_sub5 b (hasD p) a (h.a _ hq))
    rw [Bool.and_eq_true] at this
    have e : isLink (colActs b (hasD p)) (linkD (n, a)) = true := by
      show (isNameS n && decide (a ∈ colActs b (hasD p))) = true
      rw [this.2, decide_eq_true ha]
      rfl
    rw [e]
    decide
  have t4 : twins ((ls.map linkD).map aim) = false := by
    rw [List.map_map]
    have e : (aim ∘ linkD) = fun (q : Str × Str) => q.1 := rfl
    rw [e]
    have nd : (ls.map (·.1)).Nodup := by
      have := h.p.nodup_iff.mpr (by decide +kernel : n4.Nodup)
      exact (List.nodup_append.mp this).1
    cases q : twins (ls.map fun q => q.1) with
    | false => rfl
    | true => exact absurd nd ((twins_iff _).mp q)
  have t5 : decide (4 < (ls.map linkD).length) = false := decide_eq_false (by have := h.l; simp; omega)
  unfold colK
  rw [t1, t2]
  simp only [Bool.false_eq_true, if_false]
  rw [show nulB (.bl b) = b from rfl, t3]
  simp only [t4, t5]
  rfl
theorem bag_nox {S : Store} {i : Nat} {c : Cell} {n : Nat} (hS : noxS S = true) (hb : Bag n c) : noxS (S.set i c) = true := by
  unfold noxS at *
  refine List.all_eq_true.mpr fun x hx => ?_
  rcases List.mem_or_eq_of_mem_set hx with hx | hx
  · exact List.all_eq_true.mp hS x hx
  · obtain ⟨a, b, k, rfl, _⟩ := hb
    rw [hx]
    rfl
theorem K_mem {nm nul df v : D} {refs : List D} {k : Str} (h : colK nm refs nul df = some (k, v)) : v = nm ∨ v ∈ refs := by
  unfold colK at h
  split at h
  · cases h; exact .inl rfl
  · split at h
    · cases h; exact .inl rfl
    · split at h
      · rename_i x hx
        cases h
        exact .inr (List.mem_of_find?_eq_some hx)
      · split at h
        · cases h; exact .inl rfl
        · cases h
theorem K_word {nm nul df v : D} {refs : List D} {k : Str} (h : colK nm refs nul df = some (k, v)) : k ∈ [("name" : Str), ("action" : Str), ("column" : Str)] := by
  unfold colK at h
  split at h
  · cases h; simp
  · split at h
    · cases h; simp
    · split at h
      · cases h; simp
      · split at h
        · cases h; simp
        · cases h
abbrev SpRight (F : List W → List (Str × W) → Store → R W) : Prop := ∀ (S : Store) (i n : Nat) (c : Cell), WF S → noxS S = true → S[i]? = some c → Bag n c → n + 20 ≤ 1000000000 → ∃ c', F [.o i] [] S = .ok (.d (.bl true)) (S.set i c') ∧ Bag (n + 20) c'
theorem sp_right {ow : Own} (hof : SpOf (ow.fn ("_law_of" : Str))) (hcol : SpCol (ow.fn ("_law_column" : Str))) (hbent : SpBent (ow.fn ("_law_bent" : Str)) ow) (hout : SpOut ow) (hdue : SpDue ow) (T : ColT ow) (hc : isaC ow nCol = true) (hEq : SpColEq ow) (N : NfT ow) :
    SpRight (evF ow f__law_right) := by
  intro S i n c hS hX hci hb hn
  unfold f__law_right
  walk_at "ev"
  obtain ⟨t, c1, e1, ht, b1⟩ := hof S i n c t4 hS hci hb (by omega) (by simp) (by simp)
  rw [e1]
  walk_at "ev"
  have hS1 := wf_set (i := i) hS (b1.below (m := S.length))
  obtain ⟨b, p, ls, left, c2, e2, hp, hI, b2⟩ := hcol (S.set i c1) i (n + 1) c1 t n4 4 hS1 (at_set hci) b1 (by omega) (by decide +kernel) (by decide)
  have e2 : ow.fn ("_law_column" : Str) [.o i, .d t, .d (.lst [.str ("a" : Str), .str ("b" : Str), .str ("c" : Str), .str ("d" : Str)]), .d (.int 4)] [] (S.set i c1) = .ok (.d (.tup [t, .lst (ls.map linkD), .bl b, p])) (S.set i c2) := by rw [set2] at e2; exact e2
  rw [e2]
  walk_at "ev"
  have hS2 := wf_set (i := i) hS (b2.below (m := S.length))
  have hX2 := bag_nox (i := i) hX b2
  have hc2 : (S.set i c2)[i]? = some c2 := at_set hci
  have gt : Good ow t := good_mem (by decide +kernel) ht
  have gp : Good ow p := by rcases hp with rfl | rfl | rfl <;> exact good_of (by decide +kernel)
  have gb : ∀ b, Good ow (.bl b) := fun b => by cases b <;> exact good_of (by decide +kernel)
  have gL := drawn_good (ow := ow) hI
  have hlen : (ls.map linkD).length ≤ 4 := by have := hI.l; simpa using this
  have K := drawn_col ht hp hI
  generalize hR : ls.map linkD = refs at gL hlen K ⊢
  have o1 := hout t (.bl b) p refs (S.set i c2) hS2 hX2 gt (gb b) gp gL (by omega)
  have O1 : outD t refs (.bl b) p = colD t (.tup refs) (.bl b) p := by unfold outD; rw [K]
  rw [O1] at o1
  rw [o1]
  walk_at "ev"
  rw [o1]
  walk_at "ev"
  have kc : Kn ow (colD t (.tup refs) (.bl b) p) := fun c fs e => by cases e; exact T.is
  rw [isi_c hc _ kc, show isC nCol (colD t (.tup refs) (.bl b) p) = true from rfl]
  walk_at "ev"
  have okT : ∀ {t p : D} {refs : List D} {b : D}, Good ow t → Good ow p → Good ow b → (∀ x ∈ refs, GoodL ow x) → refs.length ≤ 5 → Gd 52 6000 (.tup [t, .tup refs, b, p]) := fun {t p refs b} g1 g2 g3 g4 g5 => by
    have r := Gd.tup (fun x hx => (g4 x hx).g.g) g5
    refine (Gd.tup (d := 51) (m := 1100) (k := 4) (fun x hx => ?_) (by simp)).mono (by decide) (by decide)
    simp only [List.mem_cons, List.not_mem_nil, or_false] at hx
    rcases hx with rfl | rfl | rfl | rfl
    · exact g1.g.mono (by decide) (by decide)
    · exact r.mono (by decide) (by decide)
    · exact g3.g.mono (by decide) (by decide)
    · exact g2.g.mono (by decide) (by decide)
  have gT := okT gt gp (gb b) gL (by omega)
  obtain ⟨r1, q1, _, q1'⟩ := hEq t (.tup refs) (.bl b) p (colD t (.tup refs) (.bl b) p) (S.set i c2) hS2 kc fun _ => ⟨_, _, _, _, _, rfl, eqD_ok gT.ok gT.ok⟩
  have hr1 : r1 = true := (q1' _ _ _ _ _ rfl (eqD_ok gT.ok gT.ok)).trans (eqv_refl gT.ok.p)
  rw [(cmp_col T (y := colD t (.tup refs) (.bl b) p) (ty_ins T.is) N.c q1).2, hr1]
  walk_at "ev"
  obtain ⟨r2, q2, q2', _⟩ := hEq t (.tup refs) (.bl b) p (.lst refs) (S.set i c2) hS2 (noIns_kn rfl) fun z => (nomatch z)
  rw [(cmp_col T (show tyW ow (S.set i c2) (.d (.lst refs)) = some (.b "list") from rfl) N.l q2).1, q2' rfl]
  walk_at "ev"
  obtain ⟨r3, q3, q3', _⟩ := hEq t (.tup refs) (.bl b) p (.tup [t, .lst refs, .bl b, p]) (S.set i c2) hS2 (noIns_kn rfl) fun z => (nomatch z)
  rw [(cmp_col T (show tyW ow (S.set i c2) (.d (.tup [t, .lst refs, .bl b, p])) = some (.b "tuple") from rfl) N.t q3).1, q3' rfl]
  walk_at "ev"
  have cl := col_look t (.tup refs) (.bl b) p
  have F : ∀ S : Store, fieldsOf S (.d (colD t (.tup refs) (.bl b) p)) = some (nCol, colW t (.tup refs) (.bl b) p) := fun _ => rfl
  rw [fld_of (F _) T.f1 cl.1]
  walk_at "ev"
  rw [fld_of (F _) T.f2 cl.2.1]
  walk_at "ev"
  rw [fld_of (F _) T.f3 cl.2.2.1]
  walk_at "ev"
  rw [fld_of (F _) T.f4 cl.2.2.2.1]
  walk_at "ev"
  rw [repr_g gT]
  walk_at "ev"
  rw [show callTy "tuple" [.d (.lst refs)] (S.set i c2) = .ok (.d (.tup refs)) (S.set i c2) from rfl]
  walk_at "ev"
  rw [repr_g gT]
  walk_at "ev"
  obtain ⟨x, c3, e3, ⟨t2, L2, u2, d2, rfl, g1, g2, g3, g4, g5⟩, b3⟩ := hbent (S.set i c2) i (n + 12) c2 t p b refs hS2 hc2 (b2.mono (by omega)) (by omega) gt gL hlen gp
  rw [e3, set2]
  walk_at "ev"
  have hS3 := wf_set (i := i) hS (b3.below (m := S.length))
  have hX3 := bag_nox (i := i) hX b3
  have ixs : ∀ (a b c d : D) (S : Store), ixW (.d (.tup [a, b, c, d])) (.d (.int 0)) S = .ok (.d a) S ∧ ixW (.d (.tup [a, b, c, d])) (.d (.int 1)) S = .ok (.d b) S ∧ ixW (.d (.tup [a, b, c, d])) (.d (.int 2)) S = .ok (.d c) S ∧ ixW (.d (.tup [a, b, c, d])) (.d (.int 3)) S = .ok (.d d) S := fun a b c d S =>
    ⟨ix_tup (atN 0 rfl rfl) S, ix_tup (atN 1 rfl rfl) S, ix_tup (atN 2 rfl rfl) S, ix_tup (atN 3 rfl rfl) S⟩
  obtain ⟨i0, i1, i2, i3⟩ := ixs t2 (.lst L2) u2 d2 (S.set i c3)
  have o2 := hout t2 u2 d2 L2 (S.set i c3) hS3 hX3 g1 g4 g5 g2 g3
  have o3 := hdue t2 u2 d2 L2 (S.set i c3) hS3 g1 g4 g5 g2 g3
  rw [i0]
  walk_at "ev"
  rw [i1]
  walk_at "ev"
  rw [i2]
  walk_at "ev"
  rw [i3]
  walk_at "ev"
  rw [o2]
  walk_at "ev"
  rw [i0]
  walk_at "ev"
  rw [i1]
  walk_at "ev"
  rw [i2]
  walk_at "ev"
  rw [i3]
  walk_at "ev"
  rw [o3]
  walk_at "ev"
  have fin : ∀ x, x = true → ∃ c', finM false S.length (.ret (.d (.bl x)) (S.set i c3)) = .ok (.d (.bl true)) (S.set i c') ∧ Bag (n + 20) c' := fun x hx => by
    subst hx
    exact ⟨c3, fin_dL (by simp) hS3 false _, b3.mono (by omega)⟩
  cases hK : colK t2 L2 u2 d2 with
  | some q =>
    obtain ⟨k, v⟩ := q
    have gv : Gd 50 200 v := by
      rcases K_mem hK with rfl | hv
      · exact g1.g
      · exact (g2 v hv).g.g
    have ek : k ∈ [("name" : Str), ("action" : Str), ("column" : Str)] := K_word hK
    have okk : Ok 0 (.str k) := Ok.str (by
      have : ([("name" : Str), ("action" : Str), ("column" : Str)].all fun k => PyData.strOk k) = true := by decide +kernel
      exact List.all_eq_true.mp this k ek)
    have e1 : outD t2 L2 u2 d2 = .tup [.str k, .str v.py.shown, .bl true] := by unfold outD; rw [hK]
    have e2 : dueD t2 L2 u2 d2 = .tup [.str k, .str v.py.shown, .bl true] := by unfold dueD; rw [hK]
    have ok3 : Ok 1 (.tup [.str k, .str v.py.shown, .bl true]) := Ok.tup (fun x hx => by
      simp only [List.mem_cons, List.not_mem_nil, or_false] at hx
      rcases hx with rfl | rfl | rfl
      · exact okk
      · exact gv.text
      · exact Ok.bl)
    rw [e1, e2, show isNonB (.d (.tup [.str k, .str v.py.shown, .bl true])) = false from rfl]
    walk_at "ev"
    rw [cx_eq _ rfl, eqW_d _ false (eqD_ok ok3 ok3), od_ok, eqv_refl ok3.p]
    walk_at "ev"
    exact fin _ rfl
  | none =>
    have e1 : outD t2 L2 u2 d2 = colD t2 (.tup L2) u2 d2 := by unfold outD; rw [hK]
    have e2 : dueD t2 L2 u2 d2 = .non := by unfold dueD; rw [hK]
    have kc2 : Kn ow (colD t2 (.tup L2) u2 d2) := fun c fs e => by cases e; exact T.is
    rw [e1, e2, show isNonB (.d .non) = true from rfl]
    walk_at "ev"
    rw [isi_c hc _ kc2, show isC nCol (colD t2 (.tup L2) u2 d2) = true from rfl]
    walk_at "ev"
    have gT2 := okT g1 g5 g4 g2 g3
    obtain ⟨r4, q4, _, q4'⟩ := hEq t2 (.tup L2) u2 d2 (colD t (.tup refs) (.bl b) p) (S.set i c3) hS3 kc fun _ => ⟨_, _, _, _, _, rfl, eqD_ok gT2.ok gT.ok⟩
    have hr4 := q4' _ _ _ _ _ rfl (eqD_ok gT2.ok gT.ok)
    rw [(cmp_col T (y := colD t (.tup refs) (.bl b) p) (ty_ins T.is) N.c q4).1]
    walk_at "ev"
    have okL : ∀ {t p : D} {refs : List D} {b : D}, Good ow t → Good ow p → Good ow b → (∀ x ∈ refs, GoodL ow x) → refs.length ≤ 5 → Gd 52 6000 (.tup [t, .lst refs, b, p]) := fun {t p refs b} g1 g2 g3 g4 g5 => by
      have r := Gd.lst (fun x hx => (g4 x hx).g.g) g5
      refine (Gd.tup (d := 51) (m := 1100) (k := 4) (fun x hx => ?_) (by simp)).mono (by decide) (by decide)
      simp only [List.mem_cons, List.not_mem_nil, or_false] at hx
      rcases hx with rfl | rfl | rfl | rfl
      · exact g1.g.mono (by decide) (by decide)
      · exact r.mono (by decide) (by decide)
      · exact g3.g.mono (by decide) (by decide)
      · exact g2.g.mono (by decide) (by decide)
    have gB := okL g1 g5 g4 g2 g3
    have gA := okL gt gp (gb b) gL (by omega)
    rw [repr_g gB]
    walk_at "ev"
    rw [repr_g gA]
    walk_at "ev"
    rw [eq_bl]
    walk_at "ev"
    refine fin _ ?_
    rw [beq_iff_eq, Bool.eq_iff_iff, hr4, col_same (col_ok hK) (col_ok K), decide_eq_true_iff]
    constructor
    · rintro ⟨rfl, rfl, rfl, rfl⟩
      rfl
    · intro h
      have := shown_inj gB.safe gA.safe h
      simp only [D.tup.injEq, List.cons.injEq, D.lst.injEq, and_true] at this
      exact this
end K01

namespace K01
open PySem Mi Pr Dr
local macro_rules | `(tactic| walk_at "ev") => `(tactic| simp only [evF, bndPlain, startI, eE_nm, eE_cst, eE_bin, eE_no, eE_neg, eE_cmp, eE_chain, eE_and, eE_or, eE_ife, eE_ix, eE_sl, eE_tup, eE_lst, eE_box, eE_comp, eE_call, eE_isi, eE_bi, eE_lens, eE_rpr, eE_ty, eE_bty, eE_mt, eE_lm, eE_fld, eT_no, eT_and, eT_or, eT_cmp, eT_chain, eT_tru, eT_yes, eA_nil, eA_cons, eO_non, eO_som, eI_rng, eI_it, eS_expr, eS_set, eS_asg, eS_par, eS_putix, eS_putf, eS_ret, eS_ret0, eS_pass, eS_brk, eS_cont, eS_ife, eS_loop, eS_whil, eS_raise, eS_tri, eSs_nil, eSs_cons, fBin, fNo, fCmp, fCh1, fCh2, ch_t, ch_f, fIx, fSl, fSl2, fCall, fCall2, fMt, fMt2, fCons, fCons2, fNot, fRng1, kNext, kSet, kAsg, kPar, kPut, kPut2, kPut3, kFld, kFld2, kRet, kFor, fComp, asEnv, tgW, asgIs, putAllM, b_ok, b_exc, b_bad, o_ok, o_exc, s_next, s_ret, s_exc, s_brk, s_cont, ab_ok, tr_bl, g_0, g_s, if_t, if_f, anE_t, anE_f, orE_t, orE_f, an_t, an_f, or_t, or_f, ng_i, rg_i, ne_s, ns_s, tri_x, tri_r, tri_n, it_l, it_t, it_s, po_i, fl_n, add_i, sub_i, cw_lt, cw_le, lt_i, le_i, gt_i, ge_i, eq_i, ne_i, eq_s, ne_s', is_n, isnt_n, len_l, len_t, tn_n, tn_c, tn_b, tn_r, tn_x, l_0, t_0, l_1, t_1, l_2, t_2, l_3, t_3, l_4, t_4, l_5, t_5, l_6, t_6, l_7, t_7, l_8, t_8, l_9, l_10, l_11, l_12, l_13, l_14, l_15, l_16, l_17, l_18, l_19, bx_0, sl_l, sl_t, List.isEmpty_nil, Bool.true_and, List.length_cons, List.length_nil, decide_true, decide_false, eq_self, Int.reduceEq, Int.reduceAdd, Int.reduceSub, Int.reduceLT, Int.reduceLE, if_true, if_false, List.map_cons, List.map_nil, List.cons_append, List.nil_append, Nat.zero_add, Nat.reduceAdd, Nat.reduceSub, List.replicate_zero, List.replicate_succ, List.set_cons_zero, List.set_cons_succ, List.zip_nil_left, List.zip_nil_right, Bool.not_true, Bool.not_false, Bool.false_eq_true, reduceIte])
abbrev turnB : ISs := (.cons (.ife (.no (.tru (.call ("_law_right" : Str) (.cons (.nm 2) .nil) [] .nil))) (.cons (.ret (.cst (.bl false))) .nil) .nil) .nil)
theorem turns {ow : Own} (hR : SpRight (ow.fn ("_law_right" : Str))) {j : Nat} {a b p : Option W} : ∀ (ws : List D) (S : Store) (n : Nat) (c : Cell) (o : Option W), WF S → noxS S = true → S[j]? = some c → Bag n c → n + 20 * ws.length ≤ 1000000000 →
    ∃ o' c', forL (fun _ => tgW (.nm 3)) (evSs ow turnB) (ws.map W.d) [a, b, some (.o j), o, p] S = .next [a, b, some (.o j), o', p] (S.set j c') ∧ Bag (n + 20 * ws.length) c'
  | [], S, n, c, o, hS, hX, hc, hb, _ => by
    refine ⟨o, c, ?_, hb⟩
    have same : S.set j c = S := by
      refine List.ext_getElem? fun k => ?_
      rw [List.getElem?_set]
      split
      · rename_i e
        subst e
        rw [if_pos (List.getElem?_eq_some_iff.mp hc).1, hc]
      · rfl
    rw [same]; rfl
  | w :: ws, S, n, c, o, hS, hX, hc, hb, hn => by
    rw [List.length_cons] at hn
    obtain ⟨c1, e1, b1⟩ := hR S j n c hS hX hc hb (by omega)
    obtain ⟨o2, c2, e2, b2⟩ := turns hR (a := a) (b := b) (p := p) ws (S.set j c1) (n + 20) c1 (some (.d w)) (wf_set hS b1.below) (bag_nox hX b1) (at_set hc) b1 (by omega)
    refine ⟨o2, c2, ?_, b2.mono (by rw [List.length_cons]; omega)⟩
    rw [List.map_cons, fl_c (h := rfl)]
    walk_at "ev"
    rw [e1]
    walk_at "ev"
    rw [e2, set2]
abbrev cellB : ISs := (.cons (.set 2 (.call ("_law_bag" : Str) (.cons (.nm 0) (.cons (.nm 1) .nil)) [] .nil)) (.cons (.loop (.nm 3) (.rng (.cst (.int 20))) turnB) (.cons (.set 4 (.call ("Column" : Str) (.cons (.cst (.str ("x" : Str))) .nil) [] .nil)) (.cons (.ife (.cmp true .NotEq (.lst (.cons (.fld (.nm 4) ("name" : Str)) (.cons (.fld (.nm 4) ("links" : Str)) (.cons (.fld (.nm 4) ("nullable" : Str)) (.cons (.fld (.nm 4) ("default" : Str)) .nil))))) (.lst (.cons (.cst (.str ("x" : Str))) (.cons (.tup .nil) (.cons (.cst (.bl false)) (.cons (.cst .non) .nil)))))) (.cons (.ret (.cst (.bl false))) .nil) .nil) .nil))))
abbrev SpBag (F : List W → List (Str × W) → Store → R W) : Prop := ∀ (ns : List Int) (at_ : Int) (S : Store), WF S → 0 ≤ at_ → at_ ≤ 1 → ∃ c, F [.d (.scr ns), .d (.int at_)] [] S = .ok (.o S.length) (S ++ [c]) ∧ Bag 0 c
theorem nox_app {S : Store} {c : Cell} {n : Nat} (h : noxS S = true) (hb : Bag n c) : noxS (S ++ [c]) = true := by
  unfold noxS at *
  obtain ⟨a, b, k, rfl, _⟩ := hb
  rw [List.all_append, h]
  rfl
theorem cells {ow : Own} (hB : SpBag (ow.fn ("_law_bag" : Str))) (hR : SpRight (ow.fn ("_law_right" : Str))) (hC : SpColumn ow) (T : ColT ow) {ns : List Int} : ∀ (ws : List Int) (S : Store) (o1 o2 o3 o4 : Option W), (∀ k ∈ ws, 0 ≤ k ∧ k ≤ 1) → WF S → noxS S = true →
    ∃ e S', forL (fun _ => tgW (.nm 1)) (evSs ow cellB) ((ws.map D.int).map W.d) [some (.d (.scr ns)), o1, o2, o3, o4] S = .next e S' ∧ True
  | [], S, o1, o2, o3, o4, _, _, _ => ⟨_, S, rfl, trivial⟩
  | k :: ws, S, o1, o2, o3, o4, hk, hS, hX => by
    have hk0 := hk k (List.mem_cons_self ..)
    rw [List.map_cons, List.map_cons, fl_c (h := rfl)]
    walk_at "ev"
    obtain ⟨c, e1, b1⟩ := hB ns k S hS hk0.1 hk0.2
    rw [e1]
    walk_at "ev"
    have hS1 : WF (S ++ [c]) := wf_app hS b1.below
    have hX1 : noxS (S ++ [c]) = true := nox_app hX b1
    rw [if_pos (by decide)]
    walk_at "ev"
    rw [ints_eq]
    obtain ⟨o', c', e2, b2⟩ := turns hR (j := S.length) (a := some (.d (.scr ns))) (b := some (.d (.int k))) (p := o4) ((List.range (20 : Int).toNat).map fun (k : Nat) => D.int (0 + k)) (S ++ [c]) 0 c o3 hS1 hX1 (at_new S c []) b1 (by simp)
    rw [e2, set_new]
    have hS2 : WF (S ++ [c']) := wf_app hS b2.below
    have hX2 : noxS (S ++ [c']) = true := nox_app hX b2
    walk_at "ev"
    have e3 := hC (.str ("x" : Str)) (.bl false) .non [] [] (S ++ [c']) hS2 (.inr ⟨rfl, rfl, rfl⟩) (Fit.str (by decide +kernel)) (noIns_kn rfl) (noIns_kn rfl) (fun _ h => nomatch h) (by decide)
    have X : colX (.str ("x" : Str)) [] (.bl false) .non = none := by
      have h1 : isName (.str ("x" : Str)) = true := by decide +kernel
      have h2 : isStrD ("id" : Str) (.str ("x" : Str)) = false := by decide +kernel
      unfold colX
      rw [h1, h2]
      rfl
    rw [X] at e3
    have e3 : ow.fn nCol [.d (.str ("x" : Str))] [] (S ++ [c']) = .ok (.d (colD (.str ("x" : Str)) (.tup []) (.bl false) .non)) (S ++ [c']) := e3
    rw [e3]
    walk_at "ev"
    have cl := col_look (.str ("x" : Str)) (.tup []) (.bl false) .non
    have F : ∀ S : Store, fieldsOf S (.d (colD (.str ("x" : Str)) (.tup []) (.bl false) .non)) = some (nCol, colW (.str ("x" : Str)) (.tup []) (.bl false) .non) := fun _ => rfl
    rw [fld_of (F _) T.f1 cl.1]
    walk_at "ev"
    rw [fld_of (F _) T.f2 cl.2.1]
    walk_at "ev"
    rw [fld_of (F _) T.f3 cl.2.2.1]
    walk_at "ev"
    rw [fld_of (F _) T.f4 cl.2.2.2.1]
    walk_at "ev"
    have g : Gd 50 200 (.lst [.str ("x" : Str), .tup [], .bl false, .non]) := gd_of (by decide +kernel)
    rw [cx_ne _ rfl, eqW_d _ true (eqD_ok g.ok g.ok), od_ok, eqv_refl g.ok.p]
    walk_at "ev"
    exact cells hB hR hC T ws (S ++ [c']) _ _ _ _ (fun z hz => hk z (List.mem_cons_of_mem _ hz)) hS2 hX2
theorem sp_law {ow : Own} (hB : SpBag (ow.fn ("_law_bag" : Str))) (hR : SpRight (ow.fn ("_law_right" : Str))) (hC : SpColumn ow) (T : ColT ow) (ns : List Int) : ∃ S, evF ow f_law [.d (.scr ns)] [] [] = .ok (.d (.bl true)) S := by
  unfold f_law
  walk_at "ev"
  rw [show callB true "len" [.d (.scr ns)] [] = .ok (.d (.int ns.length)) [] from rfl]
  walk_at "ev"
  rw [show ∀ i j : Int, callB true "min" [.d (.int i), .d (.int j)] [] = .ok (.d (.int (if j < i then j else i))) [] from fun _ _ => rfl]
  walk_at "ev"
  rw [show ∀ i j : Int, callB true "max" [.d (.int i), .d (.int j)] [] = .ok (.d (.int (if j > i then j else i))) [] from fun _ _ => rfl]
  walk_at "ev"
  have hk : ∃ k : Nat, k ≤ 2 ∧ (if (if (ns.length : Int) < 2 then (ns.length : Int) else 2) > 1 then (if (ns.length : Int) < 2 then (ns.length : Int) else 2) else 1) = (k : Int) := by
    by_cases h : (ns.length : Int) < 2
    · rw [if_pos h]
      by_cases h1 : (ns.length : Int) > 1
      · exact ⟨ns.length, by omega, if_pos h1⟩
      · exact ⟨1, by omega, if_neg h1⟩
    · rw [if_neg h]
      exact ⟨2, by omega, rfl⟩
  obtain ⟨k, hk2, hk⟩ := hk
  rw [hk]
  rw [if_pos (by omega)]
  walk_at "ev"
  rw [Int.toNat_natCast, ints_eq]
  rw [show ((List.range k).map fun (k : Nat) => D.int (0 + (k : Int))) = ((List.range k).map fun (k : Nat) => (0 + (k : Int))).map D.int from by rw [List.map_map]; rfl]
  obtain ⟨e, S', h, _⟩ := cells hB hR hC T (ns := ns) ((List.range k).map fun (k : Nat) => (0 + (k : Int))) [] none none none none (fun z hz => by
    obtain ⟨m, hm, rfl⟩ := List.mem_map.mp hz
    rw [List.mem_range] at hm
    omega) wf_nil rfl
  rw [h]
  walk_at "ev"
  exact ⟨[], rfl⟩
end K01

namespace K02
open PySem Mi Pr Dr K01
local macro_rules | `(tactic| walk_at "ev2") => `(tactic| simp only [List.zip_cons_cons, wipeM, eA_star, fStar, fApp, List.append_nil, l_i0, l_i1, l_i2, l_i3, t_i0, t_i1, t_i2, t_i3, od_ok, evF, bndPlain, startI, eE_nm, eE_cst, eE_bin, eE_no, eE_neg, eE_cmp, eE_chain, eE_and, eE_or, eE_ife, eE_ix, eE_sl, eE_tup, eE_lst, eE_box, eE_comp, eE_call, eE_isi, eE_bi, eE_lens, eE_rpr, eE_ty, eE_bty, eE_mt, eE_lm, eE_fld, eT_no, eT_and, eT_or, eT_cmp, eT_chain, eT_tru, eT_yes, eA_nil, eA_cons, eO_non, eO_som, eI_rng, eI_it, eS_expr, eS_set, eS_asg, eS_par, eS_putix, eS_putf, eS_ret, eS_ret0, eS_pass, eS_brk, eS_cont, eS_ife, eS_loop, eS_whil, eS_raise, eS_tri, eSs_nil, eSs_cons, fBin, fNo, fCmp, fCh1, fCh2, ch_t, ch_f, fIx, fSl, fSl2, fCall, fCall2, fMt, fMt2, fCons, fCons2, fNot, fRng1, kNext, kSet, kAsg, kPar, kPut, kPut2, kPut3, kFld, kFld2, kRet, kFor, fComp, asEnv, tgW, asgIs, putAllM, b_ok, b_exc, b_bad, o_ok, o_exc, s_next, s_ret, s_exc, s_brk, s_cont, ab_ok, tr_bl, g_0, g_s, if_t, if_f, anE_t, anE_f, orE_t, orE_f, an_t, an_f, or_t, or_f, ng_i, rg_i, ne_s, ns_s, tri_x, tri_r, tri_n, it_l, it_t, it_s, po_i, fl_n, add_i, sub_i, cw_lt, cw_le, lt_i, le_i, gt_i, ge_i, eq_i, ne_i, eq_s, ne_s', is_n, isnt_n, len_l, len_t, tn_n, tn_c, tn_b, tn_r, tn_x, l_0, t_0, l_1, t_1, l_2, t_2, l_3, t_3, l_4, t_4, l_5, t_5, l_6, t_6, l_7, t_7, l_8, t_8, l_9, l_10, l_11, l_12, l_13, l_14, l_15, l_16, l_17, l_18, l_19, bx_0, sl_l, sl_t, List.isEmpty_nil, Bool.true_and, List.length_cons, List.length_nil, decide_true, decide_false, eq_self, Int.reduceEq, Int.reduceAdd, Int.reduceSub, Int.reduceLT, Int.reduceLE, if_true, if_false, List.map_cons, List.map_nil, List.cons_append, List.nil_append, Nat.zero_add, Nat.reduceAdd, Nat.reduceSub, List.replicate_zero, List.replicate_succ, List.set_cons_zero, List.set_cons_succ, List.zip_nil_left, List.zip_nil_right, Bool.not_true, Bool.not_false, Bool.false_eq_true, reduceIte])
/-! the law's defs, printed by wip/gen -/
def f__law_table_made : FI := ⟨bndPlain 3, false, 3, (.cons (.ife (.cmp true .Eq (.bi true "len" (.cons (.nm 1) .nil)) (.cst (.int 0))) (.cons (.ret (.call ("Table" : Str) (.cons (.nm 0) .nil) [("ids" : Str)] (.cons (.nm 2) .nil))) .nil) .nil) (.cons (.ife (.cmp true .Eq (.bi true "len" (.cons (.nm 1) .nil)) (.cst (.int 1))) (.cons (.ret (.call ("Table" : Str) (.cons (.nm 0) (.cons (.ix (.nm 1) (.cst (.int 0))) .nil)) [("ids" : Str)] (.cons (.nm 2) .nil))) .nil) .nil) (.cons (.ife (.cmp true .Eq (.bi true "len" (.cons (.nm 1) .nil)) (.cst (.int 2))) (.cons (.ret (.call ("Table" : Str) (.cons (.nm 0) (.cons (.ix (.nm 1) (.cst (.int 0))) (.cons (.ix (.nm 1) (.cst (.int 1))) .nil))) [("ids" : Str)] (.cons (.nm 2) .nil))) .nil) .nil) (.cons (.ife (.cmp true .Eq (.bi true "len" (.cons (.nm 1) .nil)) (.cst (.int 3))) (.cons (.ret (.call ("Table" : Str) (.cons (.nm 0) (.cons (.ix (.nm 1) (.cst (.int 0))) (.cons (.ix (.nm 1) (.cst (.int 1))) (.cons (.ix (.nm 1) (.cst (.int 2))) .nil)))) [("ids" : Str)] (.cons (.nm 2) .nil))) .nil) .nil) (.cons (.ret (.call ("Table" : Str) (.cons (.nm 0) (.cons (.ix (.nm 1) (.cst (.int 0))) (.cons (.ix (.nm 1) (.cst (.int 1))) (.cons (.ix (.nm 1) (.cst (.int 2))) (.cons (.ix (.nm 1) (.cst (.int 3))) .nil))))) [("ids" : Str)] (.cons (.nm 2) .nil))) .nil)))))⟩
def f__law_outcome : FI := ⟨bndPlain 3, false, 4, (.cons (.tri (.cons (.ret (.call ("_law_table_made" : Str) (.cons (.nm 0) (.cons (.nm 1) (.cons (.nm 2) .nil))) [] .nil)) .nil) (.cons (.c ("BadName" : Str)) (some 3) (.cons (.ret (.tup (.cons (.cst (.str ("name" : Str))) (.cons (.rpr (.cons (.fld (.nm 3) ("value" : Str)) .nil)) (.cons (.isi [(.c ("BadAction" : Str)), (.c ("BadTable" : Str)), (.c ("BadColumn" : Str))] (.nm 3)) .nil))))) .nil) (.cons (.c ("BadAction" : Str)) (some 3) (.cons (.ret (.tup (.cons (.cst (.str ("action" : Str))) (.cons (.rpr (.cons (.fld (.nm 3) ("value" : Str)) .nil)) (.cons (.isi [(.c ("BadName" : Str)), (.c ("BadTable" : Str)), (.c ("BadColumn" : Str))] (.nm 3)) .nil))))) .nil) (.cons (.c ("BadTable" : Str)) (some 3) (.cons (.ret (.tup (.cons (.cst (.str ("table" : Str))) (.cons (.rpr (.cons (.fld (.nm 3) ("name" : Str)) .nil)) (.cons (.isi [(.c ("BadName" : Str)), (.c ("BadAction" : Str)), (.c ("BadColumn" : Str))] (.nm 3)) .nil))))) .nil) .nil)))) .nil)⟩
def f__law_is_word : FI := ⟨bndPlain 1, false, 2, (.cons (.ife (.or (.no (.tru (.isi [(.b "str")] (.nm 0)))) (.no (.chain .LtE .LtE (.cst (.int 1)) (.bi true "len" (.cons (.nm 0) .nil)) (.cst (.int 8))))) (.cons (.ret (.cst (.bl false))) .nil) .nil) (.cons (.ret (.bi true "all" (.cons (.comp false (.nm 1) [1] (.it (.nm 0)) .yes (.cmp true .In (.nm 1) (.cst (.str ("abcdefghijklmnopqrstuvwxyz" : Str))))) .nil))) .nil))⟩
def f__law_may_link : FI := ⟨bndPlain 1, false, 1, (.cons (.ife (.or (.no (.tru (.isi [(.b "tuple")] (.nm 0)))) (.or (.cmp true .NotEq (.bi true "len" (.cons (.nm 0) .nil)) (.cst (.int 2))) (.no (.tru (.call ("_law_is_word" : Str) (.cons (.ix (.nm 0) (.cst (.int 0))) .nil) [] .nil))))) (.cons (.ret (.cst (.bl false))) .nil) .nil) (.cons (.ret (.and (.isi [(.b "str")] (.ix (.nm 0) (.cst (.int 1)))) (.cmp true .In (.ix (.nm 0) (.cst (.int 1))) (.tup (.cons (.cst (.str ("cascade" : Str))) (.cons (.cst (.str ("restrict" : Str))) (.cons (.cst (.str ("no_action" : Str))) .nil))))))) .nil))⟩
def f__law_due : FI := ⟨bndPlain 3, false, 10, (.cons (.ife (.no (.tru (.call ("_law_is_word" : Str) (.cons (.nm 0) .nil) [] .nil))) (.cons (.ret (.tup (.cons (.cst (.str ("name" : Str))) (.cons (.rpr (.cons (.nm 0) .nil)) (.cons (.cst (.bl false)) .nil))))) .nil) .nil) (.cons (.set 3 (.comp false (.nm 6) [6] (.it (.nm 2)) (.no (.tru (.call ("_law_may_link" : Str) (.cons (.nm 6) .nil) [] .nil))) (.nm 6))) (.cons (.ife (.cmp true .NotEq (.nm 3) (.lst .nil)) (.cons (.ret (.tup (.cons (.cst (.str ("action" : Str))) (.cons (.rpr (.cons (.ix (.nm 3) (.cst (.int 0))) .nil)) (.cons (.cst (.bl false)) .nil))))) .nil) .nil) (.cons (.par [4, 5] (.cons (.bin .Add (.lst (.cons (.nm 0) .nil)) (.comp false (.tup [8, 9]) [8, 9] (.it (.nm 2)) .yes (.nm 8))) (.cons (.comp false (.nm 7) [7] (.it (.nm 1)) .yes (.fld (.nm 7) ("name" : Str))) .nil))) (.cons (.ife (.or (.cmp true .Lt (.lens (.nm 4)) (.bi true "len" (.cons (.nm 4) .nil))) (.or (.cmp true .Gt (.bi true "len" (.cons (.nm 2) .nil)) (.cst (.int 4))) (.or (.cmp true .Gt (.bi true "len" (.cons (.nm 1) .nil)) (.cst (.int 3))) (.cmp true .Lt (.lens (.nm 5)) (.bi true "len" (.cons (.nm 5) .nil)))))) (.cons (.ret (.tup (.cons (.cst (.str ("table" : Str))) (.cons (.rpr (.cons (.nm 0) .nil)) (.cons (.cst (.bl false)) .nil))))) .nil) .nil) (.cons (.ret (.cst .non)) .nil))))))⟩
def f__law_drawn : FI := ⟨bndPlain 1, false, 5, (.cons (.set 1 (.box .nil)) (.cons (.loop (.nm 2) (.it (.sl (.lst (.cons (.cst (.str ("x" : Str))) (.cons (.cst (.str ("y" : Str))) (.cons (.cst (.str ("z" : Str))) .nil)))) .non (.som (.call ("_law_take" : Str) (.cons (.nm 0) (.cons (.cst (.int 4)) .nil)) [] .nil)))) (.cons (.set 4 (.bin .Mult (.lst (.cons (.tup (.cons (.cst (.str ("b" : Str))) (.cons (.call ("_law_of" : Str) (.cons (.nm 0) (.cons (.lst (.cons (.cst (.str ("cascade" : Str))) (.cons (.cst (.str ("restrict" : Str))) .nil))) .nil)) [] .nil) .nil))) .nil)) (.call ("_law_take" : Str) (.cons (.nm 0) (.cons (.cst (.int 2)) .nil)) [] .nil))) (.cons (.ife (.cmp true .Eq (.nm 4) (.lst .nil)) (.cons (.expr (.mt (.nm 1) ("append" : Str) (.cons (.call ("Column" : Str) (.cons (.nm 2) .nil) [("nullable" : Str)] (.cons (.cmp true .Eq (.call ("_law_take" : Str) (.cons (.nm 0) (.cons (.cst (.int 2)) .nil)) [] .nil) (.cst (.int 0))) .nil)) .nil) [] .nil)) .nil) (.cons (.expr (.mt (.nm 1) ("append" : Str) (.cons (.call ("Column" : Str) (.cons (.nm 2) (.cons (.ix (.nm 4) (.cst (.int 0))) .nil)) [("nullable" : Str)] (.cons (.cmp true .Eq (.call ("_law_take" : Str) (.cons (.nm 0) (.cons (.cst (.int 2)) .nil)) [] .nil) (.cst (.int 0))) .nil)) .nil) [] .nil)) .nil)) .nil))) (.cons (.set 3 (.call ("_law_links" : Str) (.cons (.nm 0) (.cons (.lst (.cons (.cst (.str ("b" : Str))) (.cons (.cst (.str ("c" : Str))) (.cons (.cst (.str ("d" : Str))) (.cons (.cst (.str ("e" : Str))) .nil))))) (.cons (.lst (.cons (.cst (.str ("cascade" : Str))) (.cons (.cst (.str ("restrict" : Str))) (.cons (.cst (.str ("no_action" : Str))) .nil)))) (.cons (.cst (.int 4)) .nil)))) [] .nil)) (.cons (.ret (.tup (.cons (.call ("_law_of" : Str) (.cons (.nm 0) (.cons (.lst (.cons (.cst (.str ("a" : Str))) (.cons (.cst (.str ("self" : Str))) (.cons (.cst (.str ("id" : Str))) (.cons (.cst (.str ("abcdefgh" : Str))) .nil))))) .nil)) [] .nil) (.cons (.nm 1) (.cons (.ty "tuple" (.cons (.nm 3) .nil)) .nil))))) .nil))))⟩
def f__law_bent : FI := ⟨bndPlain 2, false, 8, (.cons (.asg (.tup [4, 5, 6]) (.nm 1)) (.cons (.set 2 (.call ("_law_take" : Str) (.cons (.nm 0) (.cons (.cst (.int 5)) .nil)) [] .nil)) (.cons (.set 3 (.lst (.cons (.tup (.cons (.cst (.str ("b" : Str))) (.cons (.cst (.str ("set_null" : Str))) .nil))) (.cons (.tup (.cons (.cst (.str ("c" : Str))) (.cons (.cst (.str ("set_default" : Str))) .nil))) (.cons (.tup (.cons (.cst (.str ("d" : Str))) (.cons (.cst (.str ("Restrict" : Str))) .nil))) (.cons (.tup (.cons (.cst (.str ("D" : Str))) (.cons (.cst (.str ("cascade" : Str))) .nil))) (.cons (.lst (.cons (.cst (.str ("b" : Str))) (.cons (.cst (.str ("cascade" : Str))) .nil))) (.cons (.tup (.cons (.cst (.str ("b" : Str))) .nil)) (.cons (.cst .non) .nil))))))))) (.cons (.ife (.cmp true .Eq (.nm 2) (.cst (.int 0))) (.cons (.set 4 (.call ("_law_of" : Str) (.cons (.nm 0) (.cons (.lst (.cons (.cst (.str ("" : Str))) (.cons (.cst (.str ("A" : Str))) (.cons (.cst (.str ("abcdefghi" : Str))) (.cons (.cst (.str ("a-b" : Str))) (.cons (.cst (.int 5)) (.cons (.cst .non) (.cons (.tup (.cons (.cst (.str ("a" : Str))) .nil)) (.cons (.lst (.cons (.cst (.str ("a" : Str))) .nil)) (.cons (.cst (.bl true)) .nil)))))))))) .nil)) [] .nil)) .nil) .nil) (.cons (.ife (.cmp true .Eq (.nm 2) (.cst (.int 1))) (.cons (.set 7 (.call ("_law_take" : Str) (.cons (.nm 0) (.cons (.bin .Add (.bi true "len" (.cons (.nm 6) .nil)) (.cst (.int 1))) .nil)) [] .nil)) (.cons (.set 3 (.bin .Add (.nm 3) (.lst (.cons (.tup (.cons (.nm 4) (.cons (.cst (.str ("cascade" : Str))) .nil))) (.cons (.tup (.cons (.cst (.str ("b" : Str))) (.cons (.cst (.str ("restrict" : Str))) .nil))) .nil))))) (.cons (.set 6 (.bin .Add (.bin .Add (.sl (.nm 6) .non (.som (.nm 7))) (.tup (.cons (.call ("_law_of" : Str) (.cons (.nm 0) (.cons (.nm 3) .nil)) [] .nil) .nil))) (.sl (.nm 6) (.som (.nm 7)) .non))) .nil))) .nil) (.cons (.ife (.cmp true .Eq (.nm 2) (.cst (.int 2))) (.cons (.set 6 (.bin .Add (.nm 6) (.tup (.cons (.tup (.cons (.cst (.str ("f" : Str))) (.cons (.cst (.str ("cascade" : Str))) .nil))) (.cons (.tup (.cons (.cst (.str ("g" : Str))) (.cons (.cst (.str ("restrict" : Str))) .nil))) (.cons (.tup (.cons (.cst (.str ("h" : Str))) (.cons (.cst (.str ("no_action" : Str))) .nil))) (.cons (.tup (.cons (.cst (.str ("i" : Str))) (.cons (.cst (.str ("cascade" : Str))) .nil))) .nil))))))) .nil) .nil) (.cons (.ife (.cmp true .Eq (.nm 2) (.cst (.int 3))) (.cons (.set 5 (.bin .Add (.nm 5) (.sl (.lst (.cons (.call ("Column" : Str) (.cons (.cst (.str ("v" : Str))) .nil) [] .nil) (.cons (.call ("Column" : Str) (.cons (.cst (.str ("w" : Str))) .nil) [] .nil) .nil))) .non (.som (.bin .Add (.cst (.int 1)) (.call ("_law_take" : Str) (.cons (.nm 0) (.cons (.cst (.int 2)) .nil)) [] .nil)))))) .nil) .nil) (.cons (.ife (.cmp true .Eq (.nm 2) (.cst (.int 4))) (.cons (.set 5 (.bin .Add (.nm 5) (.lst (.cons (.call ("Column" : Str) (.cons (.call ("_law_of" : Str) (.cons (.nm 0) (.cons (.lst (.cons (.cst (.str ("x" : Str))) (.cons (.cst (.str ("y" : Str))) .nil))) .nil)) [] .nil) .nil) [] .nil) .nil)))) .nil) .nil) (.cons (.ret (.tup (.cons (.nm 4) (.cons (.sl (.nm 5) .non (.som (.cst (.int 4)))) (.cons (.nm 6) .nil))))) .nil)))))))))⟩
def f__law_right : FI := ⟨bndPlain 1, false, 9, (.cons (.asg (.tup [2, 3, 4]) (.call ("_law_drawn" : Str) (.cons (.nm 0) .nil) [] .nil)) (.cons (.par [5, 6] (.cons (.call ("_law_outcome" : Str) (.cons (.nm 2) (.cons (.nm 3) (.cons (.nm 4) .nil))) [] .nil) (.cons (.call ("_law_outcome" : Str) (.cons (.nm 2) (.cons (.nm 3) (.cons (.nm 4) .nil))) [] .nil) .nil))) (.cons (.ife (.or (.no (.tru (.isi [(.c ("Table" : Str))] (.nm 5)))) (.or (.cmp true .NotEq (.nm 5) (.nm 6)) (.or (.cmp true .Eq (.nm 5) (.nm 2)) (.cmp true .Eq (.nm 5) (.tup (.cons (.nm 2) (.cons (.ty "tuple" (.cons (.nm 3) .nil)) (.cons (.nm 4) .nil)))))))) (.cons (.ret (.cst (.bl false))) .nil) .nil) (.cons (.ife (.or (.cmp true .NotEq (.rpr (.cons (.tup (.cons (.fld (.nm 5) ("name" : Str)) (.cons (.fld (.nm 5) ("links" : Str)) .nil))) .nil)) (.rpr (.cons (.tup (.cons (.nm 2) (.cons (.nm 4) .nil))) .nil))) (.cmp true .NotEq (.ty "list" (.cons (.fld (.nm 5) ("parts" : Str)) .nil)) (.nm 3))) (.cons (.ret (.cst (.bl false))) .nil) .nil) (.cons (.ife (.no (.tru (.isi [(.b "tuple")] (.fld (.nm 5) ("parts" : Str))))) (.cons (.ret (.cst (.bl false))) .nil) .nil) (.cons (.set 1 (.call ("_law_bent" : Str) (.cons (.nm 0) (.cons (.tup (.cons (.nm 2) (.cons (.nm 3) (.cons (.nm 4) .nil)))) .nil)) [] .nil)) (.cons (.par [7, 8] (.cons (.call ("_law_outcome" : Str) (.cons (.ix (.nm 1) (.cst (.int 0))) (.cons (.ix (.nm 1) (.cst (.int 1))) (.cons (.ix (.nm 1) (.cst (.int 2))) .nil))) [] .nil) (.cons (.call ("_law_due" : Str) (.cons (.ix (.nm 1) (.cst (.int 0))) (.cons (.ix (.nm 1) (.cst (.int 1))) (.cons (.ix (.nm 1) (.cst (.int 2))) .nil))) [] .nil) .nil))) (.cons (.ife (.cmp true .IsNot (.nm 8) (.cst .non)) (.cons (.ret (.cmp true .Eq (.nm 7) (.nm 8))) .nil) .nil) (.cons (.ret (.and (.isi [(.c ("Table" : Str))] (.nm 7)) (.cmp true .Eq (.cmp true .Eq (.nm 7) (.nm 5)) (.cmp true .Eq (.nm 1) (.tup (.cons (.nm 2) (.cons (.nm 3) (.cons (.nm 4) .nil)))))))) .nil)))))))))⟩
def f_law : FI := ⟨bndPlain 1, false, 5, (.cons (.loop (.nm 1) (.rng (.bi true "max" (.cons (.cst (.int 1)) (.cons (.bi true "min" (.cons (.cst (.int 2)) (.cons (.bi true "len" (.cons (.nm 0) .nil)) .nil))) .nil)))) (.cons (.set 2 (.call ("_law_bag" : Str) (.cons (.nm 0) (.cons (.nm 1) .nil)) [] .nil)) (.cons (.loop (.nm 3) (.rng (.cst (.int 15))) (.cons (.ife (.no (.tru (.call ("_law_right" : Str) (.cons (.nm 2) .nil) [] .nil))) (.cons (.ret (.cst (.bl false))) .nil) .nil) .nil)) (.cons (.set 4 (.call ("Table" : Str) (.cons (.cst (.str ("a" : Str))) .nil) [] .nil)) (.cons (.ife (.cmp true .NotEq (.lst (.cons (.fld (.nm 4) ("name" : Str)) (.cons (.fld (.nm 4) ("parts" : Str)) (.cons (.fld (.nm 4) ("links" : Str)) .nil)))) (.lst (.cons (.cst (.str ("a" : Str))) (.cons (.tup .nil) (.cons (.tup .nil) .nil))))) (.cons (.ret (.cst (.bl false))) .nil) .nil) .nil))))) (.cons (.ret (.cst (.bl true))) .nil))⟩
abbrev SpTable (ow : Own) : Prop := ∀ (nm : D) (cols ids : List D) (kws : List (Str × W)) (S : Store), WF S → (kws = [(("ids" : Str), .d (.tup ids))] ∨ (kws = [] ∧ ids = [])) → Fit ow nm → (∀ x ∈ ids, FitL ow x) → ids.length ≤ 1000 → (∀ x ∈ cols, ColN x) → cols.length ≤ 1000 →
  ow.fn nTab (.d nm :: cols.map W.d) kws S = madeR nTab (tabF nm (.tup cols) (.tup ids)) (tabX nm cols ids) S
theorem fin_made {ow : Own} {cn : Str} {fs : List (Str × D)} {x : Option (Str × List (Str × D))} {S : Store} (hS : WF S) {r : R W} (hr : r = madeR cn fs x S) (env : EnvM) : finM false S.length ((RS.ofR env r kRet).seq (evSs ow .nil)) = madeR cn fs x S ∧ ∀ k, finM false S.length (((RS.ofR env r kRet).seq (evSs ow .nil)).seq k) = madeR cn fs x S := by
  rw [hr]
  unfold madeR
  split
  · exact ⟨fin_d hS false _, fun _ => fin_d hS false _⟩
  · exact ⟨fin_x hS false _ _ _, fun _ => fin_x hS false _ _ _⟩
theorem sp_table_made {ow : Own} (hT : SpTable ow) {nm : D} {cols ids : List D} {S : Store} (hS : WF S) (k1 : Fit ow nm) (k4 : ∀ x ∈ ids, FitL ow x) (k5 : ids.length ≤ 1000) (kc : ∀ x ∈ cols, ColN x) (k6 : cols.length ≤ 4) :
    evF ow f__law_table_made [.d nm, .d (.lst cols), .d (.tup ids)] [] S = madeR nTab (tabF nm (.tup cols) (.tup ids)) (tabX nm cols ids) S := by
  have call := hT nm cols ids _ S hS (.inl rfl) k1 k4 k5 kc (by omega)
  unfold f__law_table_made
  walk_at "ev2"
  match cols, k6, call with
  | [], _, call =>
    rw [show decide ((([] : List D).length : Int) = 0) = true from rfl]
    walk_at "ev2"
    exact (fin_made hS call _).2 _
  | [a], _, call =>
    rw [show decide ((([a] : List D).length : Int) = 0) = false from rfl]
    walk_at "ev2"
    rw [show decide (((1 : Nat) : Int) = 1) = true from rfl]
    walk_at "ev2"
    exact (fin_made hS call _).2 _
  | [a, b], _, call =>
    rw [show decide ((([a, b] : List D).length : Int) = 0) = false from rfl]
    walk_at "ev2"
    rw [show decide (((2 : Nat) : Int) = 1) = false from rfl]
    walk_at "ev2"
    rw [show decide (((2 : Nat) : Int) = 2) = true from rfl]
    walk_at "ev2"
    exact (fin_made hS call _).2 _
  | [a, b, c], _, call =>
    rw [show decide ((([a, b, c] : List D).length : Int) = 0) = false from rfl]
    walk_at "ev2"
    rw [show decide (((3 : Nat) : Int) = 1) = false from rfl]
    walk_at "ev2"
    rw [show decide (((3 : Nat) : Int) = 2) = false from rfl]
    walk_at "ev2"
    rw [show decide (((3 : Nat) : Int) = 3) = true from rfl]
    walk_at "ev2"
    exact (fin_made hS call _).2 _
  | [a, b, c, d], _, call =>
    rw [show decide ((([a, b, c, d] : List D).length : Int) = 0) = false from rfl]
    walk_at "ev2"
    rw [show decide (((4 : Nat) : Int) = 1) = false from rfl]
    walk_at "ev2"
    rw [show decide (((4 : Nat) : Int) = 2) = false from rfl]
    walk_at "ev2"
    rw [show decide (((4 : Nat) : Int) = 3) = false from rfl]
    walk_at "ev2"
    exact (fin_made hS call _).1
  | _ :: _ :: _ :: _ :: _ :: _, h, _ => simp at h
end K02

namespace K02
open PySem Mi Pr Dr K01
local macro_rules | `(tactic| walk_at "ev2") => `(tactic| simp only [List.zip_cons_cons, wipeM, eA_star, fStar, fApp, List.append_nil, l_i0, l_i1, l_i2, l_i3, t_i0, t_i1, t_i2, t_i3, od_ok, evF, bndPlain, startI, eE_nm, eE_cst, eE_bin, eE_no, eE_neg, eE_cmp, eE_chain, eE_and, eE_or, eE_ife, eE_ix, eE_sl, eE_tup, eE_lst, eE_box, eE_comp, eE_call, eE_isi, eE_bi, eE_lens, eE_rpr, eE_ty, eE_bty, eE_mt, eE_lm, eE_fld, eT_no, eT_and, eT_or, eT_cmp, eT_chain, eT_tru, eT_yes, eA_nil, eA_cons, eO_non, eO_som, eI_rng, eI_it, eS_expr, eS_set, eS_asg, eS_par, eS_putix, eS_putf, eS_ret, eS_ret0, eS_pass, eS_brk, eS_cont, eS_ife, eS_loop, eS_whil, eS_raise, eS_tri, eSs_nil, eSs_cons, fBin, fNo, fCmp, fCh1, fCh2, ch_t, ch_f, fIx, fSl, fSl2, fCall, fCall2, fMt, fMt2, fCons, fCons2, fNot, fRng1, kNext, kSet, kAsg, kPar, kPut, kPut2, kPut3, kFld, kFld2, kRet, kFor, fComp, asEnv, tgW, asgIs, putAllM, b_ok, b_exc, b_bad, o_ok, o_exc, s_next, s_ret, s_exc, s_brk, s_cont, ab_ok, tr_bl, g_0, g_s, if_t, if_f, anE_t, anE_f, orE_t, orE_f, an_t, an_f, or_t, or_f, ng_i, rg_i, ne_s, ns_s, tri_x, tri_r, tri_n, it_l, it_t, it_s, po_i, fl_n, add_i, sub_i, cw_lt, cw_le, lt_i, le_i, gt_i, ge_i, eq_i, ne_i, eq_s, ne_s', is_n, isnt_n, len_l, len_t, tn_n, tn_c, tn_b, tn_r, tn_x, l_0, t_0, l_1, t_1, l_2, t_2, l_3, t_3, l_4, t_4, l_5, t_5, l_6, t_6, l_7, t_7, l_8, t_8, l_9, l_10, l_11, l_12, l_13, l_14, l_15, l_16, l_17, l_18, l_19, bx_0, sl_l, sl_t, List.isEmpty_nil, Bool.true_and, List.length_cons, List.length_nil, decide_true, decide_false, eq_self, Int.reduceEq, Int.reduceAdd, Int.reduceSub, Int.reduceLT, Int.reduceLE, if_true, if_false, List.map_cons, List.map_nil, List.cons_append, List.nil_append, Nat.zero_add, Nat.reduceAdd, Nat.reduceSub, List.replicate_zero, List.replicate_succ, List.set_cons_zero, List.set_cons_succ, List.zip_nil_left, List.zip_nil_right, Bool.not_true, Bool.not_false, Bool.false_eq_true, reduceIte])
/-- what speaks against a table, by a word and what is shown -/
def tabK (nm : D) (cols ids : List D) : Option (Str × D) :=
  if !isName nm then some (("name" : Str), nm)
  else match badLink acts3 ids with
    | some x => some (("action" : Str), x)
    | none => if twins (strOf nm :: ids.map aim) || (decide (4 < ids.length) || (decide (3 < cols.length) || twins (cols.map cname))) then some (("table" : Str), nm) else none
inductive T3 : Str × D → Str × List (Str × D) → Prop
  | n (v : D) : T3 (("name" : Str), v) (("BadName" : Str), [(("value" : Str), v)])
  | a (v : D) : T3 (("action" : Str), v) (("BadAction" : Str), [(("value" : Str), v)])
  | c (v : D) : T3 (("table" : Str), v) (("BadTable" : Str), [(("name" : Str), v)])
theorem tab_K3 (nm : D) (cols ids : List D) : (tabK nm cols ids = none ∧ tabX nm cols ids = none) ∨ ∃ p q, tabK nm cols ids = some p ∧ tabX nm cols ids = some q ∧ T3 p q := by
  unfold tabK tabX
  split
  · exact .inr ⟨_, _, rfl, rfl, .n _⟩
  · cases badLink acts3 ids with
    | some x => exact .inr ⟨_, _, rfl, rfl, .a _⟩
    | none =>
      dsimp only
      split
      · exact .inr ⟨_, _, rfl, rfl, .c _⟩
      · exact .inl ⟨rfl, rfl⟩
def outT (nm : D) (cols ids : List D) : D := match tabK nm cols ids with
  | none => tabD nm (.tup cols) (.tup ids)
  | some (k, v) => .tup [.str k, .str v.py.shown, .bl false]
abbrev xNames : List Str := [("BadName" : Str), ("BadAction" : Str), ("BadTable" : Str), ("BadColumn" : Str)]
structure XT (ow : Own) : Prop where
  m : ∀ c ∈ xNames, ∀ k ∈ xNames, ow.exm c (.c k) = some (decide (c = k))
  x : ∀ c ∈ xNames, c ∈ ow.xcs
  i : ∀ c ∈ xNames, ∀ k ∈ xNames, ow.isa (.c c) (.c k) = some (decide (c = k))
  f1 : ow.xflds.contains (("BadName" : Str), ("value" : Str)) = true
  f2 : ow.xflds.contains (("BadAction" : Str), ("value" : Str)) = true
  f3 : ow.xflds.contains (("BadTable" : Str), ("name" : Str)) = true
theorem isi_x3 {ow : Own} {c : Str} {fs : List (Str × D)} {p q r : Kd} (hc : c ∈ ow.xcs) (h1 : ow.isa (.c c) p = some false) (h2 : ow.isa (.c c) q = some false) (h3 : ow.isa (.c c) r = some false) (S : Store) : isiM ow [p, q, r] (.x c fs) S = .ok (.d (.bl false)) S := by
  unfold isiM
  rw [show tyW ow S (.x c fs) = some (.c c) from if_pos (List.contains_iff_mem.mpr hc)]
  dsimp only [isaAny]
  rw [h1, h2, h3]
theorem sp_outcome {ow : Own} (X : XT ow) {nm : D} {cols ids : List D} {S : Store} (hM : ow.fn ("_law_table_made" : Str) [.d nm, .d (.lst cols), .d (.tup ids)] [] S = madeR nTab (tabF nm (.tup cols) (.tup ids)) (tabX nm cols ids) S)
    (hS : WF S) (hX : noxS S = true) (hsh : ∀ k v, tabK nm cols ids = some (k, v) → Shw v) :
    evF ow f__law_outcome [.d nm, .d (.lst cols), .d (.tup ids)] [] S = .ok (.d (outT nm cols ids)) S := by
  have ex : ∀ c ∈ xNames, ∀ k ∈ xNames, ∀ b, decide (c = k) = b → ow.exm c (.c k) = some b := fun c hc k hk b e => (X.m c hc k hk).trans (congrArg some e)
  have is : ∀ c ∈ xNames, ∀ k ∈ xNames, ∀ b, decide (c = k) = b → ow.isa (.c c) (.c k) = some b := fun c hc k hk b e => (X.i c hc k hk).trans (congrArg some e)
  have nb := ex ("BadAction" : Str) (by simp [xNames]) ("BadName" : Str) (by simp [xNames]) false (by decide +kernel)
  have nc := ex ("BadTable" : Str) (by simp [xNames]) ("BadName" : Str) (by simp [xNames]) false (by decide +kernel)
  have ac := ex ("BadTable" : Str) (by simp [xNames]) ("BadAction" : Str) (by simp [xNames]) false (by decide +kernel)
  have nn := ex ("BadName" : Str) (by simp [xNames]) ("BadName" : Str) (by simp [xNames]) true (by decide +kernel)
  have aa := ex ("BadAction" : Str) (by simp [xNames]) ("BadAction" : Str) (by simp [xNames]) true (by decide +kernel)
  have cc := ex ("BadTable" : Str) (by simp [xNames]) ("BadTable" : Str) (by simp [xNames]) true (by decide +kernel)
  unfold f__law_outcome outT
  walk_at "ev2"
  rw [hM]
  unfold madeR
  rcases tab_K3 nm cols ids with ⟨e1, e2⟩ | ⟨p, q, e1, e2, k3⟩
  · rw [e1, e2]
    walk_at "ev2"
    exact fin_d hS false _
  · rw [e1, e2]
    cases k3 with
    | n v =>
      have sh := hsh _ _ e1
      walk_at "ev2"
      rw [eH_t nn, hd_ret (X.x _ (by simp [xNames])) hX (d := .tup [.str ("name" : Str), .str v.py.shown, .bl false])]
      · walk_at "ev2"
        exact fin_d hS false _
      · walk_at "ev2"
        rw [fld_x X.f1 rfl]
        walk_at "ev2"
        rw [repr_d sh]
        walk_at "ev2"
        rw [isi_x3 (X.x _ (by simp [xNames])) (is _ (by simp [xNames]) _ (by simp [xNames]) false (by decide +kernel)) (is _ (by simp [xNames]) _ (by simp [xNames]) false (by decide +kernel)) (is _ (by simp [xNames]) _ (by simp [xNames]) false (by decide +kernel))]
        walk_at "ev2"
    | a v =>
      have sh := hsh _ _ e1
      walk_at "ev2"
      rw [eH_f nb, eH_t aa, hd_ret (X.x _ (by simp [xNames])) hX (d := .tup [.str ("action" : Str), .str v.py.shown, .bl false])]
      · walk_at "ev2"
        exact fin_d hS false _
      · walk_at "ev2"
        rw [fld_x X.f2 rfl]
        walk_at "ev2"
        rw [repr_d sh]
        walk_at "ev2"
        rw [isi_x3 (X.x _ (by simp [xNames])) (is _ (by simp [xNames]) _ (by simp [xNames]) false (by decide +kernel)) (is _ (by simp [xNames]) _ (by simp [xNames]) false (by decide +kernel)) (is _ (by simp [xNames]) _ (by simp [xNames]) false (by decide +kernel))]
        walk_at "ev2"
    | c v =>
      have sh := hsh _ _ e1
      walk_at "ev2"
      rw [eH_f nc, eH_f ac, eH_t cc, hd_ret (X.x _ (by simp [xNames])) hX (d := .tup [.str ("table" : Str), .str v.py.shown, .bl false])]
      · walk_at "ev2"
        exact fin_d hS false _
      · walk_at "ev2"
        rw [fld_x X.f3 rfl]
        walk_at "ev2"
        rw [repr_d sh]
        walk_at "ev2"
        rw [isi_x3 (X.x _ (by simp [xNames])) (is _ (by simp [xNames]) _ (by simp [xNames]) false (by decide +kernel)) (is _ (by simp [xNames]) _ (by simp [xNames]) false (by decide +kernel)) (is _ (by simp [xNames]) _ (by simp [xNames]) false (by decide +kernel))]
        walk_at "ev2"
theorem word_same : f__law_is_word = f_is_name := rfl
abbrev SpMay (ow : Own) : Prop := ∀ (v : D) (S : Store), WF S → FitL ow v → ow.fn ("_law_may_link" : Str) [.d v] [] S = .ok (.d (.bl (isLink acts3 v))) S
theorem sp_may_link {ow : Own} (h1 : isaB ow "str" = true) (h2 : isaB ow "tuple" = true) (hw : SpWord ow) {v : D} {S : Store} (hS : WF S) (k : FitL ow v) :
    evF ow f__law_may_link [.d v] [] S = .ok (.d (.bl (isLink acts3 v))) S := by
  unfold f__law_may_link
  walk_at "ev2"
  rw [isi_b h2 S k.k]
  cases v with
  | tup xs =>
    rw [show isT "tuple" (.tup xs) = true from rfl]
    walk_at "ev2"
    match xs, k.p xs rfl with
    | [], _ =>
      rw [show (decide (((([] : List D).length : Nat) : Int) = 2)) = false from rfl]
      walk_at "ev2"
      rw [fin_d hS]; rfl
    | [a], _ =>
      rw [show (decide (((([a] : List D).length : Nat) : Int) = 2)) = false from rfl]
      walk_at "ev2"
      rw [fin_d hS]; rfl
    | [a, b], kp =>
      rw [show (decide (((([a, b] : List D).length : Nat) : Int) = 2)) = true from rfl]
      walk_at "ev2"
      rw [hw a S hS (kp a (by simp))]
      walk_at "ev2"
      show _ = R.ok (W.d (D.bl (isName a && inActs acts3 b))) S
      cases isName a
      · walk_at "ev2"
        rw [fin_d hS]; rfl
      · walk_at "ev2"
        rw [isi_b h1 S (kp b (by simp)).k]
        cases b with
        | str s =>
          rw [show isT "str" (.str s) = true from rfl]
          walk_at "ev2"
          rw [show [D.str ("cascade" : Str), D.str ("restrict" : Str), D.str ("no_action" : Str)] = acts3.map D.str from rfl, in_acts (acts := acts3) .t]
          walk_at "ev2"
          rw [fin_d hS]; rfl
        | _ =>
          rw [show isT "str" _ = false from rfl]
          walk_at "ev2"
          rw [fin_d hS]; rfl
    | a :: b :: c :: r, _ =>
      rw [show (decide ((((a :: b :: c :: r : List D).length : Nat) : Int) = 2)) = false from decide_eq_false (by simp only [List.length_cons]; omega)]
      walk_at "ev2"
      rw [fin_d hS]; rfl
  | _ =>
    rw [show isT "tuple" _ = false from rfl]
    walk_at "ev2"
    rw [fin_d hS]; rfl
def dueT (nm : D) (cols ids : List D) : D := match tabK nm cols ids with
  | none => .non
  | some (k, v) => .tup [.str k, .str v.py.shown, .bl false]
theorem twins_dd (xs : List Str) : decide (((dd [] xs).length : Int) < ((List.map D.str xs).length : Int)) = twins xs := decide_eq_decide.mpr (by simp)
theorem sp_due {ow : Own} (TC : ColT ow) (hw : SpWord ow) (hm : SpMay ow) {nm : D} {cols ids : List D} {S : Store} (hS : WF S) (k1 : Fit ow nm) (k4 : ∀ x ∈ ids, FitL ow x) (k5 : ids.length ≤ 100) (kc : ∀ x ∈ cols, ColN x) (k7 : cols.length ≤ 100) (k6 : ∀ x ∈ ids, Ok 60 x)
    (shn : Shw nm) (shl : ∀ x ∈ ids, Shw x) :
    evF ow f__law_due [.d nm, .d (.lst cols), .d (.tup ids)] [] S = .ok (.d (dueT nm cols ids)) S := by
  unfold f__law_due
  walk_at "ev2"
  rw [hw nm S hS k1]
  unfold dueT tabK
  cases hnm : isName nm with
  | false =>
    walk_at "ev2"
    rw [repr_d shn]
    walk_at "ev2"
    exact fin_d hS false _
  | true =>
    obtain ⟨s, rfl⟩ : ∃ s, nm = .str s := by cases nm <;> first | exact ⟨_, rfl⟩ | cases hnm
    walk_at "ev2"
    rw [comp_filter (fun x => !isLink acts3 x) id hS (by omega) (fun x hx => by
      refine ⟨_, fun _ => rfl, fun ac => ⟨?_, fun _ => rfl⟩⟩
      have wf : WF (tmpS S ac) := wf_app hS (pure_below _ _)
      simp only [wipeM, List.set_cons_zero, List.set_cons_succ]
      walk_at "ev2"
      rw [hm x _ wf (k4 x hx)]
      walk_at "ev2")]
    rw [List.map_id]
    walk_at "ev2"
    rw [ne_nil (fun x hx => k6 x ((List.mem_filter.mp hx).1))]
    unfold badLink
    rw [find_filter]
    cases hf : ids.filter (fun x => !isLink acts3 x) with
    | cons x r =>
      have hx : x ∈ ids := (List.mem_filter.mp (hf ▸ List.mem_cons_self ..)).1
      rw [show ((x :: r).isEmpty) = false from rfl]
      walk_at "ev2"
      rw [repr_d (shl x hx)]
      walk_at "ev2"
      exact fin_d hS false _
    | nil =>
      have good : ∀ x ∈ ids, isLink acts3 x = true := fun x hx => by
        cases h : isLink acts3 x with
        | true => rfl
        | false =>
          have : x ∈ ids.filter (fun x => !isLink acts3 x) := List.mem_filter.mpr ⟨hx, by rw [h]; rfl⟩
          rw [hf] at this
          cases this
      rw [show (([] : List D).isEmpty) = true from rfl]
      walk_at "ev2"
      rw [comp_map fst2 hS (by omega) (fun x hx => by
        obtain ⟨t, a, rfl, _, _⟩ := link_form (good x hx)
        exact ⟨_, fun _ => rfl, fun ac => ⟨rfl, rfl⟩⟩)]
      walk_at "ev2"
      rw [aims_eq good, add_l (by simp; omega)]
      walk_at "ev2"
      rw [comp_map (fun x => .str (cname x)) hS (by omega) (fun x hx => ⟨_, fun _ => rfl, fun ac => ⟨rfl, by walk_at "ev2"; rw [names_of TC (kc x hx)]⟩⟩)]
      walk_at "ev2"
      rw [show D.str s :: List.map D.str (List.map aim ids) = (s :: ids.map aim).map D.str from rfl, show (List.map (fun x => D.str (cname x)) cols) = (cols.map cname).map D.str from by rw [List.map_map]; rfl]
      rw [lens_strs (by simp; omega)]
      walk_at "ev2"
      rw [show decide (((dd [] (s :: List.map aim ids)).length : Int) < (((List.map D.str (List.map aim ids)).length + 1 : Nat) : Int)) = twins (s :: ids.map aim) from twins_dd (s :: ids.map aim), show strOf (.str s) = s from rfl]
      cases htw : twins (s :: ids.map aim) with
      | true =>
        walk_at "ev2"
        rw [repr_d shn]
        walk_at "ev2"
        exact fin_d hS false _
      | false =>
        walk_at "ev2"
        rw [show decide ((4 : Int) < ids.length) = decide (4 < ids.length) from decide_eq_decide.mpr (by omega)]
        cases h4 : decide (4 < ids.length) with
        | true =>
          walk_at "ev2"
          rw [repr_d shn]
          walk_at "ev2"
          exact fin_d hS false _
        | false =>
          walk_at "ev2"
          rw [show decide ((3 : Int) < cols.length) = decide (3 < cols.length) from decide_eq_decide.mpr (by omega)]
          cases h3 : decide (3 < cols.length) with
          | true =>
            walk_at "ev2"
            rw [repr_d shn]
            walk_at "ev2"
            exact fin_d hS false _
          | false =>
            walk_at "ev2"
            rw [lens_strs (by simp; omega)]
            walk_at "ev2"
            rw [twins_dd]
            cases htc : twins (cols.map cname) with
            | true =>
              walk_at "ev2"
              rw [repr_d shn]
              walk_at "ev2"
              exact fin_d hS false _
            | false =>
              walk_at "ev2"
              exact fin_d hS false _
end K02

namespace K02
open PySem Mi Pr Dr K01
local macro_rules | `(tactic| walk_at "ev2") => `(tactic| simp only [List.zip_cons_cons, wipeM, eA_star, fStar, fApp, List.append_nil, l_i0, l_i1, l_i2, l_i3, t_i0, t_i1, t_i2, t_i3, od_ok, evF, bndPlain, startI, eE_nm, eE_cst, eE_bin, eE_no, eE_neg, eE_cmp, eE_chain, eE_and, eE_or, eE_ife, eE_ix, eE_sl, eE_tup, eE_lst, eE_box, eE_comp, eE_call, eE_isi, eE_bi, eE_lens, eE_rpr, eE_ty, eE_bty, eE_mt, eE_lm, eE_fld, eT_no, eT_and, eT_or, eT_cmp, eT_chain, eT_tru, eT_yes, eA_nil, eA_cons, eO_non, eO_som, eI_rng, eI_it, eS_expr, eS_set, eS_asg, eS_par, eS_putix, eS_putf, eS_ret, eS_ret0, eS_pass, eS_brk, eS_cont, eS_ife, eS_loop, eS_whil, eS_raise, eS_tri, eSs_nil, eSs_cons, fBin, fNo, fCmp, fCh1, fCh2, ch_t, ch_f, fIx, fSl, fSl2, fCall, fCall2, fMt, fMt2, fCons, fCons2, fNot, fRng1, kNext, kSet, kAsg, kPar, kPut, kPut2, kPut3, kFld, kFld2, kRet, kFor, fComp, asEnv, tgW, asgIs, putAllM, b_ok, b_exc, b_bad, o_ok, o_exc, s_next, s_ret, s_exc, s_brk, s_cont, ab_ok, tr_bl, g_0, g_s, if_t, if_f, anE_t, anE_f, orE_t, orE_f, an_t, an_f, or_t, or_f, ng_i, rg_i, ne_s, ns_s, tri_x, tri_r, tri_n, it_l, it_t, it_s, po_i, fl_n, add_i, sub_i, cw_lt, cw_le, lt_i, le_i, gt_i, ge_i, eq_i, ne_i, eq_s, ne_s', is_n, isnt_n, len_l, len_t, tn_n, tn_c, tn_b, tn_r, tn_x, l_0, t_0, l_1, t_1, l_2, t_2, l_3, t_3, l_4, t_4, l_5, t_5, l_6, t_6, l_7, t_7, l_8, t_8, l_9, l_10, l_11, l_12, l_13, l_14, l_15, l_16, l_17, l_18, l_19, bx_0, sl_l, sl_t, List.isEmpty_nil, Bool.true_and, List.length_cons, List.length_nil, decide_true, decide_false, eq_self, Int.reduceEq, Int.reduceAdd, Int.reduceSub, Int.reduceLT, Int.reduceLE, if_true, if_false, List.map_cons, List.map_nil, List.cons_append, List.nil_append, Nat.zero_add, Nat.reduceAdd, Nat.reduceSub, List.replicate_zero, List.replicate_succ, List.set_cons_zero, List.set_cons_succ, List.zip_nil_left, List.zip_nil_right, Bool.not_true, Bool.not_false, Bool.false_eq_true, reduceIte])
abbrev SpColumn2 (ow : Own) : Prop := ∀ (nm nul df : D) (refs : List D) (kws : List (Str × W)) (S : Store), WF S → (∀ w, bndCol (w :: .d nm :: refs.map W.d) kws = some [w, .d nm, .d nul, .d df, .d (.tup refs)]) → Fit ow nm → Kn ow nul → Kn ow df → (∀ x ∈ refs, FitL ow x) → refs.length ≤ 1000 →
  ow.fn nCol (.d nm :: refs.map W.d) kws S = madeR nCol (colF nm (.tup refs) nul df) (colX nm refs nul df) S
abbrev cTitles : List Str := [("x" : Str), ("y" : Str), ("z" : Str), ("v" : Str), ("w" : Str)]
abbrev cLinks : List (List (Str × Str)) := [[], [(("b" : Str), ("cascade" : Str))], [(("b" : Str), ("restrict" : Str))]]
theorem cX : (cTitles.all fun t => cLinks.all fun l => [true, false].all fun b => (colX (.str t) (l.map linkD) (.bl b) .non).isNone && (l.map linkD).all goodL && goodB (.str t)) = true := by decide +kernel
/-- a column of the law -/
theorem col_new {ow : Own} (hC : SpColumn2 ow) {t : Str} {l : List (Str × Str)} {b : Bool} {kws : List (Str × W)} {S : Store} (hS : WF S) (ht : t ∈ cTitles) (hl : l ∈ cLinks) (hk : ∀ w, bndCol (w :: .d (.str t) :: (l.map linkD).map W.d) kws = some [w, .d (.str t), .d (.bl b), .d .non, .d (.tup (l.map linkD))]) :
    ow.fn nCol (.d (.str t) :: (l.map linkD).map W.d) kws S = .ok (.d (colD (.str t) (.tup (l.map linkD)) (.bl b) .non)) S := by
  have q := List.all_eq_true.mp (List.all_eq_true.mp (List.all_eq_true.mp cX t ht) l hl) b (by cases b <;> simp)
  simp only [Bool.and_eq_true] at q
  obtain ⟨⟨q1, q2⟩, q3⟩ := q
  rw [hC (.str t) (.bl b) .non (l.map linkD) kws S hS hk (good_of q3).f (noIns_kn rfl) (noIns_kn rfl) (fun x hx => (goodL_of (List.all_eq_true.mp q2 x hx)).l) (by
    simp only [cLinks, List.mem_cons, List.not_mem_nil, or_false] at hl
    rcases hl with rfl | rfl | rfl <;> decide)]
  unfold madeR
  rw [Option.isNone_iff_eq_none.mp q1]
  rfl
theorem bnd_nul (w : W) (t : Str) (l : List (Str × Str)) (b : Bool) (hl : l.length ≤ 1000) : bndCol (w :: .d (.str t) :: (l.map linkD).map W.d) [(("nullable" : Str), .d (.bl b))] = some [w, .d (.str t), .d (.bl b), .d .non, .d (.tup (l.map linkD))] := bnd_of (by kernel_rfl) (by simp; omega)
theorem bnd_no (w : W) (t : Str) (l : List (Str × Str)) (hl : l.length ≤ 1000) : bndCol (w :: .d (.str t) :: (l.map linkD).map W.d) [] = some [w, .d (.str t), .d (.bl false), .d .non, .d (.tup (l.map linkD))] := bnd_of (by kernel_rfl) (by simp; omega)
theorem mul_1 (x : D) (k : Int) (h0 : 0 ≤ k) (h1 : k ≤ 5) (S : Store) : binW .Mult (.d (.lst [x])) (.d (.int k)) S = .ok (.d (.lst (List.replicate k.toNat x))) S := by
  show (if decide (-(2 ^ 63) ≤ k) && decide (k < 2 ^ 63) && decide (1 * k.toNat ≤ 100000) then R.ok (W.d (.lst (List.replicate k.toNat [x]).flatten)) S else R.bad) = _
  rw [if_pos (by rw [decide_eq_true (by omega), decide_eq_true (by omega), decide_eq_true (by omega)]; rfl)]
  rw [show (List.replicate k.toNat [x]).flatten = List.replicate k.toNat x from by
    induction k.toNat with
    | zero => rfl
    | succ n ih => rw [List.replicate_succ, List.flatten_cons, ih]; rfl]
theorem eq_nil {ow : Own} {xs : List D} (h : ∀ x ∈ xs, Ok 60 x) (k : Bool) (S : Store) : cmpX ow k .Eq (.d (.lst xs)) (.d (.lst [])) S = .ok (.d (.bl xs.isEmpty)) S := by
  rw [cx_eq S rfl, eqW_d S false (eqD_ok (Ok.lst h) (Ok.lst (n := 0) (xs := []) (fun _ h => nomatch h))), od_ok]
  cases xs <;> simp [D.py, pyL, PyData.eqv, PyData.eqvAll]
theorem ati1 {S : Store} {i : Nat} {c : Cell} (h : S[i]? = some c) (T : Store) : (S ++ T)[i]? = some c := by
  rw [List.getElem?_append_left (List.getElem?_eq_some_iff.mp h).1, h]
theorem seti1 {S : Store} {i : Nat} {c d : Cell} (h : S[i]? = some c) (T : Store) : (S ++ T).set i d = S.set i d ++ T := List.set_append_left _ _ (List.getElem?_eq_some_iff.mp h).1
abbrev bodyD : ISs := (.cons (.set 4 (.bin .Mult (.lst (.cons (.tup (.cons (.cst (.str ("b" : Str))) (.cons (.call ("_law_of" : Str) (.cons (.nm 0) (.cons (.lst (.cons (.cst (.str ("cascade" : Str))) (.cons (.cst (.str ("restrict" : Str))) .nil))) .nil)) [] .nil) .nil))) .nil)) (.call ("_law_take" : Str) (.cons (.nm 0) (.cons (.cst (.int 2)) .nil)) [] .nil))) (.cons (.ife (.cmp true .Eq (.nm 4) (.lst .nil)) (.cons (.expr (.mt (.nm 1) ("append" : Str) (.cons (.call ("Column" : Str) (.cons (.nm 2) .nil) [("nullable" : Str)] (.cons (.cmp true .Eq (.call ("_law_take" : Str) (.cons (.nm 0) (.cons (.cst (.int 2)) .nil)) [] .nil) (.cst (.int 0))) .nil)) .nil) [] .nil)) .nil) (.cons (.expr (.mt (.nm 1) ("append" : Str) (.cons (.call ("Column" : Str) (.cons (.nm 2) (.cons (.ix (.nm 4) (.cst (.int 0))) .nil)) [("nullable" : Str)] (.cons (.cmp true .Eq (.call ("_law_take" : Str) (.cons (.nm 0) (.cons (.cst (.int 2)) .nil)) [] .nil) (.cst (.int 0))) .nil)) .nil) [] .nil)) .nil)) .nil))
theorem loop_cols {ow : Own} (ht : SpTake (ow.fn ("_law_take" : Str))) (hof : SpOf (ow.fn ("_law_of" : Str))) (hC : SpColumn2 ow) {i : Nat} {sl : Nat} {o3 : Option W} : ∀ (ts : List Str) (S : Store) (n : Nat) (c : Cell) (cols : List D) (o2 o4 : Option W), (∀ t ∈ ts, t ∈ cTitles) → WF S → S[i]? = some c → Bag n c → n + 3 * ts.length ≤ 1000000000 → cols.length + ts.length ≤ 1000 → sl = S.length →
    ∃ (o2' o4' : Option W) (c' : Cell) (new : List D), forL (fun _ => tgW (.nm 2)) (evSs ow bodyD) ((ts.map D.str).map W.d) [some (.o i), some (.o sl), o2, o3, o4] (S ++ [.lst (cols.map W.d)]) = .next [some (.o i), some (.o sl), o2', o3, o4'] (S.set i c' ++ [.lst ((cols ++ new).map W.d)]) ∧ new.map cname = ts ∧ (∀ x ∈ new, ColV x) ∧ Bag (n + 3 * ts.length) c'
  | [], S, n, c, cols, o2, o4, _, hS, hc, hb, _, _, _ => by
    have same : S.set i c = S := by
      refine List.ext_getElem? fun k => ?_
      rw [List.getElem?_set]
      split
      · rename_i e
        subst e
        rw [if_pos (List.getElem?_eq_some_iff.mp hc).1, hc]
      · rfl
    exact ⟨o2, o4, c, [], by rw [same, List.append_nil]; rfl, rfl, fun _ h => (nomatch h), hb⟩
  | t :: ts, S, n, c, cols, o2, o4, htt, hS, hc, hb, hn, hcl, hsl => by
    rw [List.length_cons] at hn hcl
    have htm := htt t (List.mem_cons_self ..)
    rw [List.map_cons, List.map_cons, fl_c (h := rfl)]
    have hS1 : WF (S ++ [.lst (cols.map W.d)]) := wf_app hS (pure_below _ _)
    walk_at "ev2"
    obtain ⟨a, c1, e1, ha, b1⟩ := hof _ i n c [.str ("cascade" : Str), .str ("restrict" : Str)] hS1 (ati1 hc _) hb (by omega) (by simp) (by simp)
    rw [e1, seti1 hc]
    walk_at "ev2"
    have hc1 : (S.set i c1)[i]? = some c1 := at_set hc
    have hS2 : WF (S.set i c1 ++ [.lst (cols.map W.d)]) := wf_app (wf_set hS b1.below) (pure_below _ _)
    obtain ⟨r, c2, e2, r0, r1, b2⟩ := ht _ i (n + 1) c1 2 hS2 (ati1 hc1 _) b1 (by omega) (by decide) (by decide)
    rw [e2, seti1 hc1, set2]
    walk_at "ev2"
    rw [mul_1 _ r r0 (by omega)]
    walk_at "ev2"
    have hc2 : (S.set i c2)[i]? = some c2 := at_set hc
    have hS3 : WF (S.set i c2 ++ [.lst (cols.map W.d)]) := wf_app (wf_set hS b2.below) (pure_below _ _)
    obtain ⟨r', c3, e3, r0', r1', b3⟩ := ht _ i (n + 2) c2 2 hS3 (ati1 hc2 _) b2 (by omega) (by decide) (by decide)
    rw [seti1 hc2, set2] at e3
    have hlen2 : (S.set i c2).length = S.length := by simp
    have hlen3 : (S.set i c3).length = S.length := by simp
    have hS4 : WF (S.set i c3 ++ [.lst (cols.map W.d)]) := wf_app (wf_set hS b3.below) (pure_below _ _)
    have il : isLst (S.set i c2 ++ [.lst (cols.map W.d)]) (.o sl) = true := by rw [hsl, ← hlen2]; exact isLst_new _ _ []
    have app : ∀ x : D, mtW "list.append" (.o sl) [.d x] (S.set i c3 ++ [.lst (cols.map W.d)]) = .ok (.d .non) (S.set i c3 ++ [.lst ((cols ++ [x]).map W.d)]) := fun x => by
      have g0 : (S.set i c3 ++ [Cell.lst (cols.map W.d)])[sl]? = some (.lst (cols.map W.d)) := by rw [hsl, ← hlen3, at_new]
      have st : ∀ d, (S.set i c3 ++ [Cell.lst (cols.map W.d)]).set sl d = S.set i c3 ++ [d] := fun d => by rw [hsl, ← hlen3, set_new]
      rw [append_at g0 (by simp; omega), st]
      simp
    have step : ∀ (l : List (Str × Str)) (b : Bool) (o : Option W), ∃ (o2' o4' : Option W) (c' : Cell) (new : List D), forL (fun _ => tgW (.nm 2)) (evSs ow bodyD) ((ts.map D.str).map W.d) [some (.o i), some (.o sl), some (.d (.str t)), o3, o] (S.set i c3 ++ [.lst ((cols ++ [colD (.str t) (.tup (l.map linkD)) (.bl b) .non]).map W.d)]) = .next [some (.o i), some (.o sl), o2', o3, o4'] (S.set i c' ++ [.lst ((cols ++ new).map W.d)]) ∧ new.map cname = t :: ts ∧ (∀ x ∈ new, ColV x) ∧ Bag (n + 3 * (ts.length + 1)) c' := fun l b o => by
      obtain ⟨o2', o4', c', new, h1, h2, h3, h4⟩ := loop_cols ht hof hC (i := i) (sl := sl) (o3 := o3) ts (S.set i c3) (n + 3) c3 (cols ++ [colD (.str t) (.tup (l.map linkD)) (.bl b) .non]) (some (.d (.str t))) o (fun x hx => htt x (List.mem_cons_of_mem _ hx)) (wf_set hS b3.below) (at_set hc) b3 (by omega) (by simp; omega) (by simpa using hsl)
      refine ⟨o2', o4', c', colD (.str t) (.tup (l.map linkD)) (.bl b) .non :: new, ?_, ?_, ?_, h4.mono (by omega)⟩
      · rw [h1, set2, List.append_assoc]; rfl
      · rw [List.map_cons, h2]; rfl
      · intro x hx
        rcases List.mem_cons.mp hx with rfl | hx
        · exact ⟨t, l, b, .non, rfl, .inl rfl⟩
        · exact h3 x hx
    have hr : r = 0 ∨ r = 1 := by omega
    rcases hr with rfl | rfl
    · rw [show List.replicate (Int.toNat 0) (D.tup [.str ("b" : Str), a]) = [] from rfl]
      rw [eq_nil (fun _ h => by cases h)]
      rw [show (([] : List D).isEmpty) = true from rfl]
      walk_at "ev2"
      rw [mtC_lst il (id := "list.append") (by decide +kernel)]
      walk_at "ev2"
      rw [e3]
      walk_at "ev2"
      rw [show ow.fn ("Column" : Str) [.d (.str t)] [(("nullable" : Str), .d (.bl (decide (r' = 0))))] (S.set i c3 ++ [.lst (cols.map W.d)]) = .ok (.d (colD (.str t) (.tup ([].map linkD)) (.bl (decide (r' = 0))) .non)) (S.set i c3 ++ [.lst (cols.map W.d)]) from col_new hC hS4 htm (l := []) (by simp [cLinks]) fun w => bnd_nul w t [] _ (by decide)]
      walk_at "ev2"
      rw [app]
      walk_at "ev2"
      exact step [] _ _
    · rw [show List.replicate (Int.toNat 1) (D.tup [.str ("b" : Str), a]) = [D.tup [.str ("b" : Str), a]] from rfl]
      simp only [List.mem_cons, List.not_mem_nil, or_false] at ha
      have hl : ∃ l ∈ cLinks, l.map linkD = [D.tup [.str ("b" : Str), a]] ∧ l.length ≤ 1000 := by
        rcases ha with rfl | rfl
        · exact ⟨[(("b" : Str), ("cascade" : Str))], by simp [cLinks], rfl, by decide⟩
        · exact ⟨[(("b" : Str), ("restrict" : Str))], by simp [cLinks], rfl, by decide⟩
      obtain ⟨l, hl1, hl2, hl3⟩ := hl
      rw [eq_nil (fun x hx => by
        rw [List.mem_singleton] at hx
        subst hx
        rcases ha with rfl | rfl <;> exact (gd_of (d := 50) (m := 200) (by decide +kernel)).ok.mono (by decide))]
      rw [show (([D.tup [.str ("b" : Str), a]] : List D).isEmpty) = false from rfl]
      walk_at "ev2"
      rw [mtC_lst il (id := "list.append") (by decide +kernel)]
      walk_at "ev2"
      rw [e3]
      walk_at "ev2"
      have cn := col_new hC hS4 htm (l := l) (b := decide (r' = 0)) (kws := [(("nullable" : Str), .d (.bl (decide (r' = 0))))]) hl1 fun w => bnd_nul w t l _ hl3
      rw [hl2] at cn
      rw [show ow.fn ("Column" : Str) [.d (.str t), .d (D.tup [.str ("b" : Str), a])] [(("nullable" : Str), .d (.bl (decide (r' = 0))))] (S.set i c3 ++ [.lst (cols.map W.d)]) = .ok (.d (colD (.str t) (.tup [D.tup [.str ("b" : Str), a]]) (.bl (decide (r' = 0))) .non)) (S.set i c3 ++ [.lst (cols.map W.d)]) from cn]
      walk_at "ev2"
      rw [app, ← hl2]
      walk_at "ev2"
      exact step l _ _
theorem frzL_d {f : W → Store → Option (D × Store)} {S : Store} (h : ∀ x, f (.d x) S = some (x, S)) : ∀ ds : List D, frzL f (ds.map W.d) S = some (ds, S)
  | [] => rfl
  | x :: r => by
    rw [List.map_cons, frzL, h x]
    simp only
    rw [frzL_d h r]
theorem t3_o (S : Store) (a b : D) (ds : List D) {sl : Nat} (hsl : sl = S.length) : tupOf [.d a, .o sl, .d b] (S ++ [.lst (ds.map W.d)]) = .ok (.d (.tup [a, .lst ds, b])) (S ++ [.dead]) := by
  subst hsl
  unfold tupOf
  rw [show pureL [.d a, .o S.length, .d b] = none from rfl]
  have e : frzW 6 (.o S.length) (S ++ [.lst (ds.map W.d)]) = some (.lst ds, S ++ [.dead]) := by
    unfold frzW
    simp only [at_new]
    rw [frzL_d (fun x => rfl)]
    simp only [set_new]
  have e1 : ∀ (x : D) (S : Store), frzW 6 (.d x) S = some (x, S) := fun _ _ => rfl
  simp only [frzL, e1, e]
  rfl
abbrev dTitles : List Str := [("a" : Str), ("self" : Str), ("id" : Str), ("abcdefgh" : Str)]
abbrev dNames : List Str := [("b" : Str), ("c" : Str), ("d" : Str), ("e" : Str)]
structure Drawn (t : Str) (cols : List D) (ls : List (Str × Str)) : Prop where
  t : t ∈ dTitles
  c : ∀ x ∈ cols, ColV x
  k : ∃ k, cols.map cname = [("x" : Str), ("y" : Str), ("z" : Str)].take k
  l : ∃ left, LkInv dNames acts3 4 4 left ls
abbrev SpDrawn (F : List W → List (Str × W) → Store → R W) : Prop := ∀ (S : Store) (i n : Nat) (c : Cell), WF S → S[i]? = some c → Bag n c → n + 20 ≤ 1000000000 →
  ∃ (t : Str) (cols : List D) (ls : List (Str × Str)) (c' : Cell), F [.o i] [] S = .ok (.d (.tup [.str t, .lst cols, .tup (ls.map linkD)])) (S.set i c') ∧ Drawn t cols ls ∧ Bag (n + 20) c'
theorem sp_drawn {ow : Own} (ht : SpTake (ow.fn ("_law_take" : Str))) (hof : SpOf (ow.fn ("_law_of" : Str))) (hlk : SpLk (ow.fn ("_law_links" : Str))) (hC : SpColumn2 ow) : SpDrawn (evF ow f__law_drawn) := by
  intro S i n c hS hc hb hn
  unfold f__law_drawn
  have hS1 : WF (S ++ [.lst []]) := wf_app hS rfl
  walk_at "ev2"
  obtain ⟨r, c1, e1, r0, r1, b1⟩ := ht _ i n c 4 hS1 (ati1 hc _) hb (by omega) (by decide) (by decide)
  rw [e1, seti1 hc]
  have hk : r = ((r.toNat : Nat) : Int) := by omega
  rw [hk]
  walk_at "ev2"
  rw [cut_to]
  have hlen1 : (S.set i c1).length = S.length := by simp
  have tk : [D.str ("x" : Str), D.str ("y" : Str), D.str ("z" : Str)].take r.toNat = ([("x" : Str), ("y" : Str), ("z" : Str)].take r.toNat).map D.str := by rw [List.map_take]; rfl
  rw [tk]
  obtain ⟨o2', o4', c2, new, h1, h2, h3, b2⟩ := loop_cols ht hof hC (i := i) (sl := S.length) (o3 := none) ([("x" : Str), ("y" : Str), ("z" : Str)].take r.toNat) (S.set i c1) (n + 1) c1 [] none none (fun t h => by
    have := List.mem_of_mem_take h
    simp only [List.mem_cons, List.not_mem_nil, or_false] at this
    rcases this with rfl | rfl | rfl <;> simp [cTitles]) (wf_set hS b1.below) (at_set hc) b1 (by simp; omega) (by simp; omega) hlen1.symm
  rw [List.map_nil] at h1
  rw [h1, set2, List.nil_append]
  walk_at "ev2"
  have b2 : Bag (n + 10) c2 := b2.mono (by simp; omega)
  have hc2 : (S.set i c2)[i]? = some c2 := at_set hc
  have hS3 : WF (S.set i c2 ++ [.lst (new.map W.d)]) := wf_app (wf_set hS b2.below) (pure_below _ _)
  obtain ⟨ls, left, c3, e3, hI, b3⟩ := hlk _ i (n + 10) c2 dNames acts3 4 hS3 (ati1 hc2 _) b2 (by omega) (by simp [acts3]) (by simp [acts3]) (by decide +kernel) (by decide)
  rw [seti1 hc2, set2] at e3
  have e3 : ow.fn ("_law_links" : Str) [.o i, .d (.lst [.str ("b" : Str), .str ("c" : Str), .str ("d" : Str), .str ("e" : Str)]), .d (.lst [.str ("cascade" : Str), .str ("restrict" : Str), .str ("no_action" : Str)]), .d (.int 4)] [] (S.set i c2 ++ [.lst (new.map W.d)]) = .ok (.d (.lst (ls.map linkD))) (S.set i c3 ++ [.lst (new.map W.d)]) := e3
  rw [e3]
  walk_at "ev2"
  have hc3 : (S.set i c3)[i]? = some c3 := at_set hc
  have hS4 : WF (S.set i c3 ++ [.lst (new.map W.d)]) := wf_app (wf_set hS b3.below) (pure_below _ _)
  obtain ⟨t, c4, e4, ht4, b4⟩ := hof _ i (n + 19) c3 (dTitles.map D.str) hS4 (ati1 hc3 _) b3 (by omega) (by simp [dTitles]) (by simp [dTitles])
  rw [seti1 hc3, set2] at e4
  have e4 : ow.fn ("_law_of" : Str) [.o i, .d (.lst [.str ("a" : Str), .str ("self" : Str), .str ("id" : Str), .str ("abcdefgh" : Str)])] [] (S.set i c3 ++ [.lst (new.map W.d)]) = .ok (.d t) (S.set i c4 ++ [.lst (new.map W.d)]) := e4
  rw [e4]
  walk_at "ev2"
  rw [show ∀ xs S, callTy "tuple" [.d (.lst xs)] S = .ok (.d (.tup xs)) S from fun _ _ => rfl]
  walk_at "ev2"
  have hlen4 : S.length = (S.set i c4).length := by simp
  rw [t3_o (S.set i c4) _ _ new hlen4]
  walk_at "ev2"
  obtain ⟨t', htm, rfl⟩ := List.mem_map.mp ht4
  refine ⟨t', new, ls, c4, ?_, ⟨htm, h3, ⟨_, h2⟩, ⟨left, hI⟩⟩, b4⟩
  rw [hlen4]
  exact fin_dT (wf_set hS b4.below) false _
end K02

namespace K02
open PySem Mi Pr Dr K01
local macro_rules | `(tactic| walk_at "ev2") => `(tactic| simp only [List.zip_cons_cons, wipeM, eA_star, fStar, fApp, List.append_nil, l_i0, l_i1, l_i2, l_i3, t_i0, t_i1, t_i2, t_i3, od_ok, evF, bndPlain, startI, eE_nm, eE_cst, eE_bin, eE_no, eE_neg, eE_cmp, eE_chain, eE_and, eE_or, eE_ife, eE_ix, eE_sl, eE_tup, eE_lst, eE_box, eE_comp, eE_call, eE_isi, eE_bi, eE_lens, eE_rpr, eE_ty, eE_bty, eE_mt, eE_lm, eE_fld, eT_no, eT_and, eT_or, eT_cmp, eT_chain, eT_tru, eT_yes, eA_nil, eA_cons, eO_non, eO_som, eI_rng, eI_it, eS_expr, eS_set, eS_asg, eS_par, eS_putix, eS_putf, eS_ret, eS_ret0, eS_pass, eS_brk, eS_cont, eS_ife, eS_loop, eS_whil, eS_raise, eS_tri, eSs_nil, eSs_cons, fBin, fNo, fCmp, fCh1, fCh2, ch_t, ch_f, fIx, fSl, fSl2, fCall, fCall2, fMt, fMt2, fCons, fCons2, fNot, fRng1, kNext, kSet, kAsg, kPar, kPut, kPut2, kPut3, kFld, kFld2, kRet, kFor, fComp, asEnv, tgW, asgIs, putAllM, b_ok, b_exc, b_bad, o_ok, o_exc, s_next, s_ret, s_exc, s_brk, s_cont, ab_ok, tr_bl, g_0, g_s, if_t, if_f, anE_t, anE_f, orE_t, orE_f, an_t, an_f, or_t, or_f, ng_i, rg_i, ne_s, ns_s, tri_x, tri_r, tri_n, it_l, it_t, it_s, po_i, fl_n, add_i, sub_i, cw_lt, cw_le, lt_i, le_i, gt_i, ge_i, eq_i, ne_i, eq_s, ne_s', is_n, isnt_n, len_l, len_t, tn_n, tn_c, tn_b, tn_r, tn_x, l_0, t_0, l_1, t_1, l_2, t_2, l_3, t_3, l_4, t_4, l_5, t_5, l_6, t_6, l_7, t_7, l_8, t_8, l_9, l_10, l_11, l_12, l_13, l_14, l_15, l_16, l_17, l_18, l_19, bx_0, sl_l, sl_t, List.isEmpty_nil, Bool.true_and, List.length_cons, List.length_nil, decide_true, decide_false, eq_self, Int.reduceEq, Int.reduceAdd, Int.reduceSub, Int.reduceLT, Int.reduceLE, if_true, if_false, List.map_cons, List.map_nil, List.cons_append, List.nil_append, Nat.zero_add, Nat.reduceAdd, Nat.reduceSub, List.replicate_zero, List.replicate_succ, List.set_cons_zero, List.set_cons_succ, List.zip_nil_left, List.zip_nil_right, Bool.not_true, Bool.not_false, Bool.false_eq_true, reduceIte])
theorem add_t {xs ys : List D} (h : xs.length + ys.length ≤ 100000) (S : Store) : binW .Add (.d (.tup xs)) (.d (.tup ys)) S = .ok (.d (.tup (xs ++ ys))) S := by
  show (if xs.length + ys.length ≤ 100000 then R.ok (W.d (.tup (xs ++ ys))) S else R.bad) = _
  exact if_pos h
def bTitles : List D := [.str ("" : Str), .str ("A" : Str), .str ("abcdefghi" : Str), .str ("a-b" : Str), .int 5, .non, .tup [.str ("a" : Str)], .lst [.str ("a" : Str)], .bl true]
def bOdd : List D := [.tup [.str ("b" : Str), .str ("set_null" : Str)], .tup [.str ("c" : Str), .str ("set_default" : Str)], .tup [.str ("d" : Str), .str ("Restrict" : Str)], .tup [.str ("D" : Str), .str ("cascade" : Str)], .lst [.str ("b" : Str), .str ("cascade" : Str)], .tup [.str ("b" : Str)], .non]
def bOdd2 (t : Str) : List D := [.tup [.str t, .str ("cascade" : Str)], .tup [.str ("b" : Str), .str ("restrict" : Str)]]
def bFour : List D := [.tup [.str ("f" : Str), .str ("cascade" : Str)], .tup [.str ("g" : Str), .str ("restrict" : Str)], .tup [.str ("h" : Str), .str ("no_action" : Str)], .tup [.str ("i" : Str), .str ("cascade" : Str)]]
/-- what ids may be drawn: harmless -/
structure GoodI (ow : Own) (v : D) : Prop where
  g : Good ow v
  l : FitL ow v
def goodI (v : D) : Bool := goodB v && partsB v
theorem goodI_of {ow : Own} {v : D} (h : goodI v = true) : GoodI ow v := by
  unfold goodI at h
  simp only [Bool.and_eq_true] at h
  obtain ⟨h1, h2⟩ := h
  refine ⟨good_of h1, ⟨(good_of h1).f.k, fun xs e x hx => ?_⟩⟩
  subst e
  have := List.all_eq_true.mp h2 x hx
  rw [Bool.and_eq_true] at this
  exact fit_of this.1 this.2
theorem goodI_mem {ow : Own} {ds : List D} {x : D} (h : ds.all goodI = true) (hx : x ∈ ds) : GoodI ow x := goodI_of (List.all_eq_true.mp h x hx)
theorem oddAll : (dTitles.all fun t => (bOdd ++ bOdd2 t).all goodI) = true := by decide +kernel
structure Bent (ow : Own) (x : D) : Prop where
  e : ∃ t cols ids, x = .tup [t, .lst cols, .tup ids] ∧ Good ow t ∧ (∀ y ∈ ids, GoodI ow y) ∧ ids.length ≤ 8 ∧ (∀ y ∈ cols, ColV y) ∧ cols.length ≤ 4
abbrev SpBent (F : List W → List (Str × W) → Store → R W) (ow : Own) : Prop := ∀ (S : Store) (i n : Nat) (c : Cell) (t : Str) (cols ids : List D), WF S → S[i]? = some c → Bag n c → n + 3 ≤ 1000000000 → t ∈ dTitles → (∀ y ∈ ids, GoodI ow y) → ids.length ≤ 4 → (∀ y ∈ cols, ColV y) → cols.length ≤ 3 →
  ∃ (x : D) (c' : Cell), F [.o i, .d (.tup [.str t, .lst cols, .tup ids])] [] S = .ok (.d x) (S.set i c') ∧ Bent ow x ∧ Bag (n + 3) c'
theorem sp_bent {ow : Own} (ht : SpTake (ow.fn ("_law_take" : Str))) (hof : SpOf (ow.fn ("_law_of" : Str))) (hC : SpColumn2 ow) : SpBent (evF ow f__law_bent) ow := by
  intro S i n c t cols ids hS hc hb hn htt gL hL gC hcl
  obtain ⟨r, c1, e1, r0, r1, b1⟩ := ht S i n c 5 hS hc hb (by omega) (by decide) (by decide)
  have hS1 := wf_set (i := i) hS (b1.below (m := S.length))
  have hc1 : (S.set i c1)[i]? = some c1 := at_set hc
  have gt : Good ow (.str t) := by
    have : (dTitles.all fun t => goodB (.str t)) = true := by decide +kernel
    exact good_of (List.all_eq_true.mp this t htt)
  unfold f__law_bent
  walk_at "ev2"
  rw [e1]
  have draw : ∀ (ds : List D), ds ≠ [] → ds.length < 1000000 → ∃ (x : D) (c' : Cell), ow.fn ("_law_of" : Str) [.o i, .d (.lst ds)] [] (S.set i c1) = .ok (.d x) (S.set i c') ∧ x ∈ ds ∧ Bag (n + 2) c' := fun ds h1 h2 => by
    obtain ⟨x, c2, e, hx, b2⟩ := hof (S.set i c1) i (n + 1) c1 ds hS1 hc1 b1 (by omega) h1 h2
    rw [set2] at e
    exact ⟨x, c2, e, hx, b2⟩
  have fin : ∀ (c2 : Cell) (t2 : D) (cs2 ids2 : List D), Bag (n + 3) c2 → Good ow t2 → (∀ y ∈ ids2, GoodI ow y) → ids2.length ≤ 8 → (∀ y ∈ cs2, ColV y) →
      ∃ (x : D) (c' : Cell), finM false S.length (.ret (.d (.tup [t2, .lst (cutG cs2 none (some 4)), .tup ids2])) (S.set i c2)) = .ok (.d x) (S.set i c') ∧ Bent ow x ∧ Bag (n + 3) c' := fun c2 t2 cs2 ids2 hb2 g1 g2 g3 g4 => by
    refine ⟨_, c2, fin_dL (by simp) (wf_set hS hb2.below) false _, ⟨t2, cs2.take 4, ids2, by rw [show (4 : Int) = ((4 : Nat) : Int) from rfl, cut_to], g1, g2, g3, fun y hy => g4 y (List.mem_of_mem_take hy), by simp; omega⟩, hb2⟩
  have cases5 : r = 0 ∨ r = 1 ∨ r = 2 ∨ r = 3 ∨ r = 4 := by omega
  rcases cases5 with rfl | rfl | rfl | rfl | rfl
  · walk_at "ev2"
    obtain ⟨x, c2, e2, hx, b2⟩ := draw bTitles (by simp [bTitles]) (by simp [bTitles])
    have g := good_mem (ow := ow) (by decide +kernel) hx
    unfold bTitles at e2
    rw [e2]
    walk_at "ev2"
    exact fin c2 x cols ids (b2.mono (by omega)) g gL (by omega) gC
  · walk_at "ev2"
    obtain ⟨k, c2, e2, k0, k1, b2⟩ := ht (S.set i c1) i (n + 1) c1 (ids.length + 1) hS1 hc1 b1 (by omega) (by omega) (by omega)
    rw [e2, set2]
    walk_at "ev2"
    rw [add_l (by simp)]
    walk_at "ev2"
    obtain ⟨x, c3, e3, hx, b3⟩ := hof (S.set i c2) i (n + 2) c2 (bOdd ++ bOdd2 t) (wf_set hS b2.below) (at_set hc) b2 (by omega) (by simp [bOdd]) (by simp [bOdd, bOdd2])
    have g := goodI_mem (ow := ow) (List.all_eq_true.mp oddAll t htt) hx
    have hk : k = ((k.toNat : Nat) : Int) := by omega
    rw [hk]
    rw [set2] at e3
    unfold bOdd bOdd2 at e3
    simp only [List.cons_append, List.nil_append] at e3
    rw [e3]
    walk_at "ev2"
    rw [cut_to, add_t (by simp; omega)]
    walk_at "ev2"
    rw [cut_from, add_t (by simp; omega)]
    walk_at "ev2"
    refine fin c3 (.str t) cols _ b3 gt (fun y hy => ?_) (by simp; omega) gC
    rcases List.mem_append.mp hy with hy | hy
    · rcases List.mem_append.mp hy with hy | hy
      · exact gL y (List.mem_of_mem_take hy)
      · rw [List.mem_singleton] at hy
        subst hy
        exact g
    · exact gL y (List.mem_of_mem_drop hy)
  · walk_at "ev2"
    rw [add_t (by simp; omega)]
    walk_at "ev2"
    refine fin c1 (.str t) cols _ (b1.mono (by omega)) gt (fun y hy => ?_) (by simp; omega) gC
    rcases List.mem_append.mp hy with hy | hy
    · exact gL y hy
    · exact goodI_mem (ds := bFour) (by decide +kernel) hy
  · walk_at "ev2"
    have v1 := col_new hC hS1 (t := ("v" : Str)) (l := []) (b := false) (kws := []) (by simp [cTitles]) (by simp [cLinks]) fun w => bnd_no w _ [] (by decide)
    have v2 := col_new hC hS1 (t := ("w" : Str)) (l := []) (b := false) (kws := []) (by simp [cTitles]) (by simp [cLinks]) fun w => bnd_no w _ [] (by decide)
    have v1 : ow.fn ("Column" : Str) [.d (.str ("v" : Str))] [] (S.set i c1) = .ok (.d (colD (.str ("v" : Str)) (.tup ([].map linkD)) (.bl false) .non)) (S.set i c1) := v1
    have v2 : ow.fn ("Column" : Str) [.d (.str ("w" : Str))] [] (S.set i c1) = .ok (.d (colD (.str ("w" : Str)) (.tup ([].map linkD)) (.bl false) .non)) (S.set i c1) := v2
    rw [v1]
    walk_at "ev2"
    rw [v2]
    walk_at "ev2"
    obtain ⟨k, c2, e2, k0, k1, b2⟩ := ht (S.set i c1) i (n + 1) c1 2 hS1 hc1 b1 (by omega) (by decide) (by decide)
    rw [e2, set2]
    have hk : k = ((k.toNat : Nat) : Int) := by omega
    rw [hk]
    walk_at "ev2"
    rw [show (1 : Int) + ((k.toNat : Nat) : Int) = ((1 + k.toNat : Nat) : Int) from by omega, cut_to, add_l (by simp; omega)]
    walk_at "ev2"
    refine fin c2 (.str t) _ ids (b2.mono (by omega)) gt gL (by omega) (fun y hy => ?_)
    rcases List.mem_append.mp hy with hy | hy
    · exact gC y hy
    · have := List.mem_of_mem_take hy
      simp only [List.mem_cons, List.not_mem_nil, or_false] at this
      rcases this with rfl | rfl
      · exact ⟨_, [], _, _, rfl, .inl rfl⟩
      · exact ⟨_, [], _, _, rfl, .inl rfl⟩
  · walk_at "ev2"
    obtain ⟨x, c2, e2, hx, b2⟩ := draw [.str ("x" : Str), .str ("y" : Str)] (by simp) (by simp)
    rw [e2]
    walk_at "ev2"
    obtain ⟨s, rfl, hs⟩ : ∃ s, x = .str s ∧ s ∈ cTitles := by
      simp only [List.mem_cons, List.not_mem_nil, or_false] at hx
      rcases hx with rfl | rfl
      · exact ⟨_, rfl, by simp [cTitles]⟩
      · exact ⟨_, rfl, by simp [cTitles]⟩
    have v1 := col_new hC (wf_set (i := i) hS b2.below) (t := s) (l := []) (b := false) (kws := []) hs (by simp [cLinks]) fun w => bnd_no w _ [] (by decide)
    have v1 : ow.fn ("Column" : Str) [.d (.str s)] [] (S.set i c2) = .ok (.d (colD (.str s) (.tup ([].map linkD)) (.bl false) .non)) (S.set i c2) := v1
    rw [v1]
    walk_at "ev2"
    rw [add_l (by simp; omega)]
    walk_at "ev2"
    refine fin c2 (.str t) _ ids (b2.mono (by omega)) gt gL (by omega) (fun y hy => ?_)
    rcases List.mem_append.mp hy with hy | hy
    · exact gC y hy
    · rw [List.mem_singleton] at hy
      subst hy
      exact ⟨_, [], _, _, rfl, .inl rfl⟩
end K02

namespace K02
open PySem Mi Pr Dr K01
local macro_rules | `(tactic| walk_at "ev2") => `(tactic| simp only [List.zip_cons_cons, wipeM, eA_star, fStar, fApp, List.append_nil, l_i0, l_i1, l_i2, l_i3, t_i0, t_i1, t_i2, t_i3, od_ok, evF, bndPlain, startI, eE_nm, eE_cst, eE_bin, eE_no, eE_neg, eE_cmp, eE_chain, eE_and, eE_or, eE_ife, eE_ix, eE_sl, eE_tup, eE_lst, eE_box, eE_comp, eE_call, eE_isi, eE_bi, eE_lens, eE_rpr, eE_ty, eE_bty, eE_mt, eE_lm, eE_fld, eT_no, eT_and, eT_or, eT_cmp, eT_chain, eT_tru, eT_yes, eA_nil, eA_cons, eO_non, eO_som, eI_rng, eI_it, eS_expr, eS_set, eS_asg, eS_par, eS_putix, eS_putf, eS_ret, eS_ret0, eS_pass, eS_brk, eS_cont, eS_ife, eS_loop, eS_whil, eS_raise, eS_tri, eSs_nil, eSs_cons, fBin, fNo, fCmp, fCh1, fCh2, ch_t, ch_f, fIx, fSl, fSl2, fCall, fCall2, fMt, fMt2, fCons, fCons2, fNot, fRng1, kNext, kSet, kAsg, kPar, kPut, kPut2, kPut3, kFld, kFld2, kRet, kFor, fComp, asEnv, tgW, asgIs, putAllM, b_ok, b_exc, b_bad, o_ok, o_exc, s_next, s_ret, s_exc, s_brk, s_cont, ab_ok, tr_bl, g_0, g_s, if_t, if_f, anE_t, anE_f, orE_t, orE_f, an_t, an_f, or_t, or_f, ng_i, rg_i, ne_s, ns_s, tri_x, tri_r, tri_n, it_l, it_t, it_s, po_i, fl_n, add_i, sub_i, cw_lt, cw_le, lt_i, le_i, gt_i, ge_i, eq_i, ne_i, eq_s, ne_s', is_n, isnt_n, len_l, len_t, tn_n, tn_c, tn_b, tn_r, tn_x, l_0, t_0, l_1, t_1, l_2, t_2, l_3, t_3, l_4, t_4, l_5, t_5, l_6, t_6, l_7, t_7, l_8, t_8, l_9, l_10, l_11, l_12, l_13, l_14, l_15, l_16, l_17, l_18, l_19, bx_0, sl_l, sl_t, List.isEmpty_nil, Bool.true_and, List.length_cons, List.length_nil, decide_true, decide_false, eq_self, Int.reduceEq, Int.reduceAdd, Int.reduceSub, Int.reduceLT, Int.reduceLE, if_true, if_false, List.map_cons, List.map_nil, List.cons_append, List.nil_append, Nat.zero_add, Nat.reduceAdd, Nat.reduceSub, List.replicate_zero, List.replicate_succ, List.set_cons_zero, List.set_cons_succ, List.zip_nil_left, List.zip_nil_right, Bool.not_true, Bool.not_false, Bool.false_eq_true, reduceIte])
abbrev SpOut (ow : Own) : Prop := ∀ (nm : D) (cols ids : List D) (S : Store), WF S → noxS S = true → Good ow nm → (∀ x ∈ ids, GoodI ow x) → ids.length ≤ 8 → (∀ x ∈ cols, ColV x) → cols.length ≤ 4 → ow.fn ("_law_outcome" : Str) [.d nm, .d (.lst cols), .d (.tup ids)] [] S = .ok (.d (outT nm cols ids)) S
abbrev SpDue (ow : Own) : Prop := ∀ (nm : D) (cols ids : List D) (S : Store), WF S → Good ow nm → (∀ x ∈ ids, GoodI ow x) → ids.length ≤ 8 → (∀ x ∈ cols, ColV x) → cols.length ≤ 4 → ow.fn ("_law_due" : Str) [.d nm, .d (.lst cols), .d (.tup ids)] [] S = .ok (.d (dueT nm cols ids)) S
structure NfT (ow : Own) : Prop where
  cc : ow.nf nCol (.c nCol) = true
  tt : ow.nf nTab (.c nTab) = true
  ts : ow.nf nTab (.b "str") = true
  tp : ow.nf nTab (.b "tuple") = true
theorem K_mem {nm v : D} {cols ids : List D} {k : Str} (h : tabK nm cols ids = some (k, v)) : (v = nm ∨ v ∈ ids) ∧ k ∈ [("name" : Str), ("action" : Str), ("table" : Str)] := by
  unfold tabK at h
  split at h
  · cases h; exact ⟨.inl rfl, by simp⟩
  · split at h
    · rename_i x hx
      cases h
      exact ⟨.inr (List.mem_of_find?_eq_some hx), by simp⟩
    · split at h
      · cases h; exact ⟨.inl rfl, by simp⟩
      · cases h
/-- a table that can be -/
theorem tab_ok {nm : D} {cols ids : List D} (h : tabK nm cols ids = none) : ∃ (s : Str) (ls : List (Str × Str)), nm = .str s ∧ ids = ls.map linkD := by
  unfold tabK at h
  split at h
  · cases h
  rename_i h1
  simp only [Bool.not_eq_true', Bool.not_eq_false] at h1
  obtain ⟨s, rfl⟩ : ∃ s, nm = .str s := by cases nm <;> first | exact ⟨_, rfl⟩ | (cases h1; done)
  split at h
  · cases h
  · rename_i hb
    have : ∀ xs : List D, (∀ x ∈ xs, isLink acts3 x = true) → ∃ ls : List (Str × Str), xs = ls.map linkD := fun xs => by
      induction xs with
      | nil => exact fun _ => ⟨[], rfl⟩
      | cons x r ih =>
        intro h
        obtain ⟨n, a, rfl, _, _⟩ := link_form (h x (List.mem_cons_self ..))
        obtain ⟨ls, rfl⟩ := ih fun y hy => h y (List.mem_cons_of_mem _ hy)
        exact ⟨(n, a) :: ls, rfl⟩
    obtain ⟨ls, e⟩ := this ids (good_links hb)
    exact ⟨s, ls, rfl, e⟩
theorem ty_tab {ow : Own} (T : TabT ow) (a b c : D) (S : Store) : tyW ow S (.d (tabD a b c)) = some (.c nTab) := ty_ins T.is
theorem lkB : (dNames.all fun n => acts3.all fun a => goodI (linkD (n, a)) && isNameS n) = true := by decide +kernel
theorem drawn_good {ow : Own} {t : Str} {cols : List D} {ls : List (Str × Str)} (h : Drawn t cols ls) : (∀ x ∈ ls.map linkD, GoodI ow x) ∧ ls.length ≤ 4 := by
  obtain ⟨left, hI⟩ := h.l
  refine ⟨fun x hx => ?_, by have := hI.l; simpa using this⟩
  obtain ⟨⟨n, a⟩, hp, rfl⟩ := List.mem_map.mp hx
  have hn : n ∈ dNames := hI.p.subset (List.mem_append_left _ (List.mem_map.mpr ⟨(n, a), hp, rfl⟩))
  have := List.all_eq_true.mp (List.all_eq_true.mp lkB n hn) a (hI.a _ hp)
  rw [Bool.and_eq_true] at this
  exact goodI_of this.1
theorem take3 : ∀ k, twins ([("x" : Str), ("y" : Str), ("z" : Str)].take k) = false
  | 0 => by decide +kernel
  | 1 => by decide +kernel
  | 2 => by decide +kernel
  | k + 3 => by
    rw [List.take_of_length_le (by simp)]
    decide +kernel
theorem drawn_tab {t : Str} {cols : List D} {ls : List (Str × Str)} (h : Drawn t cols ls) : tabK (.str t) cols (ls.map linkD) = none ∧ cols.length ≤ 3 := by
  obtain ⟨left, hI⟩ := h.l
  obtain ⟨k, hk⟩ := h.k
  have hcl : cols.length ≤ 3 := by
    have := congrArg List.length hk
    simp at this
    omega
  have h1 : isName (.str t) = true := by
    have : (dTitles.all fun t => isName (.str t)) = true := by decide +kernel
    exact List.all_eq_true.mp this t h.t
  have hn : ∀ p ∈ ls, p.1 ∈ dNames := fun p hp => hI.p.subset (List.mem_append_left _ (List.mem_map.mpr ⟨p, hp, rfl⟩))
  have h2 : badLink acts3 (ls.map linkD) = none := by
    refine List.find?_eq_none.mpr fun x hx => ?_
    obtain ⟨⟨n, a⟩, hq, rfl⟩ := List.mem_map.mp hx
    have := List.all_eq_true.mp (List.all_eq_true.mp lkB n (hn _ hq)) a (hI.a _ hq)
    rw [Bool.and_eq_true] at this
    have e : isLink acts3 (linkD (n, a)) = true := by
      show (isNameS n && decide (a ∈ acts3)) = true
      rw [this.2, decide_eq_true (hI.a _ hq)]
      rfl
    rw [e]
    decide
  have h3 : twins (t :: (ls.map linkD).map aim) = false := by
    rw [List.map_map]
    have e : (aim ∘ linkD) = fun (q : Str × Str) => q.1 := rfl
    rw [e]
    have nd : (ls.map (·.1)).Nodup := by
      have := hI.p.nodup_iff.mpr (by decide +kernel : dNames.Nodup)
      exact (List.nodup_append.mp this).1
    have nt : t ∉ ls.map (·.1) := fun hm => by
      obtain ⟨p, hp, e⟩ := List.mem_map.mp hm
      have : (dTitles.all fun t => dNames.all fun n => !decide (n = t)) = true := by decide +kernel
      have := List.all_eq_true.mp (List.all_eq_true.mp this t h.t) p.1 (hn p hp)
      simp [e] at this
    cases q : twins (t :: ls.map fun q => q.1) with
    | false => rfl
    | true => exact absurd (List.nodup_cons.mpr ⟨nt, nd⟩) ((twins_iff _).mp q)
  have h4 : decide (4 < (ls.map linkD).length) = false := decide_eq_false (by have := hI.l; simp; omega)
  have h5 : decide (3 < cols.length) = false := decide_eq_false (by omega)
  have h6 : twins (cols.map cname) = false := by rw [hk]; exact take3 k
  refine ⟨?_, hcl⟩
  unfold tabK
  rw [h1]
  simp only [Bool.not_true, Bool.false_eq_true, if_false]
  rw [h2, show strOf (.str t) = t from rfl]
  simp only [h3, h4, h5, h6]
  rfl
abbrev SpRight (F : List W → List (Str × W) → Store → R W) : Prop := ∀ (S : Store) (i n : Nat) (c : Cell), WF S → noxS S = true → S[i]? = some c → Bag n c → n + 30 ≤ 1000000000 → ∃ c', F [.o i] [] S = .ok (.d (.bl true)) (S.set i c') ∧ Bag (n + 30) c'
theorem sp_right {ow : Own} (hdr : SpDrawn (ow.fn ("_law_drawn" : Str))) (hbent : SpBent (ow.fn ("_law_bent" : Str)) ow) (hout : SpOut ow) (hdue : SpDue ow) (T : TabT ow) (TC : ColT ow) (hc : isaC ow nTab = true) (hb : isaB ow "tuple" = true) (hCq : SpColEq2 ow) (hEq : SpTabEq ow) (N : NfT ow) :
    SpRight (evF ow f__law_right) := by
  intro S i n c hS hX hci hb0 hn
  unfold f__law_right
  walk_at "ev2"
  obtain ⟨t, cols, ls, c1, e1, hD, b1⟩ := hdr S i n c hS hci hb0 (by omega)
  rw [e1]
  walk_at "ev2"
  have hS1 := wf_set (i := i) hS (b1.below (m := S.length))
  have hX1 := bag_nox (i := i) hX b1
  have hc1 : (S.set i c1)[i]? = some c1 := at_set hci
  have gt : Good ow (.str t) := by
    have : (dTitles.all fun t => goodB (.str t)) = true := by decide +kernel
    exact good_of (List.all_eq_true.mp this t hD.t)
  obtain ⟨gI, hll⟩ := drawn_good (ow := ow) hD
  obtain ⟨K, hcl⟩ := drawn_tab hD
  have o1 := hout (.str t) cols (ls.map linkD) (S.set i c1) hS1 hX1 gt gI (by simp; omega) hD.c (by omega)
  have O1 : outT (.str t) cols (ls.map linkD) = tabD (.str t) (.tup cols) (.tup (ls.map linkD)) := by unfold outT; rw [K]
  rw [O1] at o1
  have hV : TabV (tabD (.str t) (.tup cols) (.tup (ls.map linkD))) := ⟨t, cols, ls, rfl, hD.c⟩
  rw [o1]
  walk_at "ev2"
  rw [o1]
  walk_at "ev2"
  have kc : ∀ a b c, Kn ow (tabD a b c) := fun _ _ _ c fs e => by cases e; exact T.is
  rw [isi_c hc _ (kc _ _ _), show ∀ a b c, isC nTab (tabD a b c) = true from fun _ _ _ => rfl]
  walk_at "ev2"
  obtain ⟨r1, q1, q1'⟩ := hEq _ _ (S.set i c1) hS1 hV (kc _ _ _) (.inl hV)
  rw [(cmp_own (tab_mtOwn T _ _ _ _) (ty_tab T _ _ _ _) N.tt T.is q1).2, q1'.mpr rfl]
  walk_at "ev2"
  obtain ⟨r2, q2, q2'⟩ := hEq _ (.str t) (S.set i c1) hS1 hV (noIns_kn rfl) (.inr rfl)
  rw [(cmp_own (tab_mtOwn T _ _ _ _) (show tyW ow (S.set i c1) (.d (.str t)) = some (.b "str") from rfl) N.ts T.is q2).1, show r2 = false from by cases r2 with | false => rfl | true => exact absurd (q2'.mp rfl) (fun z => nomatch z)]
  walk_at "ev2"
  rw [show ∀ xs S, callTy "tuple" [.d (.lst xs)] S = .ok (.d (.tup xs)) S from fun _ _ => rfl]
  walk_at "ev2"
  obtain ⟨r3, q3, q3'⟩ := hEq _ (.tup [.str t, .tup cols, .tup (ls.map linkD)]) (S.set i c1) hS1 hV (noIns_kn rfl) (.inr rfl)
  rw [(cmp_own (tab_mtOwn T _ _ _ _) (show tyW ow (S.set i c1) (.d (.tup [.str t, .tup cols, .tup (ls.map linkD)])) = some (.b "tuple") from rfl) N.tp T.is q3).1, show r3 = false from by cases r3 with | false => rfl | true => exact absurd (q3'.mp rfl) (fun z => nomatch z)]
  walk_at "ev2"
  have cl := tab_look (.str t) (.tup cols) (.tup (ls.map linkD))
  have F : ∀ S : Store, fieldsOf S (.d (tabD (.str t) (.tup cols) (.tup (ls.map linkD)))) = some (nTab, tabW (.str t) (.tup cols) (.tup (ls.map linkD))) := fun _ => rfl
  rw [fld_of (F _) T.f1 cl.1]
  walk_at "ev2"
  rw [fld_of (F _) T.f3 cl.2.2.1]
  walk_at "ev2"
  have gT : Gd 52 2600 (.tup [.str t, .tup (ls.map linkD)]) := by
    have r := Gd.tup (k := 4) (fun x hx => (gI x hx).g.g) (by simpa using hll)
    refine (Gd.tup (d := 51) (m := 1100) (k := 2) (fun x hx => ?_) (by simp)).mono (by decide) (by decide)
    simp only [List.mem_cons, List.not_mem_nil, or_false] at hx
    rcases hx with rfl | rfl
    · exact gt.g.mono (by decide) (by decide)
    · exact r.mono (by decide) (by decide)
  rw [repr_g gT]
  walk_at "ev2"
  rw [repr_g gT]
  walk_at "ev2"
  rw [fld_of (F _) T.f2 cl.2.1]
  walk_at "ev2"
  rw [show ∀ xs S, callTy "list" [.d (.tup xs)] S = .ok (.d (.lst xs)) S from fun _ _ => rfl]
  walk_at "ev2"
  have colsT : ∀ {n : Nat} {cs cs' : List D}, (∀ x ∈ cs, ColV x) → (∀ x ∈ cs', ColV x) → EqTs ow (n + 1) cs cs' := fun {n cs cs'} h h' => EqTs.all fun a ha b hb => col_T TC N.cc hCq (h a ha) (h' b hb)
  obtain ⟨r4, _, q4, q4'⟩ := cmp_TL (ow := ow) (colsT (n := 5) hD.c hD.c) (S := S.set i c1) (a := .d (.lst cols)) (b := .d (.lst cols)) rfl rfl
  rw [q4, q4'.mpr rfl]
  walk_at "ev2"
  rw [fld_of (F _) T.f2 cl.2.1]
  walk_at "ev2"
  rw [isi_b hb _ (noIns_kn rfl), show isT "tuple" (.tup cols) = true from rfl]
  walk_at "ev2"
  obtain ⟨x, c3, e3, ⟨t2, cs2, ids2, rfl, g1, g2, g3, g4, g5⟩, b3⟩ := hbent (S.set i c1) i (n + 20) c1 t cols (ls.map linkD) hS1 hc1 b1 (by omega) hD.t gI (by simpa using hll) hD.c hcl
  rw [e3, set2]
  walk_at "ev2"
  have hS3 := wf_set (i := i) hS (b3.below (m := S.length))
  have hX3 := bag_nox (i := i) hX b3
  have o2 := hout t2 cs2 ids2 (S.set i c3) hS3 hX3 g1 g2 g3 g4 g5
  have o3 := hdue t2 cs2 ids2 (S.set i c3) hS3 g1 g2 g3 g4 g5
  rw [o2]
  walk_at "ev2"
  rw [o3]
  walk_at "ev2"
  have fin : ∀ x, x = true → ∃ c', finM false S.length (.ret (.d (.bl x)) (S.set i c3)) = .ok (.d (.bl true)) (S.set i c') ∧ Bag (n + 30) c' := fun x hx => by
    subst hx
    exact ⟨c3, fin_dL (by simp) hS3 false _, b3.mono (by omega)⟩
  cases hK : tabK t2 cs2 ids2 with
  | some q =>
    obtain ⟨k, v⟩ := q
    obtain ⟨hv, ek⟩ := K_mem hK
    have gv : Gd 50 200 v := by
      rcases hv with rfl | hv
      · exact g1.g
      · exact (g2 v hv).g.g
    have okk : Ok 0 (.str k) := Ok.str (by
      have : ([("name" : Str), ("action" : Str), ("table" : Str)].all fun k => PyData.strOk k) = true := by decide +kernel
      exact List.all_eq_true.mp this k ek)
    have e1 : outT t2 cs2 ids2 = .tup [.str k, .str v.py.shown, .bl false] := by unfold outT; rw [hK]
    have e2 : dueT t2 cs2 ids2 = .tup [.str k, .str v.py.shown, .bl false] := by unfold dueT; rw [hK]
    have ok3 : Ok 1 (.tup [.str k, .str v.py.shown, .bl false]) := Ok.tup (fun x hx => by
      simp only [List.mem_cons, List.not_mem_nil, or_false] at hx
      rcases hx with rfl | rfl | rfl
      · exact okk
      · exact gv.text
      · exact Ok.bl)
    rw [e1, e2, show isNonB (.d (.tup [.str k, .str v.py.shown, .bl false])) = false from rfl]
    walk_at "ev2"
    rw [cx_eq _ rfl, eqW_d _ false (eqD_ok ok3 ok3), od_ok, eqv_refl ok3.p]
    walk_at "ev2"
    exact fin _ rfl
  | none =>
    have e1 : outT t2 cs2 ids2 = tabD t2 (.tup cs2) (.tup ids2) := by unfold outT; rw [hK]
    have e2 : dueT t2 cs2 ids2 = .non := by unfold dueT; rw [hK]
    rw [e1, e2, show isNonB (.d .non) = true from rfl]
    walk_at "ev2"
    obtain ⟨s2, ls2, rfl, rfl⟩ := tab_ok hK
    have hV2 : TabV (tabD (.str s2) (.tup cs2) (.tup (ls2.map linkD))) := ⟨s2, cs2, ls2, rfl, g4⟩
    rw [isi_c hc _ (kc _ _ _), show ∀ a b c, isC nTab (tabD a b c) = true from fun _ _ _ => rfl]
    walk_at "ev2"
    obtain ⟨r5, q5, q5'⟩ := hEq _ _ (S.set i c3) hS3 hV2 (kc _ _ _) (.inl hV)
    rw [(cmp_own (tab_mtOwn T _ _ _ _) (ty_tab T _ _ _ _) N.tt T.is q5).1]
    walk_at "ev2"
    have ts : EqTs ow 6 [.str s2, .lst cs2, .tup (ls2.map linkD)] [.str t, .lst cols, .tup (ls.map linkD)] :=
      .cons EqT.str (.cons (EqT.lst (colsT (n := 4) g4 hD.c)) (.cons (EqT.links ls2 ls) (.nl _)))
    obtain ⟨r6, q6, _, q6'⟩ := cmp_T (ow := ow) ts (S.set i c3)
    rw [q6]
    walk_at "ev2"
    rw [eq_bl]
    walk_at "ev2"
    refine fin _ ?_
    rw [beq_iff_eq, Bool.eq_iff_iff, q5', q6']
    simp only [tabD, tabF, D.ins.injEq, List.cons.injEq, Prod.mk.injEq, true_and, and_true, D.tup.injEq, D.lst.injEq]
end K02

namespace K02
open PySem Mi Pr Dr K01
local macro_rules | `(tactic| walk_at "ev2") => `(tactic| simp only [List.zip_cons_cons, wipeM, eA_star, fStar, fApp, List.append_nil, l_i0, l_i1, l_i2, l_i3, t_i0, t_i1, t_i2, t_i3, od_ok, evF, bndPlain, startI, eE_nm, eE_cst, eE_bin, eE_no, eE_neg, eE_cmp, eE_chain, eE_and, eE_or, eE_ife, eE_ix, eE_sl, eE_tup, eE_lst, eE_box, eE_comp, eE_call, eE_isi, eE_bi, eE_lens, eE_rpr, eE_ty, eE_bty, eE_mt, eE_lm, eE_fld, eT_no, eT_and, eT_or, eT_cmp, eT_chain, eT_tru, eT_yes, eA_nil, eA_cons, eO_non, eO_som, eI_rng, eI_it, eS_expr, eS_set, eS_asg, eS_par, eS_putix, eS_putf, eS_ret, eS_ret0, eS_pass, eS_brk, eS_cont, eS_ife, eS_loop, eS_whil, eS_raise, eS_tri, eSs_nil, eSs_cons, fBin, fNo, fCmp, fCh1, fCh2, ch_t, ch_f, fIx, fSl, fSl2, fCall, fCall2, fMt, fMt2, fCons, fCons2, fNot, fRng1, kNext, kSet, kAsg, kPar, kPut, kPut2, kPut3, kFld, kFld2, kRet, kFor, fComp, asEnv, tgW, asgIs, putAllM, b_ok, b_exc, b_bad, o_ok, o_exc, s_next, s_ret, s_exc, s_brk, s_cont, ab_ok, tr_bl, g_0, g_s, if_t, if_f, anE_t, anE_f, orE_t, orE_f, an_t, an_f, or_t, or_f, ng_i, rg_i, ne_s, ns_s, tri_x, tri_r, tri_n, it_l, it_t, it_s, po_i, fl_n, add_i, sub_i, cw_lt, cw_le, lt_i, le_i, gt_i, ge_i, eq_i, ne_i, eq_s, ne_s', is_n, isnt_n, len_l, len_t, tn_n, tn_c, tn_b, tn_r, tn_x, l_0, t_0, l_1, t_1, l_2, t_2, l_3, t_3, l_4, t_4, l_5, t_5, l_6, t_6, l_7, t_7, l_8, t_8, l_9, l_10, l_11, l_12, l_13, l_14, l_15, l_16, l_17, l_18, l_19, bx_0, sl_l, sl_t, List.isEmpty_nil, Bool.true_and, List.length_cons, List.length_nil, decide_true, decide_false, eq_self, Int.reduceEq, Int.reduceAdd, Int.reduceSub, Int.reduceLT, Int.reduceLE, if_true, if_false, List.map_cons, List.map_nil, List.cons_append, List.nil_append, Nat.zero_add, Nat.reduceAdd, Nat.reduceSub, List.replicate_zero, List.replicate_succ, List.set_cons_zero, List.set_cons_succ, List.zip_nil_left, List.zip_nil_right, Bool.not_true, Bool.not_false, Bool.false_eq_true, reduceIte])
abbrev turnB : ISs := (.cons (.ife (.no (.tru (.call ("_law_right" : Str) (.cons (.nm 2) .nil) [] .nil))) (.cons (.ret (.cst (.bl false))) .nil) .nil) .nil)
theorem turns {ow : Own} (hR : SpRight (ow.fn ("_law_right" : Str))) {j : Nat} {a b p : Option W} : ∀ (ws : List D) (S : Store) (n : Nat) (c : Cell) (o : Option W), WF S → noxS S = true → S[j]? = some c → Bag n c → n + 30 * ws.length ≤ 1000000000 →
    ∃ o' c', forL (fun _ => tgW (.nm 3)) (evSs ow turnB) (ws.map W.d) [a, b, some (.o j), o, p] S = .next [a, b, some (.o j), o', p] (S.set j c') ∧ Bag (n + 30 * ws.length) c'
  | [], S, n, c, o, hS, hX, hc, hb, _ => by
    refine ⟨o, c, ?_, hb⟩
    have same : S.set j c = S := by
      refine List.ext_getElem? fun k => ?_
      rw [List.getElem?_set]
      split
      · rename_i e
        subst e
        rw [if_pos (List.getElem?_eq_some_iff.mp hc).1, hc]
      · rfl
    rw [same]; rfl
  | w :: ws, S, n, c, o, hS, hX, hc, hb, hn => by
    rw [List.length_cons] at hn
    obtain ⟨c1, e1, b1⟩ := hR S j n c hS hX hc hb (by omega)
    obtain ⟨o2, c2, e2, b2⟩ := turns hR (a := a) (b := b) (p := p) ws (S.set j c1) (n + 30) c1 (some (.d w)) (wf_set hS b1.below) (bag_nox hX b1) (at_set hc) b1 (by omega)
    refine ⟨o2, c2, ?_, b2.mono (by rw [List.length_cons]; omega)⟩
    rw [List.map_cons, fl_c (h := rfl)]
    walk_at "ev2"
    rw [e1]
    walk_at "ev2"
    rw [e2, set2]
abbrev cellB : ISs := (.cons (.set 2 (.call ("_law_bag" : Str) (.cons (.nm 0) (.cons (.nm 1) .nil)) [] .nil)) (.cons (.loop (.nm 3) (.rng (.cst (.int 15))) turnB) (.cons (.set 4 (.call ("Table" : Str) (.cons (.cst (.str ("a" : Str))) .nil) [] .nil)) (.cons (.ife (.cmp true .NotEq (.lst (.cons (.fld (.nm 4) ("name" : Str)) (.cons (.fld (.nm 4) ("parts" : Str)) (.cons (.fld (.nm 4) ("links" : Str)) .nil)))) (.lst (.cons (.cst (.str ("a" : Str))) (.cons (.tup .nil) (.cons (.tup .nil) .nil))))) (.cons (.ret (.cst (.bl false))) .nil) .nil) .nil))))
theorem cells {ow : Own} (hB : SpBag (ow.fn ("_law_bag" : Str))) (hR : SpRight (ow.fn ("_law_right" : Str))) (hC : SpTable ow) (T : TabT ow) {ns : List Int} : ∀ (ws : List Int) (S : Store) (o1 o2 o3 o4 : Option W), (∀ k ∈ ws, 0 ≤ k ∧ k ≤ 1) → WF S → noxS S = true →
    ∃ e S', forL (fun _ => tgW (.nm 1)) (evSs ow cellB) ((ws.map D.int).map W.d) [some (.d (.scr ns)), o1, o2, o3, o4] S = .next e S' ∧ True
  | [], S, o1, o2, o3, o4, _, _, _ => ⟨_, S, rfl, trivial⟩
  | k :: ws, S, o1, o2, o3, o4, hk, hS, hX => by
    have hk0 := hk k (List.mem_cons_self ..)
    rw [List.map_cons, List.map_cons, fl_c (h := rfl)]
    walk_at "ev2"
    obtain ⟨c, e1, b1⟩ := hB ns k S hS hk0.1 hk0.2
    rw [e1]
    walk_at "ev2"
    have hS1 : WF (S ++ [c]) := wf_app hS b1.below
    have hX1 : noxS (S ++ [c]) = true := nox_app hX b1
    rw [if_pos (by decide)]
    walk_at "ev2"
    rw [ints_eq]
    obtain ⟨o', c', e2, b2⟩ := turns hR (j := S.length) (a := some (.d (.scr ns))) (b := some (.d (.int k))) (p := o4) ((List.range (15 : Int).toNat).map fun (k : Nat) => D.int (0 + k)) (S ++ [c]) 0 c o3 hS1 hX1 (at_new S c []) b1 (by simp)
    rw [e2, set_new]
    have hS2 : WF (S ++ [c']) := wf_app hS b2.below
    have hX2 : noxS (S ++ [c']) = true := nox_app hX b2
    walk_at "ev2"
    have e3 := hC (.str ("a" : Str)) [] [] [] (S ++ [c']) hS2 (.inr ⟨rfl, rfl⟩) (Fit.str (by decide +kernel)) (fun _ h => nomatch h) (by decide) (fun _ h => nomatch h) (by decide)
    have X : tabX (.str ("a" : Str)) [] [] = none := by
      have h1 : isName (.str ("a" : Str)) = true := by decide +kernel
      unfold tabX
      rw [h1]
      rfl
    rw [X] at e3
    have e3 : ow.fn nTab [.d (.str ("a" : Str))] [] (S ++ [c']) = .ok (.d (tabD (.str ("a" : Str)) (.tup []) (.tup []))) (S ++ [c']) := e3
    rw [e3]
    walk_at "ev2"
    have cl := tab_look (.str ("a" : Str)) (.tup []) (.tup [])
    have F : ∀ S : Store, fieldsOf S (.d (tabD (.str ("a" : Str)) (.tup []) (.tup []))) = some (nTab, tabW (.str ("a" : Str)) (.tup []) (.tup [])) := fun _ => rfl
    rw [fld_of (F _) T.f1 cl.1]
    walk_at "ev2"
    rw [fld_of (F _) T.f2 cl.2.1]
    walk_at "ev2"
    rw [fld_of (F _) T.f3 cl.2.2.1]
    walk_at "ev2"
    have g : Gd 50 200 (.lst [.str ("a" : Str), .tup [], .tup []]) := gd_of (by decide +kernel)
    rw [cx_ne _ rfl, eqW_d _ true (eqD_ok g.ok g.ok), od_ok, eqv_refl g.ok.p]
    walk_at "ev2"
    exact cells hB hR hC T ws (S ++ [c']) _ _ _ _ (fun z hz => hk z (List.mem_cons_of_mem _ hz)) hS2 hX2
theorem sp_law {ow : Own} (hB : SpBag (ow.fn ("_law_bag" : Str))) (hR : SpRight (ow.fn ("_law_right" : Str))) (hC : SpTable ow) (T : TabT ow) (ns : List Int) : ∃ S, evF ow f_law [.d (.scr ns)] [] [] = .ok (.d (.bl true)) S := by
  unfold f_law
  walk_at "ev2"
  rw [show callB true "len" [.d (.scr ns)] [] = .ok (.d (.int ns.length)) [] from rfl]
  walk_at "ev2"
  rw [show ∀ i j : Int, callB true "min" [.d (.int i), .d (.int j)] [] = .ok (.d (.int (if j < i then j else i))) [] from fun _ _ => rfl]
  walk_at "ev2"
  rw [show ∀ i j : Int, callB true "max" [.d (.int i), .d (.int j)] [] = .ok (.d (.int (if j > i then j else i))) [] from fun _ _ => rfl]
  walk_at "ev2"
  have hk : ∃ k : Nat, k ≤ 2 ∧ (if (if (ns.length : Int) < 2 then (ns.length : Int) else 2) > 1 then (if (ns.length : Int) < 2 then (ns.length : Int) else 2) else 1) = (k : Int) := by
    by_cases h : (ns.length : Int) < 2
    · rw [if_pos h]
      by_cases h1 : (ns.length : Int) > 1
      · exact ⟨ns.length, by omega, if_pos h1⟩
      · exact ⟨1, by omega, if_neg h1⟩
    · rw [if_neg h]
      exact ⟨2, by omega, rfl⟩
  obtain ⟨k, hk2, hk⟩ := hk
  rw [hk]
  rw [if_pos (by omega)]
  walk_at "ev2"
  rw [Int.toNat_natCast, ints_eq]
  rw [show ((List.range k).map fun (k : Nat) => D.int (0 + (k : Int))) = ((List.range k).map fun (k : Nat) => (0 + (k : Int))).map D.int from by rw [List.map_map]; rfl]
  obtain ⟨e, S', h, _⟩ := cells hB hR hC T (ns := ns) ((List.range k).map fun (k : Nat) => (0 + (k : Int))) [] none none none none (fun z hz => by
    obtain ⟨m, hm, rfl⟩ := List.mem_map.mp hz
    rw [List.mem_range] at hm
    omega) wf_nil rfl
  rw [h]
  walk_at "ev2"
  exact ⟨[], rfl⟩
end K02

namespace K02
open PySem Mi Pr Dr
/-! tables, printed by wip/gen/mklaw.py -/
def top (i : Nat) : PySem.Stmt := PySem.Challenge.pw_keyactions_k02_tables_made.main.body.getD i (.Pass ⟨0, 0, 0, 0⟩)
def e_is_integer : Mi.E1 := ⟨(("is_integer" : Str), none), ("is_integer" : Str), top 9, .plain, false, [("value" : Str)], []⟩
def e_is_name : Mi.E1 := ⟨(("is_name" : Str), none), ("is_name" : Str), top 10, .plain, false, [("value" : Str), ("letter" : Str)], []⟩
def e_without_twins : Mi.E1 := ⟨(("without_twins" : Str), none), ("without_twins" : Str), top 11, .plain, false, [("values" : Str), ("found" : Str), ("value" : Str)], [("found" : Str)]⟩
def e_is_link : Mi.E1 := ⟨(("is_link" : Str), none), ("is_link" : Str), top 22, .plain, false, [("value" : Str), ("actions" : Str)], []⟩
def e_check_links : Mi.E1 := ⟨(("check_links" : Str), none), ("check_links" : Str), top 23, .plain, false, [("links" : Str), ("actions" : Str), ("link" : Str)], []⟩
def e_has_twins : Mi.E1 := ⟨(("has_twins" : Str), none), ("has_twins" : Str), top 24, .plain, false, [("values" : Str)], []⟩
def e__law_bag : Mi.E1 := ⟨(("_law_bag" : Str), none), ("_law_bag" : Str), top 28, .plain, true, [("_law_script" : Str), ("_law_at" : Str), ("_law_cell" : Str), ("_law_digits" : Str)], [("return" : Str)]⟩
def e__law_take : Mi.E1 := ⟨(("_law_take" : Str), none), ("_law_take" : Str), top 29, .plain, false, [("_law_bag_here" : Str), ("_law_many" : Str), ("_law_mixed" : Str), ("_law_digit" : Str)], []⟩
def e__law_of : Mi.E1 := ⟨(("_law_of" : Str), none), ("_law_of" : Str), top 30, .plain, false, [("_law_bag_here" : Str), ("_law_some" : Str)], []⟩
def e__law_links : Mi.E1 := ⟨(("_law_links" : Str), none), ("_law_links" : Str), top 31, .plain, false, [("_law_bag_here" : Str), ("_law_names" : Str), ("_law_actions" : Str), ("_law_most" : Str), ("_law_turn" : Str), ("_law_left" : Str), ("_law_found" : Str)], [("_law_found" : Str), ("_law_left" : Str)]⟩
def e__law_table_made : Mi.E1 := ⟨(("_law_table_made" : Str), none), ("_law_table_made" : Str), top 32, .plain, false, [("_law_title" : Str), ("_law_columns" : Str), ("_law_own_ids" : Str)], []⟩
def e__law_outcome : Mi.E1 := ⟨(("_law_outcome" : Str), none), ("_law_outcome" : Str), top 33, .plain, false, [("_law_title" : Str), ("_law_columns" : Str), ("_law_own_ids" : Str), ("e" : Str)], []⟩
def e__law_is_word : Mi.E1 := ⟨(("_law_is_word" : Str), none), ("_law_is_word" : Str), top 34, .plain, false, [("_law_value" : Str), ("_law_letter" : Str)], []⟩
def e__law_may_link : Mi.E1 := ⟨(("_law_may_link" : Str), none), ("_law_may_link" : Str), top 35, .plain, false, [("_law_link" : Str)], []⟩
def e__law_due : Mi.E1 := ⟨(("_law_due" : Str), none), ("_law_due" : Str), top 36, .plain, false, [("_law_title" : Str), ("_law_columns" : Str), ("_law_own_ids" : Str), ("_law_wrong" : Str), ("_law_targets" : Str), ("_law_names" : Str), ("_law_link" : Str), ("_law_column" : Str), ("_law_aim" : Str), ("_law_deed" : Str)], []⟩
def e__law_drawn : Mi.E1 := ⟨(("_law_drawn" : Str), none), ("_law_drawn" : Str), top 37, .plain, false, [("_law_bag_here" : Str), ("_law_columns" : Str), ("_law_title" : Str), ("_law_own_ids" : Str), ("_law_links_here" : Str)], [("_law_columns" : Str)]⟩
def e__law_bent : Mi.E1 := ⟨(("_law_bent" : Str), none), ("_law_bent" : Str), top 38, .plain, false, [("_law_bag_here" : Str), ("_law_home" : Str), ("_law_way" : Str), ("_law_odd" : Str), ("_law_title" : Str), ("_law_columns" : Str), ("_law_own_ids" : Str), ("_law_spot" : Str)], []⟩
def e__law_right : Mi.E1 := ⟨(("_law_right" : Str), none), ("_law_right" : Str), top 39, .plain, false, [("_law_bag_here" : Str), ("_law_bent_here" : Str), ("_law_title" : Str), ("_law_columns" : Str), ("_law_own_ids" : Str), ("_law_made" : Str), ("_law_other" : Str), ("_law_found" : Str), ("_law_due_here" : Str)], []⟩
def e_law : Mi.E1 := ⟨(("law" : Str), none), ("law" : Str), top 40, .plain, false, [("_law_script" : Str), ("_law_at" : Str), ("_law_bag_here" : Str), ("_law_turn" : Str), ("_law_plain" : Str)], []⟩
def e_Column___init__ : Mi.E1 := ⟨(("Column" : Str), some ("__init__" : Str)), ("Column.__init__" : Str), L2.inClass (top 25) 0, .gen [(("nullable" : Str), .bl false), (("default" : Str), .non)], false, [("self" : Str), ("name" : Str), ("nullable" : Str), ("default" : Str), ("references" : Str), ("target" : Str), ("action" : Str)], []⟩
def e_Column_actions : Mi.E1 := ⟨(("Column" : Str), some ("actions" : Str)), ("Column.actions" : Str), L2.inClass (top 25) 1, .plain, false, [("self" : Str), ("found" : Str)], [("found" : Str)]⟩
def e_Column___eq__ : Mi.E1 := ⟨(("Column" : Str), some ("__eq__" : Str)), ("Column.__eq__" : Str), L2.inClass (top 25) 5, .plain, false, [("self" : Str), ("other" : Str), ("mine" : Str)], []⟩
def e_Table___init__ : Mi.E1 := ⟨(("Table" : Str), some ("__init__" : Str)), ("Table.__init__" : Str), L2.inClass (top 26) 0, .gen [(("ids" : Str), .tup [])], false, [("self" : Str), ("name" : Str), ("ids" : Str), ("columns" : Str), ("targets" : Str), ("target" : Str), ("action" : Str), ("column" : Str)], []⟩
def e_Table___eq__ : Mi.E1 := ⟨(("Table" : Str), some ("__eq__" : Str)), ("Table.__eq__" : Str), L2.inClass (top 26) 3, .plain, false, [("self" : Str), ("other" : Str)], []⟩
def es : List Mi.E1 := [e_is_integer, e_is_name, e_without_twins, e_is_link, e_check_links, e_has_twins, e__law_bag, e__law_take, e__law_of, e__law_links, e__law_table_made, e__law_outcome, e__law_is_word, e__law_may_link, e__law_due, e__law_drawn, e__law_bent, e__law_right, e_law, e_Column___init__, e_Column_actions, e_Column___eq__, e_Table___init__, e_Table___eq__]
def cl : List (PySem.Str × Bool) := [(("Column" : Str), false), (("Table" : Str), false)]
def gt : Mi.GTab := [(("LETTERS" : Str), .cst (.str ("abcdefghijklmnopqrstuvwxyz" : Str))), (("MOST_LETTERS" : Str), .cst (.int 8)), (("ID" : Str), .cst (.str ("id" : Str))), (("CASCADE" : Str), .cst (.str ("cascade" : Str))), (("SET_NULL" : Str), .cst (.str ("set_null" : Str))), (("SET_DEFAULT" : Str), .cst (.str ("set_default" : Str))), (("RESTRICT" : Str), .cst (.str ("restrict" : Str))), (("NO_ACTION" : Str), .cst (.str ("no_action" : Str))), (("ID_ACTIONS" : Str), .cst (.tup [.str ("cascade" : Str), .str ("restrict" : Str), .str ("no_action" : Str)])), (("MOST_COLUMNS" : Str), .cst (.int 3)), (("MOST_TARGETS" : Str), .cst (.int 4)), (("is_integer" : Str), .own), (("is_name" : Str), .own), (("without_twins" : Str), .own), (("is_link" : Str), .own), (("check_links" : Str), .own), (("has_twins" : Str), .own), (("_law_bag" : Str), .own), (("_law_take" : Str), .own), (("_law_of" : Str), .own), (("_law_links" : Str), .own), (("_law_table_made" : Str), .own), (("_law_outcome" : Str), .own), (("_law_is_word" : Str), .own), (("_law_may_link" : Str), .own), (("_law_due" : Str), .own), (("_law_drawn" : Str), .own), (("_law_bent" : Str), .own), (("_law_right" : Str), .own), (("Column" : Str), .own), (("Table" : Str), .own), (("abs" : Str), .bf "abs"), (("all" : Str), .bf "all"), (("isinstance" : Str), .bf "isinstance"), (("len" : Str), .bf "len"), (("max" : Str), .bf "max"), (("min" : Str), .bf "min"), (("repr" : Str), .bf "repr"), (("ValueError" : Str), .bt "ValueError"), (("bool" : Str), .bt "bool"), (("int" : Str), .bt "int"), (("list" : Str), .bt "list"), (("range" : Str), .bt "range"), (("set" : Str), .bt "set"), (("str" : Str), .bt "str"), (("tuple" : Str), .bt "tuple")]
def isaT : List ((Mi.Kd × Mi.Kd) × Bool) := [((.b "NoneType", .b "ValueError"), false), ((.b "NoneType", .b "bool"), false), ((.b "NoneType", .b "int"), false), ((.b "NoneType", .b "list"), false), ((.b "NoneType", .b "str"), false), ((.b "NoneType", .b "tuple"), false), ((.b "NoneType", .c ("Column" : Str)), false), ((.b "NoneType", .c ("Table" : Str)), false), ((.b "NoneType", .c ("BadName" : Str)), false), ((.b "NoneType", .c ("BadAction" : Str)), false), ((.b "NoneType", .c ("BadColumn" : Str)), false), ((.b "NoneType", .c ("BadTable" : Str)), false), ((.b "bool", .b "ValueError"), false), ((.b "bool", .b "bool"), true), ((.b "bool", .b "int"), true), ((.b "bool", .b "list"), false), ((.b "bool", .b "str"), false), ((.b "bool", .b "tuple"), false), ((.b "bool", .c ("Column" : Str)), false), ((.b "bool", .c ("Table" : Str)), false), ((.b "bool", .c ("BadName" : Str)), false), ((.b "bool", .c ("BadAction" : Str)), false), ((.b "bool", .c ("BadColumn" : Str)), false), ((.b "bool", .c ("BadTable" : Str)), false), ((.b "int", .b "ValueError"), false), ((.b "int", .b "bool"), false), ((.b "int", .b "int"), true), ((.b "int", .b "list"), false), ((.b "int", .b "str"), false), ((.b "int", .b "tuple"), false), ((.b "int", .c ("Column" : Str)), false), ((.b "int", .c ("Table" : Str)), false), ((.b "int", .c ("BadName" : Str)), false), ((.b "int", .c ("BadAction" : Str)), false), ((.b "int", .c ("BadColumn" : Str)), false), ((.b "int", .c ("BadTable" : Str)), false), ((.b "str", .b "ValueError"), false), ((.b "str", .b "bool"), false), ((.b "str", .b "int"), false), ((.b "str", .b "list"), false), ((.b "str", .b "str"), true), ((.b "str", .b "tuple"), false), ((.b "str", .c ("Column" : Str)), false), ((.b "str", .c ("Table" : Str)), false), ((.b "str", .c ("BadName" : Str)), false), ((.b "str", .c ("BadAction" : Str)), false), ((.b "str", .c ("BadColumn" : Str)), false), ((.b "str", .c ("BadTable" : Str)), false), ((.b "tuple", .b "ValueError"), false), ((.b "tuple", .b "bool"), false), ((.b "tuple", .b "int"), false), ((.b "tuple", .b "list"), false), ((.b "tuple", .b "str"), false), ((.b "tuple", .b "tuple"), true), ((.b "tuple", .c ("Column" : Str)), false), ((.b "tuple", .c ("Table" : Str)), false), ((.b "tuple", .c ("BadName" : Str)), false), ((.b "tuple", .c ("BadAction" : Str)), false), ((.b "tuple", .c ("BadColumn" : Str)), false), ((.b "tuple", .c ("BadTable" : Str)), false), ((.b "list", .b "ValueError"), false), ((.b "list", .b "bool"), false), ((.b "list", .b "int"), false), ((.b "list", .b "list"), true), ((.b "list", .b "str"), false), ((.b "list", .b "tuple"), false), ((.b "list", .c ("Column" : Str)), false), ((.b "list", .c ("Table" : Str)), false), ((.b "list", .c ("BadName" : Str)), false), ((.b "list", .c ("BadAction" : Str)), false), ((.b "list", .c ("BadColumn" : Str)), false), ((.b "list", .c ("BadTable" : Str)), false), ((.b "dict", .b "ValueError"), false), ((.b "dict", .b "bool"), false), ((.b "dict", .b "int"), false), ((.b "dict", .b "list"), false), ((.b "dict", .b "str"), false), ((.b "dict", .b "tuple"), false), ((.b "dict", .c ("Column" : Str)), false), ((.b "dict", .c ("Table" : Str)), false), ((.b "dict", .c ("BadName" : Str)), false), ((.b "dict", .c ("BadAction" : Str)), false), ((.b "dict", .c ("BadColumn" : Str)), false), ((.b "dict", .c ("BadTable" : Str)), false), ((.c ("Column" : Str), .b "ValueError"), false), ((.c ("Column" : Str), .b "bool"), false), ((.c ("Column" : Str), .b "int"), false), ((.c ("Column" : Str), .b "list"), false), ((.c ("Column" : Str), .b "str"), false), ((.c ("Column" : Str), .b "tuple"), false), ((.c ("Column" : Str), .c ("Column" : Str)), true), ((.c ("Column" : Str), .c ("Table" : Str)), false), ((.c ("Column" : Str), .c ("BadName" : Str)), false), ((.c ("Column" : Str), .c ("BadAction" : Str)), false), ((.c ("Column" : Str), .c ("BadColumn" : Str)), false), ((.c ("Column" : Str), .c ("BadTable" : Str)), false), ((.c ("Table" : Str), .b "ValueError"), false), ((.c ("Table" : Str), .b "bool"), false), ((.c ("Table" : Str), .b "int"), false), ((.c ("Table" : Str), .b "list"), false), ((.c ("Table" : Str), .b "str"), false), ((.c ("Table" : Str), .b "tuple"), false), ((.c ("Table" : Str), .c ("Column" : Str)), false), ((.c ("Table" : Str), .c ("Table" : Str)), true), ((.c ("Table" : Str), .c ("BadName" : Str)), false), ((.c ("Table" : Str), .c ("BadAction" : Str)), false), ((.c ("Table" : Str), .c ("BadColumn" : Str)), false), ((.c ("Table" : Str), .c ("BadTable" : Str)), false), ((.c ("BadName" : Str), .b "ValueError"), true), ((.c ("BadName" : Str), .b "bool"), false), ((.c ("BadName" : Str), .b "int"), false), ((.c ("BadName" : Str), .b "list"), false), ((.c ("BadName" : Str), .b "str"), false), ((.c ("BadName" : Str), .b "tuple"), false), ((.c ("BadName" : Str), .c ("Column" : Str)), false), ((.c ("BadName" : Str), .c ("Table" : Str)), false), ((.c ("BadName" : Str), .c ("BadName" : Str)), true), ((.c ("BadName" : Str), .c ("BadAction" : Str)), false), ((.c ("BadName" : Str), .c ("BadColumn" : Str)), false), ((.c ("BadName" : Str), .c ("BadTable" : Str)), false), ((.c ("BadAction" : Str), .b "ValueError"), true), ((.c ("BadAction" : Str), .b "bool"), false), ((.c ("BadAction" : Str), .b "int"), false), ((.c ("BadAction" : Str), .b "list"), false), ((.c ("BadAction" : Str), .b "str"), false), ((.c ("BadAction" : Str), .b "tuple"), false), ((.c ("BadAction" : Str), .c ("Column" : Str)), false), ((.c ("BadAction" : Str), .c ("Table" : Str)), false), ((.c ("BadAction" : Str), .c ("BadName" : Str)), false), ((.c ("BadAction" : Str), .c ("BadAction" : Str)), true), ((.c ("BadAction" : Str), .c ("BadColumn" : Str)), false), ((.c ("BadAction" : Str), .c ("BadTable" : Str)), false), ((.c ("BadColumn" : Str), .b "ValueError"), true), ((.c ("BadColumn" : Str), .b "bool"), false), ((.c ("BadColumn" : Str), .b "int"), false), ((.c ("BadColumn" : Str), .b "list"), false), ((.c ("BadColumn" : Str), .b "str"), false), ((.c ("BadColumn" : Str), .b "tuple"), false), ((.c ("BadColumn" : Str), .c ("Column" : Str)), false), ((.c ("BadColumn" : Str), .c ("Table" : Str)), false), ((.c ("BadColumn" : Str), .c ("BadName" : Str)), false), ((.c ("BadColumn" : Str), .c ("BadAction" : Str)), false), ((.c ("BadColumn" : Str), .c ("BadColumn" : Str)), true), ((.c ("BadColumn" : Str), .c ("BadTable" : Str)), false), ((.c ("BadTable" : Str), .b "ValueError"), true), ((.c ("BadTable" : Str), .b "bool"), false), ((.c ("BadTable" : Str), .b "int"), false), ((.c ("BadTable" : Str), .b "list"), false), ((.c ("BadTable" : Str), .b "str"), false), ((.c ("BadTable" : Str), .b "tuple"), false), ((.c ("BadTable" : Str), .c ("Column" : Str)), false), ((.c ("BadTable" : Str), .c ("Table" : Str)), false), ((.c ("BadTable" : Str), .c ("BadName" : Str)), false), ((.c ("BadTable" : Str), .c ("BadAction" : Str)), false), ((.c ("BadTable" : Str), .c ("BadColumn" : Str)), false), ((.c ("BadTable" : Str), .c ("BadTable" : Str)), true)]
def exmT : List ((PySem.Str × Mi.Kd) × Bool) := [((("BadName" : Str), .b "ValueError"), true), ((("BadName" : Str), .c ("BadName" : Str)), true), ((("BadName" : Str), .c ("BadAction" : Str)), false), ((("BadName" : Str), .c ("BadColumn" : Str)), false), ((("BadName" : Str), .c ("BadTable" : Str)), false), ((("BadAction" : Str), .b "ValueError"), true), ((("BadAction" : Str), .c ("BadName" : Str)), false), ((("BadAction" : Str), .c ("BadAction" : Str)), true), ((("BadAction" : Str), .c ("BadColumn" : Str)), false), ((("BadAction" : Str), .c ("BadTable" : Str)), false), ((("BadColumn" : Str), .b "ValueError"), true), ((("BadColumn" : Str), .c ("BadName" : Str)), false), ((("BadColumn" : Str), .c ("BadAction" : Str)), false), ((("BadColumn" : Str), .c ("BadColumn" : Str)), true), ((("BadColumn" : Str), .c ("BadTable" : Str)), false), ((("BadTable" : Str), .b "ValueError"), true), ((("BadTable" : Str), .c ("BadName" : Str)), false), ((("BadTable" : Str), .c ("BadAction" : Str)), false), ((("BadTable" : Str), .c ("BadColumn" : Str)), false), ((("BadTable" : Str), .c ("BadTable" : Str)), true)]
def xmkT : List (PySem.Str × List PySem.Str) := [(("BadName" : Str), [("value" : Str)]), (("BadAction" : Str), [("value" : Str)]), (("BadColumn" : Str), [("name" : Str)]), (("BadTable" : Str), [("name" : Str)])]
def nfT : List (PySem.Str × Mi.Kd) := [(("Column" : Str), .b "NoneType"), (("Column" : Str), .b "bool"), (("Column" : Str), .b "int"), (("Column" : Str), .b "str"), (("Column" : Str), .b "tuple"), (("Column" : Str), .b "list"), (("Column" : Str), .b "dict"), (("Column" : Str), .c ("Column" : Str)), (("Column" : Str), .c ("Table" : Str)), (("Table" : Str), .b "NoneType"), (("Table" : Str), .b "bool"), (("Table" : Str), .b "int"), (("Table" : Str), .b "str"), (("Table" : Str), .b "tuple"), (("Table" : Str), .b "list"), (("Table" : Str), .b "dict"), (("Table" : Str), .c ("Column" : Str)), (("Table" : Str), .c ("Table" : Str))]
def T : Mi.Tables := ⟨gt, Mi.esFns es cl, Mi.esMts es, [(("Column" : Str), ("name" : Str)), (("Column" : Str), ("links" : Str)), (("Column" : Str), ("nullable" : Str)), (("Column" : Str), ("default" : Str)), (("Table" : Str), ("name" : Str)), (("Table" : Str), ("parts" : Str)), (("Table" : Str), ("links" : Str))], [(("BadName" : Str), ("value" : Str)), (("BadAction" : Str), ("value" : Str)), (("BadColumn" : Str), ("name" : Str)), (("BadTable" : Str), ("name" : Str))], [("Column" : Str), ("Table" : Str), ("BadName" : Str), ("BadAction" : Str), ("BadColumn" : Str), ("BadTable" : Str)], [("Column" : Str), ("Table" : Str)], [("BadName" : Str), ("BadAction" : Str), ("BadColumn" : Str), ("BadTable" : Str)], isaT, exmT, nfT, xmkT⟩
def fuel : Nat := 40
def ow (k : Nat) : Mi.Own := Mi.owL T.G T.own T.fns T.mts fuel k
theorem fn_is_integer (j : Nat) : (ow (j + 2)).fn ("is_integer" : Str) = Mi.evF (ow (j + 1)) f_is_integer := by kernel_rfl
theorem fn_is_name (j : Nat) : (ow (j + 2)).fn ("is_name" : Str) = Mi.evF (ow (j + 1)) f_is_name := by kernel_rfl
theorem fn_without_twins (j : Nat) : (ow (j + 2)).fn ("without_twins" : Str) = Mi.evF (ow (j + 1)) f_without_twins := by kernel_rfl
theorem fn_is_link (j : Nat) : (ow (j + 2)).fn ("is_link" : Str) = Mi.evF (ow (j + 1)) f_is_link := by kernel_rfl
theorem fn_check_links (j : Nat) : (ow (j + 2)).fn ("check_links" : Str) = Mi.evF (ow (j + 1)) f_check_links := by kernel_rfl
theorem fn_has_twins (j : Nat) : (ow (j + 2)).fn ("has_twins" : Str) = Mi.evF (ow (j + 1)) f_has_twins := by kernel_rfl
theorem fn__law_bag (j : Nat) : (ow (j + 2)).fn ("_law_bag" : Str) = Mi.evF (ow (j + 1)) f__law_bag := by kernel_rfl
theorem fn__law_take (j : Nat) : (ow (j + 2)).fn ("_law_take" : Str) = Mi.evF (ow (j + 1)) f__law_take := by kernel_rfl
theorem fn__law_of (j : Nat) : (ow (j + 2)).fn ("_law_of" : Str) = Mi.evF (ow (j + 1)) f__law_of := by kernel_rfl
theorem fn__law_links (j : Nat) : (ow (j + 2)).fn ("_law_links" : Str) = Mi.evF (ow (j + 1)) f__law_links := by kernel_rfl
theorem fn__law_table_made (j : Nat) : (ow (j + 2)).fn ("_law_table_made" : Str) = Mi.evF (ow (j + 1)) f__law_table_made := by kernel_rfl
theorem fn__law_outcome (j : Nat) : (ow (j + 2)).fn ("_law_outcome" : Str) = Mi.evF (ow (j + 1)) f__law_outcome := by kernel_rfl
theorem fn__law_is_word (j : Nat) : (ow (j + 2)).fn ("_law_is_word" : Str) = Mi.evF (ow (j + 1)) f__law_is_word := by kernel_rfl
theorem fn__law_may_link (j : Nat) : (ow (j + 2)).fn ("_law_may_link" : Str) = Mi.evF (ow (j + 1)) f__law_may_link := by kernel_rfl
theorem fn__law_due (j : Nat) : (ow (j + 2)).fn ("_law_due" : Str) = Mi.evF (ow (j + 1)) f__law_due := by kernel_rfl
theorem fn__law_drawn (j : Nat) : (ow (j + 2)).fn ("_law_drawn" : Str) = Mi.evF (ow (j + 1)) f__law_drawn := by kernel_rfl
theorem fn__law_bent (j : Nat) : (ow (j + 2)).fn ("_law_bent" : Str) = Mi.evF (ow (j + 1)) f__law_bent := by kernel_rfl
theorem fn__law_right (j : Nat) : (ow (j + 2)).fn ("_law_right" : Str) = Mi.evF (ow (j + 1)) f__law_right := by kernel_rfl
theorem fn_law (j : Nat) : (ow (j + 2)).fn ("law" : Str) = Mi.evF (ow (j + 1)) f_law := by kernel_rfl
theorem mt_Column___init__ (j : Nat) : (ow (j + 2)).mt ("Column" : Str) ("__init__" : Str) = Mi.evF (ow (j + 1)) f_Column___init__ := by kernel_rfl
theorem mt_Column_actions (j : Nat) : (ow (j + 2)).mt ("Column" : Str) ("actions" : Str) = Mi.evF (ow (j + 1)) f_Column_actions := by kernel_rfl
theorem mt_Column___eq__ (j : Nat) : (ow (j + 2)).mt ("Column" : Str) ("__eq__" : Str) = Mi.evF (ow (j + 1)) f_Column___eq__ := by kernel_rfl
theorem mt_Table___init__ (j : Nat) : (ow (j + 2)).mt ("Table" : Str) ("__init__" : Str) = Mi.evF (ow (j + 1)) f_Table___init__ := by kernel_rfl
theorem mt_Table___eq__ (j : Nat) : (ow (j + 2)).mt ("Table" : Str) ("__eq__" : Str) = Mi.evF (ow (j + 1)) f_Table___eq__ := by kernel_rfl
theorem cls_Column (j : Nat) : (ow (j + 1)).fn ("Column" : Str) = Mi.makeM false ("Column" : Str) ((ow j).mt ("Column" : Str) ("__init__" : Str)) := by kernel_rfl
theorem cls_Table (j : Nat) : (ow (j + 1)).fn ("Table" : Str) = Mi.makeM false ("Table" : Str) ((ow j).mt ("Table" : Str) ("__init__" : Str)) := by kernel_rfl
end K02

namespace K02
open PySem Mi Pr Dr
theorem boot : T.boot = true := by decide +kernel
def bm_ValueError : List Value := [.type "ValueError", .type "Exception", .type "BaseException", .type "object"]
def xs : List (PySem.Str × String × List Value) := [(("BadName" : Str), "ValueError", bm_ValueError), (("BadAction" : Str), "ValueError", bm_ValueError), (("BadColumn" : Str), "ValueError", bm_ValueError), (("BadTable" : Str), "ValueError", bm_ValueError)]
def ex (K : PySem.W.Frag) : Bool := T.chk K && Mi.mtsB K T.mts cl && es.all (Mi.E1.kchk K) && (He.Fa.free "super").ok K && (He.Fa.glo "law").ok K && xs.all fun p => Mi.xiB PySem.Challenge.pw_keyactions_k02_tables_made.main.file K (He.ga K p.1) p.2.1 (p.2.1 ++ ".__new__") (p.2.1 ++ ".__init__") p.2.2 ((xmkT.lookup p.1).getD []) && PySem.W.keepIn K (.ref (He.ga K p.1)) && decide (PySem.W.subIn K (.ref (He.ga K p.1)) (.type "BaseException") = some true) && decide (PySem.W.typeIn K (.ref (He.ga K p.1)) = some (.type "type"))
abbrev Rw : PySem.W.OpenRow := PySem.W.OpenLaw.row PySem.Challenge.rw_keyactions_k02_tables_made
def dfs : List He.DefD := es.map Mi.E1.dd
abbrev hk : PySem.W.Hook := Mi.hookM 6 dfs ex
def ob (s : PySem.W.SharedT) : He.AlX := Mi.obsM 6 dfs ex (HandSHeadRun.getT s)
theorem ob_eq (s : PySem.W.SharedT) : ob s = hk.obs s.abs := Mi.obsM_eq (HandSHeadRun.getT_eq s)
def names : List PySem.Str := [("_wall" : Str), ("BadName" : Str), ("BadAction" : Str), ("BadColumn" : Str), ("BadTable" : Str), ("LETTERS" : Str), ("MOST_LETTERS" : Str), ("is_integer" : Str), ("is_name" : Str), ("without_twins" : Str), ("ID" : Str), ("CASCADE" : Str), ("SET_NULL" : Str), ("SET_DEFAULT" : Str), ("RESTRICT" : Str), ("NO_ACTION" : Str), ("ID_ACTIONS" : Str), ("MOST_COLUMNS" : Str), ("MOST_TARGETS" : Str), ("is_link" : Str), ("check_links" : Str), ("has_twins" : Str), ("Column" : Str), ("Table" : Str), ("_law_bag" : Str), ("_law_take" : Str), ("_law_of" : Str), ("_law_links" : Str), ("_law_table_made" : Str), ("_law_outcome" : Str), ("_law_is_word" : Str), ("_law_may_link" : Str), ("_law_due" : Str), ("_law_drawn" : Str), ("_law_bent" : Str), ("_law_right" : Str)]
theorem run (w : World) : HandSHeadRun.RunEq Rw (PySem.W.view Rw.prog [40]) hk ob 20000 names w := by
  intro os
  kernel_rfl
end K02

namespace K02
open PySem Mi Pr Dr
open K01 (Good GoodL SpWord SpBag)
/-! ### the defs, level by level -/
theorem a_str (j : Nat) : isaB (ow (j + 1)) "str" = true := by kernel_rfl
theorem a_int (j : Nat) : isaB (ow (j + 1)) "int" = true := by kernel_rfl
theorem a_bool (j : Nat) : isaB (ow (j + 1)) "bool" = true := by kernel_rfl
theorem a_tup (j : Nat) : isaB (ow (j + 1)) "tuple" = true := by kernel_rfl
theorem a_col (j : Nat) : isaC (ow (j + 1)) nCol = true := by kernel_rfl
theorem a_tab (j : Nat) : isaC (ow (j + 1)) nTab = true := by kernel_rfl
theorem colT (j : Nat) : ColT (ow (j + 1)) := ⟨by kernel_rfl, by kernel_rfl, by kernel_rfl, by kernel_rfl, by kernel_rfl, by kernel_rfl, List.contains_iff_mem.mp (by kernel_rfl)⟩
theorem tabT (j : Nat) : TabT (ow (j + 1)) := ⟨by kernel_rfl, by kernel_rfl, by kernel_rfl, by kernel_rfl, List.contains_iff_mem.mp (by kernel_rfl)⟩
theorem nfT' (j : Nat) : NfT (ow (j + 1)) := ⟨by kernel_rfl, by kernel_rfl, by kernel_rfl, by kernel_rfl⟩
theorem xT (j : Nat) : XT (ow (j + 1)) := by
  have m : (xNames.all fun c => xNames.all fun k => decide ((ow (j + 1)).exm c (.c k) = some (decide (c = k)))) = true := by kernel_rfl
  have i : (xNames.all fun c => xNames.all fun k => decide ((ow (j + 1)).isa (.c c) (.c k) = some (decide (c = k)))) = true := by kernel_rfl
  exact ⟨fun c hc k hk => of_decide_eq_true (List.all_eq_true.mp (List.all_eq_true.mp m c hc) k hk), fun c hc => List.contains_iff_mem.mp (List.all_eq_true.mp (show (xNames.all fun c => (ow (j + 1)).xcs.contains c) = true from by kernel_rfl) c hc), fun c hc k hk => of_decide_eq_true (List.all_eq_true.mp (List.all_eq_true.mp i c hc) k hk), by kernel_rfl, by kernel_rfl, by kernel_rfl⟩
theorem ow_ins : ∀ k, (ow k).ins = T.ins
  | 0 => by kernel_rfl
  | k + 1 => by kernel_rfl
theorem kn_to {i k : Nat} {v : D} (h : Kn (ow i) v) : Kn (ow k) v := fun c fs e => by
  have := h c fs e
  rw [ow_ins] at this ⊢
  exact this
theorem fit_to {i k : Nat} {v : D} (h : Fit (ow i) v) : Fit (ow k) v := ⟨kn_to h.k, h.l⟩
theorem fitL_to {i k : Nat} {v : D} (h : FitL (ow i) v) : FitL (ow k) v := ⟨kn_to h.k, fun xs e x hx => fit_to (h.p xs e x hx)⟩
theorem good_to {i k : Nat} {v : D} (h : Good (ow i) v) : Good (ow k) v := ⟨fit_to h.f, h.g⟩
theorem goodI_to {i k : Nat} {v : D} (h : GoodI (ow i) v) : GoodI (ow k) v := ⟨good_to h.g, fitL_to h.l⟩
theorem s_is_integer (j : Nat) : SpIsInt (ow (j + 2)) := fun v S hS k => by rw [fn_is_integer]; exact sp_is_integer (a_int j) (a_bool j) hS (kn_to k)
theorem s_is_name (j : Nat) : SpIsName (ow (j + 2)) := fun v S hS k => by rw [fn_is_name]; exact sp_is_name (a_str j) hS (kn_to k.k) k.l
theorem s_twins (j : Nat) : SpTwins (ow (j + 3)) := fun xs S hS hl => by
  rw [fn_has_twins]
  exact sp_has_twins (fun xs S hS hl => by rw [fn_without_twins]; exact sp_without_twins hS hl) hS hl
theorem s_is_link (j : Nat) : SpIsLink (ow (j + 3)) := fun v A acts S hS k hA => by rw [fn_is_link]; exact sp_is_link (a_str (j + 1)) (a_tup (j + 1)) (s_is_name j) hS (fitL_to k) hA
theorem s_links (j : Nat) : SpLinks (ow (j + 4)) := fun L A xs acts S hS hL hA h => by rw [fn_check_links]; exact sp_check_links (s_is_link j) hS hL hA fun x hx => fitL_to (h x hx)
theorem s_acts (j : Nat) : SpActs (ow (j + 2)) := fun w nm lk df nul S hS hw => by rw [mt_Column_actions]; exact sp_actions (colT j) hS hw
theorem s_column (j : Nat) : SpColumn2 (ow (j + 6)) := fun nm nul df refs kws S hS hk k1 k2 k3 k4 k5 => by
  rw [cls_Column]
  refine make_of hS ?_
  rw [mt_Column___init__]
  exact sp_col_init (colT (j + 3)) (a_bool (j + 3)) (s_is_name (j + 2)) (s_is_integer (j + 2)) (s_twins (j + 1)) (s_links j) (s_acts (j + 2)) hS (hk _) (fit_to k1) (kn_to k2) (kn_to k3) (fun x hx => fitL_to (k4 x hx)) k5
theorem bnd_tab {w nm : W} {cols ids : List D} {kws : List (Str × W)} (h : bndP [("self" : Str), ("name" : Str)] [(("ids" : Str), .tup [])] [w, nm] kws = some [w, nm, .d (.tup ids)]) (hl : cols.length ≤ 100000) : bndTab (w :: nm :: cols.map W.d) kws = some [w, nm, .d (.tup ids), .d (.tup cols)] := by
  show (match bndP [("self" : Str), ("name" : Str)] [(("ids" : Str), .tup [])] [w, nm] kws with
    | some l => if true then (match pureL (cols.map W.d) with
      | some ds => if ds.length ≤ 100000 then some (l ++ [W.d (.tup ds)]) else none
      | none => none) else _
    | none => none) = _
  rw [h, pureL_d]
  simp [hl]
theorem s_table (j : Nat) : SpTable (ow (j + 6)) := fun nm cols ids kws S hS hk k1 k4 k5 kc k6 => by
  rw [cls_Table]
  refine make_of hS ?_
  rw [mt_Table___init__]
  refine sp_tab_init (tabT (j + 3)) (colT (j + 3)) (s_is_name (j + 2)) (s_twins (j + 1)) (s_links j) hS ?_ (fit_to k1) (fun x hx => fitL_to (k4 x hx)) k5 kc k6
  rcases hk with rfl | ⟨rfl, rfl⟩
  · exact bnd_tab (by kernel_rfl) (by omega)
  · exact bnd_tab (by kernel_rfl) (by omega)
theorem s_ceq (j : Nat) : SpColEq2 (ow (j + 2)) := fun x y S hS hx ky hy => by rw [mt_Column___eq__]; exact sp_col_eq2 (colT j) (a_col j) hS hx (kn_to ky) hy
theorem s_teq (j : Nat) : SpTabEq (ow (j + 3)) := fun x y S hS hx ky hy => by rw [mt_Table___eq__]; exact sp_tab_eq (tabT (j + 1)) (colT (j + 1)) (a_tab (j + 1)) (nfT' (j + 1)).cc (s_ceq j) hS hx (kn_to ky) hy
theorem s_take (j : Nat) : SpTake ((ow (j + 2)).fn ("_law_take" : Str)) := by rw [fn__law_take]; exact sp_take
theorem s_of (j : Nat) : SpOf ((ow (j + 3)).fn ("_law_of" : Str)) := by rw [fn__law_of]; exact sp_of (s_take j)
theorem s_lk (j : Nat) : SpLk ((ow (j + 4)).fn ("_law_links" : Str)) := by rw [fn__law_links]; exact sp_links (s_take (j + 1)) (s_of j)
theorem s_bag (j : Nat) : SpBag ((ow (j + 2)).fn ("_law_bag" : Str)) := by rw [fn__law_bag]; exact fun ns at_ S hS h0 h1 => sp_bag hS h0 h1
theorem s_word (j : Nat) : SpWord (ow (j + 2)) := fun v S hS k => by rw [fn__law_is_word, word_same]; exact sp_is_name (a_str j) hS (kn_to k.k) k.l
theorem s_may (j : Nat) : SpMay (ow (j + 3)) := fun v S hS k => by rw [fn__law_may_link]; exact sp_may_link (a_str (j + 1)) (a_tup (j + 1)) (s_word j) hS (fitL_to k)
theorem s_out (j : Nat) : SpOut (ow (j + 8)) := fun nm cols ids S hS hX g1 g4 g5 g6 g7 => by
  rw [fn__law_outcome]
  refine sp_outcome (xT (j + 6)) ?_ hS hX fun k v hK => ?_
  · rw [fn__law_table_made]
    exact sp_table_made (s_table j) hS (fit_to g1.f) (fun x hx => fitL_to (g4 x hx).l) (by omega) (fun x hx => (g6 x hx).n) g7
  · rcases (K_mem hK).1 with rfl | hv
    · exact g1.s
    · exact (g4 v hv).g.s
theorem s_due (j : Nat) : SpDue (ow (j + 4)) := fun nm cols ids S hS g1 g4 g5 g6 g7 => by
  rw [fn__law_due]
  exact sp_due (colT (j + 2)) (s_word (j + 1)) (s_may j) hS (fit_to g1.f) (fun x hx => fitL_to (g4 x hx).l) (by omega) (fun x hx => (g6 x hx).n) (by omega) (fun x hx => (g4 x hx).g.o) g1.s fun x hx => (g4 x hx).g.s
theorem s_drawn (j : Nat) : SpDrawn ((ow (j + 7)).fn ("_law_drawn" : Str)) := by rw [fn__law_drawn]; exact sp_drawn (s_take (j + 4)) (s_of (j + 3)) (s_lk (j + 2)) (s_column j)
theorem s_bent (j : Nat) : SpBent ((ow (j + 7)).fn ("_law_bent" : Str)) (ow (j + 6)) := by rw [fn__law_bent]; exact sp_bent (s_take (j + 4)) (s_of (j + 3)) (s_column j)
theorem s_bent' (j : Nat) : SpBent ((ow (j + 7)).fn ("_law_bent" : Str)) (ow (j + 7)) := fun S i n c t cols ids hS hc hb hn ht g1 g2 g3 g4 => by
  obtain ⟨x, c', e, ⟨t2, cs2, ids2, rfl, h1, h2, h3, h4, h5⟩, b'⟩ := s_bent j S i n c t cols ids hS hc hb hn ht (fun y hy => goodI_to (g1 y hy)) g2 g3 g4
  exact ⟨_, c', e, ⟨t2, cs2, ids2, rfl, good_to h1, fun y hy => goodI_to (h2 y hy), h3, h4, h5⟩, b'⟩
theorem s_right (j : Nat) : SpRight ((ow (j + 9)).fn ("_law_right" : Str)) := by
  rw [fn__law_right]
  exact sp_right (s_drawn (j + 1)) (s_bent' (j + 1)) (s_out j) (s_due (j + 4)) (tabT (j + 7)) (colT (j + 7)) (a_tab (j + 7)) (a_tup (j + 7)) (s_ceq (j + 6)) (s_teq (j + 5)) (nfT' (j + 7))
theorem s_law (j : Nat) (ns : List Int) : ∃ S, (ow (j + 10)).fn ("law" : Str) [.d (.scr ns)] [] [] = .ok (.d (.bl true)) S := by
  rw [fn_law]
  exact sp_law (s_bag (j + 7)) (s_right j) (s_table (j + 3)) (tabT (j + 8)) ns
end K02

namespace K02
open PySem Mi Pr Dr
theorem tps : (PySem.Challenge.pw_keyactions_k02_tables_made.main.scope.names.lookup ("super" : Str)).isSome = false := by decide +kernel
theorem xs_all : ∀ x fs, xmkT.lookup x = some fs → (x, "ValueError", bm_ValueError) ∈ xs ∧ x ∈ T.clss := by
  intro x fs h
  have h := mem_look h
  simp only [xmkT, List.mem_cons, List.not_mem_nil, or_false, Prod.mk.injEq] at h
  rcases h with ⟨rfl, _⟩ | ⟨rfl, _⟩ | ⟨rfl, _⟩ | ⟨rfl, _⟩ <;> exact ⟨by simp [xs], by simp [T]⟩
theorem xr_of {w : World} {K : PySem.W.Frag} {h : Heap} {mg : Str → Option Value} (X : K.In h) (N : h.Ns mainGlobals mg) (c : ex K = true) (x : Str) (fs : List Str) (hx : xmkT.lookup x = some fs) : mg x = some (.ref (He.ga K x)) ∧ XRaise PySem.Challenge.pw_keyactions_k02_tables_made w K mg (He.ga K x) fs := by
  simp only [ex, Bool.and_eq_true] at c
  obtain ⟨⟨⟨⟨⟨c1, c2⟩, ck⟩, c3⟩, c4⟩, c5⟩ := c
  obtain ⟨hm, hc⟩ := xs_all x fs hx
  have z := List.all_eq_true.mp c5 _ hm
  simp only [Bool.and_eq_true, decide_eq_true_eq] at z
  rw [hx] at z
  have g := go_of X N boot c1
  exact ⟨g.ct.nm x hc, z.1.1.2, xi_ok ⟨_, PySem.Mi5.XBase.of F.excBase_ValueError⟩ PySem.W.kxs_ValueError F.store_ValueError (He.free_ok X N c3) tps z.1.1.1, z.1.2, z.2⟩
theorem facts {w : World} {K : PySem.W.Frag} {h : Heap} {mg : Str → Option Value} {f : Addr} (X : K.In h) (N : h.Ns mainGlobals mg) (hfa : mg ("law" : Str) = some (.ref f)) (c : He.SaysT [] dfs [] w K) (cx : ex K = true) :
    ∀ base : Heap, K.In base → base.Ns mainGlobals mg → FnM (gx K) PySem.Challenge.pw_keyactions_k02_tables_made w K mg base 10 f ((ow 10).fn ("law" : Str)) := by
  have cx' := cx
  simp only [ex, Bool.and_eq_true] at cx'
  obtain ⟨⟨⟨⟨⟨c1, c2⟩, ck⟩, c3⟩, c4⟩, c5⟩ := cx'
  intro base XB NB
  have go := go_of X N boot c1
  have tab : Tab (gx K) T.G T.own PySem.Challenge.pw_keyactions_k02_tables_made w mg base T.fns T.mts := tab_of X N rfl rfl c1 c2 (by decide +kernel) ck c.d (xr_of X N cx)
  have e := hfa.symm.trans (He.glo_ok X N c4)
  cases e
  have ih := own_L (fuel := fuel) go tab 9
  obtain ⟨fd, F⟩ := c.d.defs (d := e_law.dd) (List.mem_map.mpr ⟨e_law, by simp [es], rfl⟩)
  have fdl : FDef (gx K) PySem.Challenge.pw_keyactions_k02_tables_made w mg base e_law.info (He.ga K ("law" : Str)) := E1.fdef (fn := dfs) c.d (List.mem_map.mpr ⟨e_law, by simp [es], rfl⟩) (by decide +kernel) rfl
  obtain ⟨name, qual, params, dV, kV, doc, pm, cdv, ct, oc, an, od, osl, ps, lk, hcd, S, hb⟩ := fdl
  exact fn_sound (go_L go 9) ih ⟨(runN_ok T.G _ fuel).s⟩ lk hcd S hb
end K02

open PySem PySem.W PySem.Calls PyProof.Rows
theorem PySem.Challenge.cw_keyactions_k02_tables_made_holds : PySem.Challenge.rw_keyactions_k02_tables_made.Holds := by
  w_on; o_law
  refine HandSHeadRun.head_any (r := OpenLaw.row PySem.Challenge.rw_keyactions_k02_tables_made) (q := view (OpenLaw.row PySem.Challenge.rw_keyactions_k02_tables_made).prog [40]) (H := K02.hk) (ob := K02.ob) (M := 20000) (loose := K02.names) (d := HandSHeadRun.topDef (OpenLaw.row PySem.Challenge.rw_keyactions_k02_tables_made).prog 40) (kwd := []) K02.ob_eq
    (by kernel_rfl) (fun s => by kernel_rfl) K02.run (by kernel_rfl) (by kernel_rfl) (by kernel_rfl) (by rfl) (by first | assumption | decide +kernel) (by decide +kernel) ⟨rfl, rfl, rfl, rfl, rfl, by decide +kernel⟩ ?hw ?hc
  case hw => w_witness2
  case hc =>
    refine Mi.walk_mini (l := PySem.Challenge.rw_keyactions_k02_tables_made) (n := 63) (k := 10) rfl (by decide) (by kernel_rfl) ⟨rfl, by decide, by decide⟩ ?F
    intro w mg fa h Y G hmg0
    obtain ⟨K, KX, c, cx⟩ := Y
    have hmg : mg ("law" : PySem.Str) = some (.ref fa) := by
      have e : (HandSHeadRun.topDef (OpenLaw.row PySem.Challenge.rw_keyactions_k02_tables_made).prog 40).name = ("law" : PySem.Str) := by kernel_rfl
      rw [← e]
      exact hmg0
    exact ⟨Mi.gx K, (K02.ow 10).fn ("law" : PySem.Str), KX, K02.facts KX G hmg c cx, fun ns hl hb => K02.s_law 0 ns⟩

