import PyProof.Rows.All
import Wide.All
import OpenK.AllK
import Wide.FinOn
import HandS.ForMost
import HandS.ForExc
import HandS.IsInst
import HandS.SortInts
import HandS.TupLe
import HandS.TupAny
import HandS.SuiteRaise
import HandS.Rev
import KE.KDictList
import HandS.HotCalls
import HandS.ExcIs
import HandS.Deep
import HandS.Set
import HandS.SetFor
import HandS.More
import HandS.SetKeys
import HandS.ExcOwn
import HandS.Style
import HandS.Words
import HandS.EndBits
import PySem.Challenge.RW_allscripts_k01_whole_class_tables_of_man
set_option Elab.async false
set_option linter.all false
set_option maxRecDepth 100000
set_option maxHeartbeats 1000000
/-! Data over the hand layer: values as trees, a store for what changes. -/
namespace DL
open PySem PySem.Spec PyProof.Rows L2

/-- what a value is, as a tree; obj: a thing known by its address alone -/
inductive D where
  | non | bl (b : Bool) | int (i : Int) | str (x : Str)
  | lst (l : List D) | fz (l : List D) | tup (l : List D)
  | ins (C : Nat) (fs : List (Str × D))
  | dik (kvs : List (Key × D)) | dit (kvs : List (List Key × D))
  | obj (a : Addr)

/-- the written part, and where the classes stand -/
structure KC where
  K : PySem.W.Frag
  cl : Nat → Addr
mutual
def Den (K : KC) (M : Addr → Prop) (H : Hp) : D → V → Prop
  | .non, v => v = .non
  | .bl b, v => v = .bl b
  | .int i, v => v = .int i
  | .str x, v => v = .str x
  | .lst l, v => ∃ a vs, v = .ref a ∧ H a = some (.lst vs) ∧ ¬ M a ∧ DenL K M H l vs
  | .fz l, v => ∃ a vs, v = .ref a ∧ ((∃ o, H a = some (.frz o (.lst vs))) ∧ ¬ M a ∨ (∀ H', SqL K.K H' a vs)) ∧ DenL K M H l vs
  | .tup l, v => ∃ a vs, v = .ref a ∧ (H a = some (.tup vs) ∧ ¬ M a ∨ (∀ H', SqT K.K H' a vs)) ∧ DenL K M H l vs
  | .ins C fs, v => ∃ a dx vfs, v = .ref a ∧ H a = some (.ins (K.cl C) dx vfs) ∧ ¬ M a ∧ DenF K M H fs vfs
  | .dik kvs, v => ∃ a us, v = .ref a ∧ H a = some (.dK us) ∧ ¬ M a ∧ DenK K M H kvs us
  | .dit kvs, v => ∃ a us, v = .ref a ∧ H a = some (.dT us) ∧ ¬ M a ∧ DenT K M H kvs us
  | .obj a, v => v = .ref a
def DenL (K : KC) (M : Addr → Prop) (H : Hp) : List D → List V → Prop
  | [], [] => True
  | d :: ds, v :: vs => Den K M H d v ∧ DenL K M H ds vs
  | _, _ => False
def DenF (K : KC) (M : Addr → Prop) (H : Hp) : List (Str × D) → List (Str × V) → Prop
  | [], [] => True
  | (x, d) :: ds, (y, v) :: vs => x = y ∧ Den K M H d v ∧ DenF K M H ds vs
  | _, _ => False
def DenK (K : KC) (M : Addr → Prop) (H : Hp) : List (Key × D) → List (Key × V) → Prop
  | [], [] => True
  | (x, d) :: ds, (y, v) :: vs => x = y ∧ Den K M H d v ∧ DenK K M H ds vs
  | _, _ => False
def DenT (K : KC) (M : Addr → Prop) (H : Hp) : List (List Key × D) → List (List Key × V) → Prop
  | [], [] => True
  | (x, d) :: ds, (y, v) :: vs => x = y ∧ Den K M H d v ∧ DenT K M H ds vs
  | _, _ => False
end

/-- what stood and did not change stands and does not change -/
def Imm (M : Addr → Prop) (H : Hp) (M' : Addr → Prop) (H' : Hp) : Prop := ∀ a o, ¬ M a → H a = some o → ¬ M' a ∧ H' a = some o
section
variable {K : KC} {M M' M'' : Addr → Prop} {H H' H'' : Hp}
theorem Imm.refl : Imm M H M H := fun _ _ h e => ⟨h, e⟩
theorem Imm.trans (p : Imm M H M' H') (q : Imm M' H' M'' H'') : Imm M H M'' H'' := fun a o h e => let ⟨h1, e1⟩ := p a o h e; q a o h1 e1
mutual
theorem Den.mono (p : Imm M H M' H') : ∀ (d : D) (v : V), Den K M H d v → Den K M' H' d v
  | .non, v, h => by simpa [Den] using h
  | .bl b, v, h => by simpa [Den] using h
  | .int i, v, h => by simpa [Den] using h
  | .str x, v, h => by simpa [Den] using h
  | .obj a, v, h => by simpa [Den] using h
  | .lst l, v, h => by
    simp only [Den] at h ⊢
    obtain ⟨a, vs, e, h1, h2, h3⟩ := h
    obtain ⟨q1, q2⟩ := p a _ h2 h1
    exact ⟨a, vs, e, q2, q1, DenL.mono p l vs h3⟩
  | .fz l, v, h => by
    simp only [Den] at h ⊢
    obtain ⟨a, vs, e, h1, h3⟩ := h
    refine ⟨a, vs, e, ?_, DenL.mono p l vs h3⟩
    rcases h1 with ⟨⟨o, h1⟩, h2⟩ | h1
    · obtain ⟨q1, q2⟩ := p a _ h2 h1
      exact .inl ⟨⟨o, q2⟩, q1⟩
    · exact .inr h1
  | .tup l, v, h => by
    simp only [Den] at h ⊢
    obtain ⟨a, vs, e, h1, h3⟩ := h
    refine ⟨a, vs, e, ?_, DenL.mono p l vs h3⟩
    rcases h1 with ⟨h1, h2⟩ | h1
    · obtain ⟨q1, q2⟩ := p a _ h2 h1
      exact .inl ⟨q2, q1⟩
    · exact .inr h1
  | .ins C fs, v, h => by
    simp only [Den] at h ⊢
    obtain ⟨a, dx, vs, e, h1, h2, h3⟩ := h
    obtain ⟨q1, q2⟩ := p a _ h2 h1
    exact ⟨a, dx, vs, e, q2, q1, DenF.mono p fs vs h3⟩
  | .dik kvs, v, h => by
    simp only [Den] at h ⊢
    obtain ⟨a, vs, e, h1, h2, h3⟩ := h
    obtain ⟨q1, q2⟩ := p a _ h2 h1
    exact ⟨a, vs, e, q2, q1, DenK.mono p kvs vs h3⟩
  | .dit kvs, v, h => by
    simp only [Den] at h ⊢
    obtain ⟨a, vs, e, h1, h2, h3⟩ := h
    obtain ⟨q1, q2⟩ := p a _ h2 h1
    exact ⟨a, vs, e, q2, q1, DenT.mono p kvs vs h3⟩
theorem DenL.mono (p : Imm M H M' H') : ∀ (ds : List D) (vs : List V), DenL K M H ds vs → DenL K M' H' ds vs
  | [], [], _ => by simp [DenL]
  | d :: ds, v :: vs, h => by
    simp only [DenL] at h ⊢
    exact ⟨Den.mono p d v h.1, DenL.mono p ds vs h.2⟩
  | [], _ :: _, h => by simp [DenL] at h
  | _ :: _, [], h => by simp [DenL] at h
theorem DenF.mono (p : Imm M H M' H') : ∀ (ds : List (Str × D)) (vs : List (Str × V)), DenF K M H ds vs → DenF K M' H' ds vs
  | [], [], _ => by simp [DenF]
  | (x, d) :: ds, (y, v) :: vs, h => by
    simp only [DenF] at h ⊢
    exact ⟨h.1, Den.mono p d v h.2.1, DenF.mono p ds vs h.2.2⟩
  | [], _ :: _, h => by simp [DenF] at h
  | _ :: _, [], h => by simp [DenF] at h
theorem DenK.mono (p : Imm M H M' H') : ∀ (ds : List (Key × D)) (vs : List (Key × V)), DenK K M H ds vs → DenK K M' H' ds vs
  | [], [], _ => by simp [DenK]
  | (x, d) :: ds, (y, v) :: vs, h => by
    simp only [DenK] at h ⊢
    exact ⟨h.1, Den.mono p d v h.2.1, DenK.mono p ds vs h.2.2⟩
  | [], _ :: _, h => by simp [DenK] at h
  | _ :: _, [], h => by simp [DenK] at h
theorem DenT.mono (p : Imm M H M' H') : ∀ (ds : List (List Key × D)) (vs : List (List Key × V)), DenT K M H ds vs → DenT K M' H' ds vs
  | [], [], _ => by simp [DenT]
  | (x, d) :: ds, (y, v) :: vs, h => by
    simp only [DenT] at h ⊢
    exact ⟨h.1, Den.mono p d v h.2.1, DenT.mono p ds vs h.2.2⟩
  | [], _ :: _, h => by simp [DenT] at h
  | _ :: _, [], h => by simp [DenT] at h
end
theorem DenL.length : ∀ {ds : List D} {vs : List V}, DenL K M H ds vs → ds.length = vs.length
  | [], [], _ => rfl
  | _ :: _, _ :: _, h => by simp only [DenL] at h; simp [DenL.length h.2]
  | [], _ :: _, h => by simp [DenL] at h
  | _ :: _, [], h => by simp [DenL] at h
theorem DenL.append : ∀ {ds es : List D} {vs ws : List V}, DenL K M H ds vs → DenL K M H es ws → DenL K M H (ds ++ es) (vs ++ ws)
  | [], _, [], _, _, h => h
  | _ :: _, _, _ :: _, _, h, h' => by
    simp only [DenL, List.cons_append] at h ⊢
    exact ⟨h.1, DenL.append h.2 h'⟩
  | [], _, _ :: _, _, h, _ => by simp [DenL] at h
  | _ :: _, _, [], _, h, _ => by simp [DenL] at h
theorem DenL.get : ∀ {ds : List D} {vs : List V} {i : Nat} {v : V}, DenL K M H ds vs → vs[i]? = some v → ∃ d, ds[i]? = some d ∧ Den K M H d v
  | [], [], _, _, _, e => by simp at e
  | d :: ds, v :: vs, 0, w, h, e => by
    simp only [DenL] at h
    simp at e; subst e
    exact ⟨d, rfl, h.1⟩
  | d :: ds, v :: vs, i + 1, w, h, e => by
    simp only [DenL] at h
    obtain ⟨x, e1, q⟩ := DenL.get (i := i) h.2 (by simpa using e)
    exact ⟨x, by simpa using e1, q⟩
  | [], _ :: _, _, _, h, _ => by simp [DenL] at h
  | _ :: _, [], _, _, h, _ => by simp [DenL] at h
theorem DenL.getD : ∀ {ds : List D} {vs : List V} {i : Nat} {d : D}, DenL K M H ds vs → ds[i]? = some d → ∃ v, vs[i]? = some v ∧ Den K M H d v
  | [], [], _, _, _, e => by simp at e
  | d :: ds, v :: vs, 0, w, h, e => by
    simp only [DenL] at h
    simp at e; subst e
    exact ⟨v, rfl, h.1⟩
  | d :: ds, v :: vs, i + 1, w, h, e => by
    simp only [DenL] at h
    obtain ⟨x, e1, q⟩ := DenL.getD (i := i) h.2 (by simpa using e)
    exact ⟨x, by simpa using e1, q⟩
  | [], _ :: _, _, _, h, _ => by simp [DenL] at h
  | _ :: _, [], _, _, h, _ => by simp [DenL] at h
end

/-- what may change and is known by its address -/
inductive Cell where
  | lst (l : List D) | ins (C : Nat) (fs : List (Str × D)) | gen | dik (kvs : List (Key × D)) | dit (kvs : List (List Key × D))
abbrev Store := Addr → Option Cell
def Store.upd (S : Store) (a : Addr) (c : Cell) : Store := fun b => if b = a then some c else S b
def Store.era (S : Store) (a : Addr) : Store := fun b => if b = a then none else S b
def CellOk (K : KC) (M : Addr → Prop) (H : Hp) (a : Addr) : Cell → Prop
  | .lst l => ∃ vs, H a = some (.lst vs) ∧ DenL K M H l vs
  | .ins C fs => ∃ dx vfs, H a = some (.ins (K.cl C) dx vfs) ∧ DenF K M H fs vfs
  | .gen => ∃ ns : List Int, H a = some (.lst (ns.map V.int)) ∧ ∀ n ∈ ns, 0 ≤ n
  | .dik kvs => ∃ us, H a = some (.dK us) ∧ DenK K M H kvs us
  | .dit kvs => ∃ us, H a = some (.dT us) ∧ DenT K M H kvs us
/-- the store is held -/
structure StOk (K : KC) (M : Addr → Prop) (H : Hp) (S : Store) : Prop where
  cell : ∀ a c, S a = some c → M a ∧ CellOk K M H a c
  has : ∀ a, M a → ∃ o, H a = some o
/-- a step: what is immutable stays; what is mutable and not in the store (others' own lists) stays as it is -/
structure Stp (M : Addr → Prop) (H : Hp) (S : Store) (M' : Addr → Prop) (H' : Hp) (S' : Store) : Prop where
  imm : Imm M H M' H'
  fr : ∀ a, M a → S a = none → M' a ∧ H' a = H a ∧ S' a = none
  there : ∀ a o, H a = some o → ∃ o', H' a = some o'
theorem Stp.refl {M : Addr → Prop} {H : Hp} {S : Store} : Stp M H S M H S := ⟨Imm.refl, fun _ h e => ⟨h, rfl, e⟩, fun _ o e => ⟨o, e⟩⟩
theorem Stp.trans {M M1 M2 : Addr → Prop} {H H1 H2 : Hp} {S S1 S2 : Store} (p : Stp M H S M1 H1 S1) (q : Stp M1 H1 S1 M2 H2 S2) : Stp M H S M2 H2 S2 :=
  ⟨p.imm.trans q.imm, fun a h e => let ⟨h1, e1, s1⟩ := p.fr a h e; let ⟨h2, e2, s2⟩ := q.fr a h1 s1; ⟨h2, e2.trans e1, s2⟩, fun a o e => let ⟨o1, e1⟩ := p.there a o e; q.there a o1 e1⟩

/-- a slot of the frame -/
inductive Sl where
  | no | val (d : D) | own (l : List D)
abbrev Env := List Sl
/-- where the def was entered -/
structure En where
  cl : Nat → Addr
  M : Addr → Prop
  H : Hp
  S : Store
structure Rep (K : KC) (Y : En) (M : Addr → Prop) (σ : L2.St) (H : Hp) (env : Env) (S : Store) : Prop where
  len : σ.length = env.length
  val : ∀ (i : Nat) d, env[i]? = some (.val d) → ∃ v, σ[i]? = some (some v) ∧ Den K M H d v
  own : ∀ (i : Nat) l, env[i]? = some (.own l) → ∃ p vs, σ[i]? = some (some (.ref p)) ∧ H p = some (.lst vs) ∧ M p ∧ S p = none ∧ Y.H p = none ∧ DenL K M H l vs
  inj : ∀ (i j : Nat) l l' p, env[i]? = some (.own l) → env[j]? = some (.own l') → σ[i]? = some (some (.ref p)) → σ[j]? = some (some (.ref p)) → i = j
  st : StOk K M H S
  stp : Stp Y.M Y.H Y.S M H S
theorem Rep.step {K : KC} {Y : En} {M M' : Addr → Prop} {σ : L2.St} {H H' : Hp} {env : Env} {S S' : Store} (R : Rep K Y M σ H env S) (p : Stp M H S M' H' S') (o : StOk K M' H' S') : Rep K Y M' σ H' env S' where
  len := R.len
  val := fun i d e => let ⟨v, e1, h⟩ := R.val i d e; ⟨v, e1, Den.mono p.imm d v h⟩
  own := fun i l e => by
    obtain ⟨q, vs, e1, h1, h2, h3, h4, h5⟩ := R.own i l e
    obtain ⟨f1, f2, f3⟩ := p.fr q h2 h3
    exact ⟨q, vs, e1, f2.trans h1, f1, f3, h4, DenL.mono p.imm l vs h5⟩
  inj := R.inj
  st := o
  stp := R.stp.trans p

/-- an exception: its class -/
abbrev Ex := Nat
abbrev QE := D → Store → Prop
abbrev RE := Ex → Store → Prop
abbrev ME := Env → Store → QE → RE → Prop
abbrev MT := Env → Store → (Bool → Store → Prop) → RE → Prop
abbrev MA := Env → Store → (List D → Store → Prop) → RE → Prop

/-- a value that is read and not kept: a tree, or an own list -/
def DenB (K : KC) (M : Addr → Prop) (H : Hp) (S : Store) (d : D) (v : V) : Prop :=
  Den K M H d v ∨ ∃ l p vs, d = .lst l ∧ v = .ref p ∧ M p ∧ S p = none ∧ H p = some (.lst vs) ∧ DenL K M H l vs
theorem DenB.mono {K : KC} {M M' : Addr → Prop} {H H' : Hp} {S S' : Store} {d : D} {v : V} (p : Stp M H S M' H' S') (h : DenB K M H S d v) : DenB K M' H' S' d v := by
  rcases h with h | ⟨l, q, vs, e1, e2, h2, h3, h1, h5⟩
  · exact .inl (Den.mono p.imm d v h)
  · obtain ⟨f1, f2, f3⟩ := p.fr q h2 h3
    exact .inr ⟨l, q, vs, e1, e2, f1, f3, f2.trans h1, DenL.mono p.imm l vs h5⟩

/-- what is wanted of an exception, at the data's level -/
def RX (K : KC) (W : WX) (M : Addr → Prop) (σ : L2.St) (H : Hp) (S : Store) (R : RE) : Prop :=
  ∀ c S' M' H', R c S' → Stp M H S M' H' S' → StOk K M' H' S' → W (.ref (K.cl c)) none σ H'
theorem RX.step {K : KC} {W : WX} {M M' : Addr → Prop} {σ : L2.St} {H H' : Hp} {S S' : Store} {R : RE} (h : RX K W M σ H S R) (p : Stp M H S M' H' S') : RX K W M' σ H' S' R :=
  fun c S2 M2 H2 r q o => h c S2 M2 H2 r (p.trans q) o
section
variable (K : KC) (Y : En) (W : WX)
def tD (m : ME) : TE := fun σ H Q => ∃ M env S Qd Rd, Rep K Y M σ H env S ∧ m env S Qd Rd ∧ RX K W M σ H S Rd ∧
  ∀ d S' v M' H', Qd d S' → Stp M H S M' H' S' → StOk K M' H' S' → Den K M' H' d v → Q v H'
def tDB (m : ME) : TE := fun σ H Q => ∃ M env S Qd Rd, Rep K Y M σ H env S ∧ m env S Qd Rd ∧ RX K W M σ H S Rd ∧
  ∀ d S' v M' H', Qd d S' → Stp M H S M' H' S' → StOk K M' H' S' → DenB K M' H' S' d v → Q v H'
/-- a new list: its address was free -/
def tDF (m : ME) : TE := fun σ H Q => ∃ M env S Qd Rd, Rep K Y M σ H env S ∧ m env S Qd Rd ∧ RX K W M σ H S Rd ∧
  ∀ d S' M' H' l p vs, Qd d S' → d = .lst l → Stp M H S M' H' S' → StOk K M' H' S' → H p = none → H' p = some (.lst vs) → M' p → S' p = none → DenL K M' H' l vs → Q (.ref p) H'
def tDT (m : MT) : TT := fun σ H Q => ∃ M env S Qd Rd, Rep K Y M σ H env S ∧ m env S Qd Rd ∧ RX K W M σ H S Rd ∧
  ∀ b S' M' H', Qd b S' → Stp M H S M' H' S' → StOk K M' H' S' → Q b H'
def tDA (m : MA) : TA := fun σ H Q => ∃ M env S Qd Rd, Rep K Y M σ H env S ∧ m env S Qd Rd ∧ RX K W M σ H S Rd ∧
  ∀ ds S' vs M' H', Qd ds S' → Stp M H S M' H' S' → StOk K M' H' S' → DenL K M' H' ds vs → Q vs H'
end
abbrev kc (X : Cx) (Y : En) : KC := ⟨X.K, Y.cl⟩
structure DE (X : Cx) (Y : En) (W : WX) (x : Expr) (m : ME) : Prop where
  run : PE X x (tD (kc X Y) Y W m)
structure DB (X : Cx) (Y : En) (W : WX) (x : Expr) (m : ME) : Prop where
  run : PE X x (tDB (kc X Y) Y W m)
structure DF (X : Cx) (Y : En) (W : WX) (x : Expr) (m : ME) : Prop where
  run : PE X x (tDF (kc X Y) Y W m)
structure DT (X : Cx) (Y : En) (W : WX) (x : Expr) (m : MT) : Prop where
  run : PT X x (tDT (kc X Y) Y W m)
structure DW (X : Cx) (Y : En) (W : WX) (x : Expr) (m : MT) : Prop where
  run : PW X x (tDT (kc X Y) Y W m)
structure DA (X : Cx) (Y : En) (W : WX) (xs : List Expr) (m : MA) : Prop where
  run : PA X xs (tDA (kc X Y) Y W m)
theorem weakE {X : Cx} {x : Expr} {t t' : TE} (h : PE X x t) (i : ∀ σ H Q, t' σ H Q → t σ H Q) : PE X x t' := ⟨fun pins s σ H Q I q => h.run pins s σ H Q I (i σ H Q q)⟩
theorem weakT {X : Cx} {x : Expr} {t t' : TT} (h : PT X x t) (i : ∀ σ H Q, t' σ H Q → t σ H Q) : PT X x t' := ⟨fun pins s σ H Q I q => h.run pins s σ H Q I (i σ H Q q)⟩
theorem weakW {X : Cx} {x : Expr} {t t' : TT} (h : PW X x t) (i : ∀ σ H Q, t' σ H Q → t σ H Q) : PW X x t' := ⟨fun wh pins s σ H Q I q => h.run wh pins s σ H Q I (i σ H Q q)⟩
theorem weakA {X : Cx} {x : List Expr} {t t' : TA} (h : PA X x t) (i : ∀ σ H Q, t' σ H Q → t σ H Q) : PA X x t' := ⟨fun pos pins s σ H Q I q => h.run pos pins s σ H Q I (i σ H Q q)⟩
theorem weakS {X : Cx} {x : Stmt} {t t' : TS} (h : PS X x t) (i : ∀ D σ H, t' D σ H → t D σ H) : PS X x t' := ⟨fun pins s σ H D I q => h.run pins s σ H D I (i D σ H q)⟩
theorem weakSs {X : Cx} {x : List Stmt} {t t' : TS} (h : PSs X x t) (i : ∀ D σ H, t' D σ H → t D σ H) : PSs X x t' := ⟨fun pins s σ H D I q => h.run pins s σ H D I (i D σ H q)⟩

section
variable {X : Cx} {Y : En} {W : WX}
theorem DE.b {x : Expr} {m : ME} (h : DE X Y W x m) : DB X Y W x m := ⟨weakE h.run fun σ H Q ⟨M, env, S, Qd, Rd, r, q, rx, k⟩ => ⟨M, env, S, Qd, Rd, r, q, rx, fun d S' v M' H' a b c e => k d S' v M' H' a b c (.inl e)⟩⟩

/-! ### names, constants -/
def mVar (i : Nat) : ME := fun env S Q _ => ∃ d, env[i]? = some (.val d) ∧ Q d S
def mOwn (i : Nat) : ME := fun env S Q _ => ∃ l, env[i]? = some (.own l) ∧ Q (.lst l) S
def mC (d : D) : ME := fun _ S Q _ => Q d S
theorem d_var (i : Nat) {x : Str} {pos : Pos} (hN : X.N[i]? = some x := by rfl) (hv : Vis X.env.scope x := by first | exact Or.inl rfl | exact Or.inr (Or.inl rfl) | exact Or.inr (Or.inr rfl)) (hd : (x == ("__debug__" : Str)) = false := by decide)
    (hcd : (x == ("__classdict__" : Str)) = false := by decide) : DE X Y W (.Name x pos) (mVar i) := ⟨weakE (pe_var hN hv hd hcd) fun σ H Q ⟨M, env, S, Qd, Rd, r, ⟨d, e, q⟩, rx, k⟩ => by
  obtain ⟨v, e1, dn⟩ := r.val i d e
  exact ⟨v, e1, k d S v M H q Stp.refl r.st dn⟩⟩
theorem d_own (i : Nat) {x : Str} {pos : Pos} (hN : X.N[i]? = some x := by rfl) (hv : Vis X.env.scope x := by first | exact Or.inl rfl | exact Or.inr (Or.inl rfl) | exact Or.inr (Or.inr rfl)) (hd : (x == ("__debug__" : Str)) = false := by decide)
    (hcd : (x == ("__classdict__" : Str)) = false := by decide) : DB X Y W (.Name x pos) (mOwn i) := ⟨weakE (pe_var hN hv hd hcd) fun σ H Q ⟨M, env, S, Qd, Rd, r, ⟨l, e, q⟩, rx, k⟩ => by
  obtain ⟨p, vs, e1, h1, h2, h3, h4, h5⟩ := r.own i l e
  exact ⟨.ref p, e1, k (.lst l) S (.ref p) M H q Stp.refl r.st (.inr ⟨l, p, vs, rfl, rfl, h2, h3, h1, h5⟩)⟩⟩
theorem d_int {i j pos} : DE X Y W (.Constant (.int i) j pos) (mC (.int i)) := ⟨weakE pe_int fun σ H Q ⟨M, env, S, Qd, Rd, r, q, rx, k⟩ => k _ S _ M H q Stp.refl r.st (by simp [Den])⟩
theorem d_bl {b j pos} : DE X Y W (.Constant (.bool b) j pos) (mC (.bl b)) := ⟨weakE pe_bl fun σ H Q ⟨M, env, S, Qd, Rd, r, q, rx, k⟩ => k _ S _ M H q Stp.refl r.st (by simp [Den])⟩
theorem d_non {j pos} : DE X Y W (.Constant .none j pos) (mC .non) := ⟨weakE pe_non fun σ H Q ⟨M, env, S, Qd, Rd, r, q, rx, k⟩ => k _ S _ M H q Stp.refl r.st (by simp [Den])⟩
theorem d_str {x j pos} : DE X Y W (.Constant (.str x) j pos) (mC (.str x)) := ⟨weakE pe_str fun σ H Q ⟨M, env, S, Qd, Rd, r, q, rx, k⟩ => k _ S _ M H q Stp.refl r.st (by simp [Den])⟩

/-! ### two operands -/
/-- an operation on data: from the values as they stand to what is wanted -/
def OpD (X : Cx) (f : Value → Value → Sem Value) (o : D → D → Store → (D → Prop) → Prop) : Prop :=
  OpR X f (fun x y H Q => ∃ cl M S d e Qd, DenB ⟨X.K, cl⟩ M H S d x ∧ DenB ⟨X.K, cl⟩ M H S e y ∧ StOk ⟨X.K, cl⟩ M H S ∧ o d e S Qd ∧ ∀ z v M' H', Qd z → Stp M H S M' H' S → StOk ⟨X.K, cl⟩ M' H' S → Den ⟨X.K, cl⟩ M' H' z v → Q v H')
def mOp (o : D → D → Store → (D → Prop) → Prop) (ma mb : ME) : ME := fun env S Q R => ma env S (fun x S1 => mb env S1 (fun y S2 => o x y S2 fun z => Q z S2) R) R
theorem DOp {o : D → D → Store → (D → Prop) → Prop} {a b : Expr} {ma mb : ME} {pos : Pos} {op : Operator} (ho : OpD X (binaryOp op) o) (ha : DB X Y W a ma) (hb : DB X Y W b mb) : DE X Y W (.BinOp a op b pos) (mOp o ma mb) :=
  ⟨weakE (pe_op ho ha.run hb.run) fun σ H Q ⟨M, env, S, Qd, Rd, r, q, rx, k⟩ => ⟨M, env, S, _, Rd, r, q, rx, fun d S1 v M1 H1 q1 p1 o1 dn1 =>
    ⟨M1, env, S1, _, Rd, r.step p1 o1, q1, rx.step p1, fun e S2 u M2 H2 q2 p2 o2 dn2 =>
      ⟨Y.cl, M2, S2, d, e, _, dn1.mono p2, dn2, o2, q2, fun z w M3 H3 q3 p3 o3 dn3 => k z S2 w M3 H3 q3 ((p1.trans p2).trans p3) o3 dn3⟩⟩⟩⟩
theorem DCmp {o : D → D → Store → (D → Prop) → Prop} {a b : Expr} {ma mb : ME} {pos : Pos} {op : CmpOp} (ho : OpD X (compareOp op) o) (ha : DB X Y W a ma) (hb : DB X Y W b mb) (hm : behindInMarks op b = false) : DE X Y W (.Compare a [op] [b] pos) (mOp o ma mb) :=
  ⟨weakE (pe_cmpR ho ha.run hb.run hm) fun σ H Q ⟨M, env, S, Qd, Rd, r, q, rx, k⟩ => ⟨M, env, S, _, Rd, r, q, rx, fun d S1 v M1 H1 q1 p1 o1 dn1 =>
    ⟨M1, env, S1, _, Rd, r.step p1 o1, q1, rx.step p1, fun e S2 u M2 H2 q2 p2 o2 dn2 =>
      ⟨Y.cl, M2, S2, d, e, _, dn1.mono p2, dn2, o2, q2, fun z w M3 H3 q3 p3 o3 dn3 => k z S2 w M3 H3 q3 ((p1.trans p2).trans p3) o3 dn3⟩⟩⟩⟩
end
end DL

set_option Elab.async false
set_option linter.all false
set_option maxRecDepth 100000
set_option maxHeartbeats 1000000
namespace DL
open PySem PySem.Spec PyProof.Rows L2

/-! ### new objects -/
section
variable {K : KC} {M M' : Addr → Prop} {H H' : Hp} {S S' : Store} {p a : Addr} {o : HO}
theorem Imm.alloc (hp : H p = none) (hm : ¬ M p) : Imm M H M (upd H p o) := fun a u h e => ⟨h, by rw [upd_ne (ne_of_none e hp)]; exact e⟩
theorem StOk.free (st : StOk K M H S) (hp : H p = none) : ¬ M p := fun m => by obtain ⟨o, e⟩ := st.has p m; rw [hp] at e; cases e
theorem StOk.freeS (st : StOk K M H S) (hp : H p = none) : S p = none := by
  cases e : S p with
  | none => rfl
  | some c => exact absurd (st.cell p c e).1 (st.free hp)
theorem CellOk.mono {c : Cell} (i : Imm M H M' H') (e : H' a = H a) (h : CellOk K M H a c) : CellOk K M' H' a c := by
  cases c with
  | lst l => obtain ⟨vs, h1, h2⟩ := h; exact ⟨vs, e.trans h1, DenL.mono i _ _ h2⟩
  | ins C fs => obtain ⟨dx, vs, h1, h2⟩ := h; exact ⟨dx, vs, e.trans h1, DenF.mono i _ _ h2⟩
  | gen => obtain ⟨ns, h1, h2⟩ := h; exact ⟨ns, e.trans h1, h2⟩
  | dik kvs => obtain ⟨vs, h1, h2⟩ := h; exact ⟨vs, e.trans h1, DenK.mono i _ _ h2⟩
  | dit kvs => obtain ⟨vs, h1, h2⟩ := h; exact ⟨vs, e.trans h1, DenT.mono i _ _ h2⟩
theorem StOk.alloc (st : StOk K M H S) (hp : H p = none) : StOk K M (upd H p o) S where
  cell := fun a c e => by
    obtain ⟨m, h⟩ := st.cell a c e
    have hm := st.free hp
    exact ⟨m, h.mono (Imm.alloc hp hm) (upd_ne fun z => hm (z ▸ m))⟩
  has := fun a m => by
    obtain ⟨u, e⟩ := st.has a m
    exact ⟨u, by rw [upd_ne (ne_of_none e hp)]; exact e⟩
theorem Stp.alloc (st : StOk K M H S) (hp : H p = none) : Stp M H S M (upd H p o) S where
  imm := Imm.alloc hp (st.free hp)
  fr := fun a m e => ⟨m, upd_ne fun z => st.free hp (z ▸ m), e⟩
  there := fun a u e => ⟨u, by rw [upd_ne (ne_of_none e hp)]; exact e⟩
end
theorem den_ints {K : KC} {M : Addr → Prop} {H : Hp} : ∀ (ns : List Int), DenL K M H (ns.map D.int) (ns.map V.int)
  | [] => by simp [DenL]
  | n :: ns => by simp only [List.map_cons, DenL, Den]; exact ⟨trivial, den_ints ns⟩
theorem ints_den {K : KC} {M : Addr → Prop} {H : Hp} : ∀ (ns : List Int) (vs : List V), DenL K M H (ns.map D.int) vs → vs = ns.map V.int
  | [], [], _ => rfl
  | n :: ns, v :: vs, h => by
    simp only [List.map_cons, DenL, Den] at h
    rw [h.1, ints_den ns vs h.2, List.map_cons]
  | [], _ :: _, h => by simp [DenL] at h
  | _ :: _, [], h => by simp [DenL] at h

/-! ### what stands at a list or a tuple that is read -/
theorem DenB.lst {K : KC} {M : Addr → Prop} {H : Hp} {S : Store} {l : List D} {v : V} (h : DenB K M H S (.lst l) v) : ∃ a vs, v = .ref a ∧ H a = some (.lst vs) ∧ DenL K M H l vs := by
  rcases h with h | ⟨l', p, vs, e, e2, _, _, h1, h5⟩
  · simp only [Den] at h
    obtain ⟨a, vs, e, h1, _, h3⟩ := h
    exact ⟨a, vs, e, h1, h3⟩
  · cases e; exact ⟨p, vs, e2, h1, h5⟩
theorem DenB.den {K : KC} {M : Addr → Prop} {H : Hp} {S : Store} {d : D} {v : V} (h : DenB K M H S d v) (n : ∀ l, d ≠ .lst l) : Den K M H d v := by
  rcases h with h | ⟨l', p, vs, e, _⟩
  · exact h
  · exact absurd e (n l')
theorem Den.tup {K : KC} {M : Addr → Prop} {H : Hp} {l : List D} {v : V} (h : Den K M H (.tup l) v) : ∃ a vs, v = .ref a ∧ SqT K.K H a vs ∧ DenL K M H l vs := by
  simp only [Den] at h
  obtain ⟨a, vs, e, h1, h3⟩ := h
  rcases h1 with ⟨h1, _⟩ | h1
  · exact ⟨a, vs, e, .inl (.inl h1), h3⟩
  · exact ⟨a, vs, e, h1 H, h3⟩
theorem Den.fz {K : KC} {M : Addr → Prop} {H : Hp} {l : List D} {v : V} (h : Den K M H (.fz l) v) : ∃ a vs, v = .ref a ∧ SqL K.K H a vs ∧ DenL K M H l vs := by
  simp only [Den] at h
  obtain ⟨a, vs, e, h1, h3⟩ := h
  rcases h1 with ⟨⟨o, h1⟩, _⟩ | h1
  · exact ⟨a, vs, e, .inl (.inr ⟨o, h1⟩), h3⟩
  · exact ⟨a, vs, e, h1 H, h3⟩
/-- the items of a list, a tuple, the script, a list in the store -/
def seqOf (S : Store) : D → Option (List D)
  | .lst l => some l
  | .fz l => some l
  | .tup l => some l
  | .obj a => match S a with
    | some (.lst l) => some l
    | _ => none
  | _ => none
theorem seq_of {K : KC} {M : Addr → Prop} {H : Hp} {S : Store} {d : D} {l : List D} {v : V} (st : StOk K M H S) (h : DenB K M H S d v) (e : seqOf S d = some l) : ∃ a vs, v = .ref a ∧ (SqL K.K H a vs ∨ SqT K.K H a vs) ∧ DenL K M H l vs := by
  cases d with
  | lst l' =>
    cases e
    obtain ⟨a, vs, e, h1, h3⟩ := h.lst
    exact ⟨a, vs, e, .inl (SqL.of h1), h3⟩
  | fz l' =>
    cases e
    obtain ⟨a, vs, e, h1, h3⟩ := (h.den (fun l => by intro z; cases z)).fz
    exact ⟨a, vs, e, .inl h1, h3⟩
  | tup l' =>
    cases e
    obtain ⟨a, vs, e, h1, h3⟩ := (h.den (fun l => by intro z; cases z)).tup
    exact ⟨a, vs, e, .inr h1, h3⟩
  | obj a =>
    have hd := h.den (fun l => by intro z; cases z)
    simp only [Den] at hd
    simp only [seqOf] at e
    cases hs : S a with
    | none => rw [hs] at e; cases e
    | some c =>
      rw [hs] at e
      cases c with
      | lst l' =>
        cases e
        obtain ⟨_, vs, h1, h2⟩ := st.cell a _ hs
        exact ⟨a, vs, hd, .inl (SqL.of h1), h2⟩
      | _ => cases e
  | _ => cases e
/-- .. of a list that stands in H by itself -/
def lstOf (S : Store) : D → Option (List D)
  | .lst l => some l
  | .obj a => match S a with
    | some (.lst l) => some l
    | _ => none
  | _ => none
theorem lst_of {K : KC} {M : Addr → Prop} {H : Hp} {S : Store} {d : D} {l : List D} {v : V} (st : StOk K M H S) (h : DenB K M H S d v) (e : lstOf S d = some l) : ∃ a vs, v = .ref a ∧ H a = some (.lst vs) ∧ DenL K M H l vs := by
  cases d with
  | lst l' => cases e; exact h.lst
  | obj a =>
    have hd := h.den (fun l => by intro z; cases z)
    simp only [Den] at hd
    simp only [lstOf] at e
    cases hs : S a with
    | none => rw [hs] at e; cases e
    | some c =>
      rw [hs] at e
      cases c with
      | lst l' =>
        cases e
        obtain ⟨_, vs, h1, h2⟩ := st.cell a _ hs
        exact ⟨a, vs, hd, h1, h2⟩
      | _ => cases e
  | _ => cases e

/-! ### operators -/
section
variable {X : Cx} {Y : En} {W : WX}
theorem opd {f : Value → Value → Sem Value} {r : R2} {o : D → D → Store → (D → Prop) → Prop} (h : OpR X f r)
    (i : ∀ cl x y H Q M S d e Qd, DenB ⟨X.K, cl⟩ M H S d x → DenB ⟨X.K, cl⟩ M H S e y → StOk ⟨X.K, cl⟩ M H S → o d e S Qd → (∀ z v M' H', Qd z → Stp M H S M' H' S → StOk ⟨X.K, cl⟩ M' H' S → Den ⟨X.K, cl⟩ M' H' z v → Q v H') → r x y H Q) : OpD X f o := by
  intro pins s σ H x y v u Q I r1 r2 ⟨cl, M, S, d, e, Qd, h1, h2, st, q, k⟩
  exact h pins s σ H x y v u Q I r1 r2 (i cl x y H Q M S d e Qd h1 h2 st q k)
theorem OpD.or {f : Value → Value → Sem Value} {o o' : D → D → Store → (D → Prop) → Prop} (h : OpD X f o) (h' : OpD X f o') : OpD X f (fun d e S Q => o d e S Q ∨ o' d e S Q) := by
  intro pins s σ H x y v u Q I r1 r2 ⟨cl, M, S, d, e, Qd, h1, h2, st, q, k⟩
  rcases q with q | q
  · exact h pins s σ H x y v u Q I r1 r2 ⟨cl, M, S, d, e, Qd, h1, h2, st, q, k⟩
  · exact h' pins s σ H x y v u Q I r1 r2 ⟨cl, M, S, d, e, Qd, h1, h2, st, q, k⟩
/-- two ints -/
def oII (C : Int → Int → Prop) (g : Int → Int → D) : D → D → Store → (D → Prop) → Prop := fun d e _ Q => match d, e with
  | .int i, .int j => C i j ∧ Q (g i j)
  | _, _ => False
theorem oII_v {C : Int → Int → Prop} {g : Int → Int → D} {gv : Int → Int → V} {f : Value → Value → Sem Value} (h : OpR X f (rI C gv)) (hg : ∀ i j K M H, Den K M H (g i j) (gv i j)) : OpD X f (oII C g) := by
  refine opd h fun cl x y H Q M S d e Qd h1 h2 st q k => ?_
  cases d <;> cases e <;> simp only [oII] at q
  rename_i i j
  have e1 := h1.den (fun l => by intro z; cases z)
  have e2 := h2.den (fun l => by intro z; cases z)
  simp only [Den] at e1 e2
  exact ⟨i, j, e1, e2, q.1, k _ _ M H q.2 Stp.refl st (hg _ _ _ _ _)⟩
theorem opI0_I {f : Value → Value → Sem Value} {g : Int → Int → V} (h : OpR X f (rI0 g)) : OpR X f (rI (fun _ _ => True) g) := by
  intro pins s σ H x y v u Q I r1 r2 ⟨i, j, e1, e2, _, q⟩
  exact h pins s σ H x y v u Q I r1 r2 ⟨i, j, e1, e2, q⟩
def T2 : Int → Int → Prop := fun _ _ => True
theorem dI (i j : Int) (g : Int → Int → Int) (K : KC) (M : Addr → Prop) (H : Hp) : Den K M H (.int (g i j)) (.int (g i j)) := by simp [Den]
theorem o_addI : OpD X (binaryOp .Add) (oII T2 fun i j => .int (i + j)) := oII_v (opI0_I op_add) fun _ _ _ _ _ => by simp [Den]
theorem o_subI : OpD X (binaryOp .Sub) (oII T2 fun i j => .int (i - j)) := oII_v (opI0_I op_sub) fun _ _ _ _ _ => by simp [Den]
theorem o_mulI : OpD X (binaryOp .Mult) (oII CMul fun i j => .int (i * j)) := oII_v op_mul fun _ _ _ _ _ => by simp [Den]
theorem o_fdiv : OpD X (binaryOp .FloorDiv) (oII CDiv fun i j => .int (i / j)) := oII_v op_fdiv fun _ _ _ _ _ => by simp [Den]
theorem o_mod : OpD X (binaryOp .Mod) (oII (fun _ j => 0 < j) fun i j => .int (i % j)) := oII_v op_mod fun _ _ _ _ _ => by simp [Den]
theorem o_pow : OpD X (binaryOp .Pow) (oII CPow fun i j => .int (i ^ j.toNat)) := oII_v op_pow fun _ _ _ _ _ => by simp [Den]
theorem o_and : OpD X (binaryOp .BitAnd) (oII T2 fun i j => .int (Builtin.bitAnd i j)) := oII_v (opI0_I op_and) fun _ _ _ _ _ => by simp [Den]
theorem o_lt : OpD X (compareOp .Lt) (oII T2 fun i j => .bl (decide (i < j))) := oII_v (opI0_I op_lt) fun _ _ _ _ _ => by simp [Den]
theorem o_le : OpD X (compareOp .LtE) (oII T2 fun i j => .bl (decide (i ≤ j))) := oII_v (opI0_I op_le) fun _ _ _ _ _ => by simp [Den]
theorem o_gt : OpD X (compareOp .Gt) (oII T2 fun i j => .bl (decide (j < i))) := oII_v (opI0_I op_gt) fun _ _ _ _ _ => by simp [Den]
theorem o_ge : OpD X (compareOp .GtE) (oII T2 fun i j => .bl (decide (j ≤ i))) := oII_v (opI0_I op_ge) fun _ _ _ _ _ => by simp [Den]
/-- lists together -/
def oCatL : D → D → Store → (D → Prop) → Prop := fun d e S Q => ∃ a b, lstOf S d = some a ∧ lstOf S e = some b ∧ a.length + b.length ≤ sizeLine ∧ Q (.lst (a ++ b))
theorem den_new {K : KC} {M : Addr → Prop} {H : Hp} {S : Store} {p : Addr} {l : List D} {vs : List V} (st : StOk K M H S) (hp : H p = none) (h : DenL K M H l vs) : Den K M (upd H p (.lst vs)) (.lst l) (.ref p) := by
  simp only [Den]
  exact ⟨p, vs, rfl, upd_same, st.free hp, DenL.mono (Imm.alloc hp (st.free hp)) _ _ h⟩
theorem den_newT {K : KC} {M : Addr → Prop} {H : Hp} {S : Store} {p : Addr} {l : List D} {vs : List V} (st : StOk K M H S) (hp : H p = none) (h : DenL K M H l vs) : Den K M (upd H p (.tup vs)) (.tup l) (.ref p) := by
  simp only [Den]
  exact ⟨p, vs, rfl, .inl ⟨upd_same, st.free hp⟩, DenL.mono (Imm.alloc hp (st.free hp)) _ _ h⟩
theorem o_catL : OpD X (binaryOp .Add) oCatL := opd op_cat fun cl x y H Q M S d e Qd h1 h2 st ⟨a, b, e1, e2, hl, q⟩ k => by
  obtain ⟨p1, vs, rfl, g1, d1⟩ := lst_of st h1 e1
  obtain ⟨p2, ws, rfl, g2, d2⟩ := lst_of st h2 e2
  exact ⟨p1, p2, vs, ws, rfl, rfl, g1, g2, by rw [← d1.length, ← d2.length]; exact hl, fun p hp => k _ _ M _ q (Stp.alloc st hp) (st.alloc hp) (den_new st hp (d1.append d2))⟩
def oCatT : D → D → Store → (D → Prop) → Prop := fun d e _ Q => match d, e with
  | .tup a, .tup b => a ≠ [] ∧ b ≠ [] ∧ a.length + b.length ≤ sizeLine ∧ Q (.tup (a ++ b))
  | _, _ => False
theorem o_catT : OpD X (binaryOp .Add) oCatT := opd op_catT fun cl x y H Q M S d e Qd h1 h2 st q k => by
  cases d <;> cases e <;> simp only [oCatT] at q
  rename_i a b
  obtain ⟨p1, vs, rfl, g1, d1⟩ := (h1.den (fun l => by intro z; cases z)).tup
  obtain ⟨p2, ws, rfl, g2, d2⟩ := (h2.den (fun l => by intro z; cases z)).tup
  have n1 : vs ≠ [] := fun z => q.1 (List.eq_nil_of_length_eq_zero (by rw [d1.length, z]; rfl))
  have n2 : ws ≠ [] := fun z => q.2.1 (List.eq_nil_of_length_eq_zero (by rw [d2.length, z]; rfl))
  refine ⟨p1, p2, vs, ws, rfl, rfl, g1, g2, n1, by rw [← d1.length, ← d2.length]; exact q.2.2.1, ?_⟩
  have fin : ∀ p, H p = none → Q (.ref p) (upd H p (.tup (vs ++ ws))) := fun p hp => k _ _ M _ q.2.2.2 (Stp.alloc st hp) (st.alloc hp) (den_newT st hp (d1.append d2))
  first
    | exact ⟨fun z => absurd z n2, fun _ => fin⟩
    | (rw [if_neg n2]; exact fin)
    | (split <;> first | contradiction | exact fin)
def oCatS : D → D → Store → (D → Prop) → Prop := fun d e _ Q => match d, e with
  | .str a, .str b => a.length + b.length ≤ sizeLine ∧ Q (.str (a ++ b))
  | _, _ => False
theorem o_catS : OpD X (binaryOp .Add) oCatS := opd op_add_str fun cl x y H Q M S d e Qd h1 h2 st q k => by
  cases d <;> cases e <;> simp only [oCatS] at q
  have e1 := h1.den (fun l => by intro z; cases z)
  have e2 := h2.den (fun l => by intro z; cases z)
  simp only [Den] at e1 e2
  exact ⟨_, _, e1, e2, q.1, k _ _ M H q.2 Stp.refl st (by simp [Den])⟩
/-- a list so many times -/
def oRep : D → D → Store → (D → Prop) → Prop := fun d e S Q => ∃ a k, lstOf S d = some a ∧ e = .int k ∧ -(2 ^ 63) ≤ k ∧ k < 2 ^ 63 ∧ a.length * k.toNat ≤ sizeLine ∧ Q (.lst (List.replicate k.toNat a).flatten)
theorem DenL.rep {K : KC} {M : Addr → Prop} {H : Hp} {l : List D} {vs : List V} (h : DenL K M H l vs) : ∀ n : Nat, DenL K M H (List.replicate n l).flatten (List.replicate n vs).flatten
  | 0 => by simp [DenL]
  | n + 1 => by
    rw [List.replicate_succ, List.replicate_succ, List.flatten_cons, List.flatten_cons]
    exact h.append (h.rep n)
end
end DL

set_option Elab.async false
set_option linter.all false
set_option maxRecDepth 100000
set_option maxHeartbeats 1000000
namespace DL
open PySem PySem.Spec PyProof.Rows L2

/-! ### equality of data -/
mutual
def D.py : D → PyData
  | .non => .none
  | .bl b => .bool b
  | .int i => .int i
  | .str x => .str x
  | .lst l => .list (D.pyL l)
  | .fz l => .list (D.pyL l)
  | .tup l => .tuple (D.pyL l)
  | _ => .dict []
def D.pyL : List D → List PyData
  | [] => []
  | d :: ds => D.py d :: D.pyL ds
end
mutual
def D.okd : D → Bool
  | .non | .bl _ | .int _ => true
  | .str x => PyData.strOk x
  | .lst l | .fz l | .tup l => D.okdL l
  | _ => false
def D.okdL : List D → Bool
  | [] => true
  | d :: ds => D.okd d && D.okdL ds
end
section
variable {K : KC} {M : Addr → Prop} {H : Hp}
mutual
theorem dp_of : ∀ (d : D) (v : V), D.okd d = true → Den K M H d v → Dp K.K H v (D.py d)
  | .non, v, _, h => by simp only [Den] at h; subst h; simp only [D.py]; exact .non
  | .bl b, v, _, h => by simp only [Den] at h; subst h; simp only [D.py]; exact .bl b
  | .int i, v, _, h => by simp only [Den] at h; subst h; simp only [D.py]; exact .int i
  | .str x, v, _, h => by simp only [Den] at h; subst h; simp only [D.py]; exact .str x
  | .lst l, v, o, h => by
    simp only [Den] at h
    obtain ⟨a, vs, rfl, h1, _, h3⟩ := h
    simp only [D.py]
    exact .lst (SqL.of h1) (dpl_of l vs (by simpa [D.okd] using o) h3)
  | .fz l, v, o, h => by
    obtain ⟨a, vs, rfl, h1, h3⟩ := h.fz
    simp only [D.py]
    exact .lst h1 (dpl_of l vs (by simpa [D.okd] using o) h3)
  | .tup l, v, o, h => by
    obtain ⟨a, vs, rfl, h1, h3⟩ := h.tup
    simp only [D.py]
    exact .tup h1 (dpl_of l vs (by simpa [D.okd] using o) h3)
  | .ins .., _, o, _ => by simp [D.okd] at o
  | .dik .., _, o, _ => by simp [D.okd] at o
  | .dit .., _, o, _ => by simp [D.okd] at o
  | .obj .., _, o, _ => by simp [D.okd] at o
theorem dpl_of : ∀ (ds : List D) (vs : List V), D.okdL ds = true → DenL K M H ds vs → DpAll K.K H vs (D.pyL ds)
  | [], [], _, _ => .nil
  | d :: ds, v :: vs, o, h => by
    simp only [DenL] at h
    simp only [D.okdL, Bool.and_eq_true] at o
    simp only [D.pyL]
    exact .cons (dp_of d v o.1 h.1) (dpl_of ds vs o.2 h.2)
  | [], _ :: _, _, h => by simp [DenL] at h
  | _ :: _, [], _, h => by simp [DenL] at h
end
end
/-- depth at most n, all of data -/
def shd : Nat → D → Bool
  | _, .non => true
  | _, .bl _ => true
  | _, .int _ => true
  | _, .str x => PyData.strOk x
  | n + 1, .lst l => l.all (shd n)
  | n + 1, .fz l => l.all (shd n)
  | n + 1, .tup l => l.all (shd n)
  | _, _ => false
theorem okdL_all : ∀ l : List D, D.okdL l = l.all D.okd
  | [] => rfl
  | d :: ds => by simp [D.okdL, okdL_all ds]
theorem pyL_map : ∀ l : List D, D.pyL l = l.map D.py
  | [] => rfl
  | d :: ds => by simp [D.pyL, pyL_map ds]
theorem okd_shd : ∀ (n : Nat) (d : D), shd n d = true → D.okd d = true := by
  intro n
  induction n with
  | zero => intro d h; cases d <;> simp [shd, D.okd] at h ⊢ <;> exact h
  | succ n ih =>
    intro d h
    cases d <;> simp only [shd, D.okd, okdL_all] at h ⊢ <;> first | exact h | exact List.all_eq_true.mpr fun x hx => ih x (List.all_eq_true.mp h x hx) | cases h
theorem canLayAll0_map (l : List D) : (∀ x ∈ l, (D.py x).canLay0 = true) → PyData.canLayAll0 (l.map D.py) = true := by
  induction l with
  | nil => intro _; rfl
  | cons d ds ih =>
    intro h
    simp only [List.map_cons, PyData.canLayAll0, Bool.and_eq_true]
    exact ⟨h d List.mem_cons_self, ih fun x hx => h x (List.mem_cons_of_mem _ hx)⟩
theorem depthAll_map (n : Nat) (l : List D) : (∀ x ∈ l, (D.py x).depth ≤ n) → PyData.depthAll (l.map D.py) ≤ n := by
  induction l with
  | nil => intro _; simp [PyData.depthAll]
  | cons d ds ih =>
    intro h
    simp only [List.map_cons, PyData.depthAll]
    exact Nat.max_le.mpr ⟨h d List.mem_cons_self, ih fun x hx => h x (List.mem_cons_of_mem _ hx)⟩
theorem lay_shd : ∀ (n : Nat) (d : D), shd n d = true → (D.py d).canLay0 = true ∧ (D.py d).depth ≤ n := by
  intro n
  induction n with
  | zero => intro d h; cases d <;> simp [shd, D.py, PyData.canLay0, PyData.depth] at h ⊢ <;> exact h
  | succ n ih =>
    intro d h
    have sub : ∀ l : List D, l.all (shd n) = true → (∀ x ∈ l, (D.py x).canLay0 = true) ∧ ∀ x ∈ l, (D.py x).depth ≤ n := fun l hl => ⟨fun x hx => (ih x (List.all_eq_true.mp hl x hx)).1, fun x hx => (ih x (List.all_eq_true.mp hl x hx)).2⟩
    cases d with
    | lst l =>
      simp only [shd] at h
      obtain ⟨h1, h2⟩ := sub l h
      simp only [D.py, PyData.canLay0, PyData.depth, pyL_map]
      have := depthAll_map n l h2
      exact ⟨canLayAll0_map l h1, by omega⟩
    | fz l =>
      simp only [shd] at h
      obtain ⟨h1, h2⟩ := sub l h
      simp only [D.py, PyData.canLay0, PyData.depth, pyL_map]
      have := depthAll_map n l h2
      exact ⟨canLayAll0_map l h1, by omega⟩
    | tup l =>
      simp only [shd] at h
      obtain ⟨h1, h2⟩ := sub l h
      simp only [D.py, PyData.canLay0, PyData.depth, pyL_map]
      have := depthAll_map n l h2
      exact ⟨canLayAll0_map l h1, by omega⟩
    | str x => simp only [shd] at h; simp [D.py, PyData.canLay0, PyData.depth, h]
    | non => simp [D.py, PyData.canLay0, PyData.depth]
    | bl _ => simp [D.py, PyData.canLay0, PyData.depth]
    | int _ => simp [D.py, PyData.canLay0, PyData.depth]
    | _ => simp [shd] at h
theorem shaped_shd {n : Nat} {d : D} (h : shd n d = true) (hn : n ≤ 64) : SeqAt.shaped (D.py d) = true := by
  obtain ⟨h1, h2⟩ := lay_shd n d h
  unfold SeqAt.shaped
  rw [h1]
  simp only [Bool.true_and, decide_eq_true_eq]
  omega
/-- == of data -/
def D.eqd (d e : D) : Bool := PyData.eqv (D.py d) (D.py e)
section
variable {X : Cx} {Y : En} {W : WX}
theorem DenB.dp {K : KC} {M : Addr → Prop} {H : Hp} {S : Store} {d : D} {v : V} (o : D.okd d = true) (h : DenB K M H S d v) : Dp K.K H v (D.py d) := by
  rcases h with h | ⟨l, p, vs, rfl, rfl, _, _, h1, h5⟩
  · exact dp_of d v o h
  · simp only [D.py]
    exact .lst (SqL.of h1) (dpl_of l vs (by simpa [D.okd] using o) h5)
def oEq : D → D → Store → (D → Prop) → Prop := fun d e _ Q => shd 8 d = true ∧ shd 8 e = true ∧ Q (.bl (d.eqd e))
def oNe : D → D → Store → (D → Prop) → Prop := fun d e _ Q => shd 8 d = true ∧ shd 8 e = true ∧ Q (.bl (!d.eqd e))
theorem o_eq (hu : X.A.units + 64 < cLine) : OpD X (compareOp .Eq) oEq := opd (op_eqD hu) fun cl x y H Q M S d e Qd h1 h2 st ⟨s1, s2, q⟩ k =>
  ⟨_, _, h1.dp (okd_shd 8 d s1), h2.dp (okd_shd 8 e s2), shaped_shd s1 (by decide), shaped_shd s2 (by decide), k _ _ M H q Stp.refl st (by simp [Den, D.eqd])⟩
theorem o_ne (hu : X.A.units + 64 < cLine) : OpD X (compareOp .NotEq) oNe := opd (op_neD hu) fun cl x y H Q M S d e Qd h1 h2 st ⟨s1, s2, q⟩ k =>
  ⟨_, _, h1.dp (okd_shd 8 d s1), h2.dp (okd_shd 8 e s2), shaped_shd s1 (by decide), shaped_shd s2 (by decide), k _ _ M H q Stp.refl st (by simp [Den, D.eqd])⟩
def D.isN : D → Bool
  | .non => true
  | _ => false
theorem isN_v {K : KC} {M : Addr → Prop} {H : Hp} {S : Store} {d : D} {v : V} (h : DenB K M H S d v) : decide (v = .non) = d.isN := by
  have ref : ∀ {a : Addr}, v = .ref a → decide (v = .non) = false := fun e => decide_eq_false (by rw [e]; intro z; cases z)
  rcases h with h | ⟨l, p, vs, rfl, e, _⟩
  · cases d <;> simp only [Den] at h <;> simp only [D.isN]
    · exact decide_eq_true h
    · exact decide_eq_false (by rw [h]; intro z; cases z)
    · exact decide_eq_false (by rw [h]; intro z; cases z)
    · exact decide_eq_false (by rw [h]; intro z; cases z)
    · obtain ⟨a, _, e, _⟩ := h; exact ref e
    · obtain ⟨a, _, e, _⟩ := h; exact ref e
    · obtain ⟨a, _, e, _⟩ := h; exact ref e
    · obtain ⟨a, _, _, e, _⟩ := h; exact ref e
    · obtain ⟨a, _, e, _⟩ := h; exact ref e
    · obtain ⟨a, _, e, _⟩ := h; exact ref e
    · exact ref h
  · exact ref e
def oIs : D → D → Store → (D → Prop) → Prop := fun d e _ Q => e = .non ∧ Q (.bl d.isN)
def oIsNot : D → D → Store → (D → Prop) → Prop := fun d e _ Q => e = .non ∧ Q (.bl (!d.isN))
theorem o_is : OpD X (compareOp .Is) oIs := opd op_isN fun cl x y H Q M S d e Qd h1 h2 st ⟨s1, q⟩ k => by
  subst s1
  have e2 := h2.den (fun l => by intro z; cases z)
  simp only [Den] at e2
  exact ⟨e2, k _ _ M H q Stp.refl st (by rw [isN_v h1]; simp [Den])⟩
theorem o_isnot : OpD X (compareOp .IsNot) oIsNot := opd op_notN fun cl x y H Q M S d e Qd h1 h2 st ⟨s1, q⟩ k => by
  subst s1
  have e2 := h2.den (fun l => by intro z; cases z)
  simp only [Den] at e2
  exact ⟨e2, k _ _ M H q Stp.refl st (by rw [isN_v h1]; simp [Den])⟩

/-! ### flat values, in -/
def D.flat : D → Bool
  | .non | .bl _ | .int _ | .str _ => true
  | _ => false
def D.eqf : D → D → Bool
  | .non, .non => true
  | .bl a, .bl b => a == b
  | .bl a, .int b => (if a then 1 else 0) == b
  | .int a, .bl b => a == (if b then 1 else 0)
  | .int a, .int b => a == b
  | .str a, .str b => a == b
  | _, _ => false
def D.fv : D → V
  | .bl b => .bl b
  | .int i => .int i
  | .str x => .str x
  | _ => .non
theorem fv_den {K : KC} {M : Addr → Prop} {H : Hp} {d : D} {v : V} (f : d.flat = true) (h : Den K M H d v) : v = d.fv := by
  cases d <;> simp only [D.flat] at f <;> first | (simp only [Den] at h; simp only [D.fv]; exact h) | cases f
theorem fv_flat {d : D} (f : d.flat = true) : flatV d.fv = true := by cases d <;> first | rfl | cases f
theorem fv_eq {d e : D} (f : d.flat = true) (g : e.flat = true) : eqV d.fv e.fv = d.eqf e := by
  cases d <;> cases f <;> cases e <;> cases g <;> rfl
theorem fv_denL {K : KC} {M : Addr → Prop} {H : Hp} : ∀ {l : List D} {vs : List V}, l.all D.flat = true → DenL K M H l vs → vs = l.map D.fv
  | [], [], _, _ => rfl
  | d :: l, v :: vs, f, h => by
    simp only [DenL] at h
    simp only [List.all_cons, Bool.and_eq_true] at f
    rw [fv_den f.1 h.1, fv_denL f.2 h.2]; rfl
  | [], _ :: _, _, h => by simp [DenL] at h
  | _ :: _, [], _, h => by simp [DenL] at h
theorem fv_flatL {l : List D} (f : l.all D.flat = true) : (l.map D.fv).all flatV = true := by
  rw [List.all_map]
  exact List.all_eq_true.mpr fun x hx => fv_flat (List.all_eq_true.mp f x hx)
def D.inl (x : D) (l : List D) : Bool := l.any fun y => D.eqf y x
theorem fv_in {d : D} {l : List D} (f : d.flat = true) (g : l.all D.flat = true) : inV d.fv (l.map D.fv) = d.inl l := by
  unfold inV D.inl
  rw [List.any_map]
  induction l with
  | nil => rfl
  | cons x l ih =>
    simp only [List.all_cons, Bool.and_eq_true] at g
    simp only [List.any_cons, Function.comp]
    rw [fv_eq g.1 f]
    congr 1
    exact ih g.2
def oIn (neg : Bool) : D → D → Store → (D → Prop) → Prop := fun d e S Q => ∃ l, seqOf S e = some l ∧ d.flat = true ∧ l.all D.flat = true ∧ Q (.bl (if neg then !d.inl l else d.inl l))
theorem o_inAny {neg : Bool} {f : Value → Value → Sem Value} (h : OpR X f (rIn X.K neg)) : OpD X f (oIn neg) := opd h fun cl x y H Q M S d e Qd h1 h2 st ⟨l, s1, f1, f2, q⟩ k => by
  obtain ⟨a, vs, rfl, sq, dn⟩ := seq_of st h2 s1
  have ev := fv_denL f2 dn
  subst ev
  have ex := fv_den f1 (h1.den (fun l => by intro z; rw [z] at f1; cases f1))
  subst ex
  refine ⟨a, _, rfl, sq, fv_flat f1, fv_flatL f2, ?_⟩
  rw [fv_in f1 f2]
  exact k _ _ M H q Stp.refl st (by simp [Den])
theorem o_in : OpD X (compareOp .In) (oIn false) := o_inAny op_in_seq
theorem o_notin : OpD X (compareOp .NotIn) (oIn true) := o_inAny op_notIn_seq

/-! ### chains of two comparisons -/
def mChain (o o' : D → D → Store → (D → Prop) → Prop) (ma mb mc : ME) : ME := fun env S Q R => ma env S (fun x S1 => mb env S1 (fun y S2 => o x y S2 fun z => ∃ k, z = .bl k ∧
  if k = true then mc env S2 (fun w S3 => o' y w S3 fun u => Q u S3) R else Q (.bl false) S2) R) R
theorem chain_i {o o' : D → D → Store → (D → Prop) → Prop} {ma mb mc : ME} {r r' : R2} {K : KC} (hr : r = fun x y H Q => ∃ cl M S d e Qd, DenB ⟨K.K, cl⟩ M H S d x ∧ DenB ⟨K.K, cl⟩ M H S e y ∧ StOk ⟨K.K, cl⟩ M H S ∧ o d e S Qd ∧ ∀ z v M' H', Qd z → Stp M H S M' H' S → StOk ⟨K.K, cl⟩ M' H' S → Den ⟨K.K, cl⟩ M' H' z v → Q v H')
    (hr' : r' = fun x y H Q => ∃ cl M S d e Qd, DenB ⟨K.K, cl⟩ M H S d x ∧ DenB ⟨K.K, cl⟩ M H S e y ∧ StOk ⟨K.K, cl⟩ M H S ∧ o' d e S Qd ∧ ∀ z v M' H', Qd z → Stp M H S M' H' S → StOk ⟨K.K, cl⟩ M' H' S → Den ⟨K.K, cl⟩ M' H' z v → Q v H') :
    ∀ σ H Q, tD K Y W (mChain o o' ma mb mc) σ H Q → tChain r r' (tDB K Y W ma) (tDB K Y W mb) (tDB K Y W mc) σ H Q := by
  subst hr hr'
  intro σ H Q ⟨M, env, S, Qd, Rd, r, q, rx, k⟩
  refine ⟨M, env, S, _, Rd, r, q, rx, fun d S1 v M1 H1 q1 p1 o1 dn1 => ⟨M1, env, S1, _, Rd, r.step p1 o1, q1, rx.step p1, fun e S2 u M2 H2 q2 p2 o2 dn2 => ?_⟩⟩
  refine ⟨K.cl, M2, S2, d, e, _, dn1.mono p2, dn2, o2, q2, fun z w M3 H3 ⟨kk, ez, q3⟩ p3 o3 dn3 => ?_⟩
  subst ez
  simp only [Den] at dn3
  refine ⟨kk, dn3, ?_⟩
  have p123 := (p1.trans p2).trans p3
  cases kk with
  | false =>
    simp only [Bool.false_eq_true, if_false] at q3 ⊢
    exact k _ _ _ M3 H3 q3 p123 o3 (by simp [Den])
  | true =>
    simp only [if_true] at q3 ⊢
    refine ⟨M3, env, S2, _, Rd, r.step p123 o3, q3, rx.step p123, fun f S4 u4 M4 H4 q4 p4 o4 dn4 => ?_⟩
    exact ⟨K.cl, M4, S4, e, f, _, (dn2.mono p3).mono p4, dn4, o4, q4, fun z w5 M5 H5 q5 p5 o5 dn5 => k z _ w5 M5 H5 q5 ((p123.trans p4).trans p5) o5 dn5⟩
theorem DChain {o o' : D → D → Store → (D → Prop) → Prop} {a b c : Expr} {ma mb mc : ME} {pos : Pos} {op op' : CmpOp} (ho : OpD X (compareOp op) o) (ho' : OpD X (compareOp op') o') (ha : DB X Y W a ma) (hb : DB X Y W b mb) (hc : DB X Y W c mc)
    (hm : lastMarks [op, op'] [b, c] = false := by with_unfolding_all rfl) : DE X Y W (.Compare a [op, op'] [b, c] pos) (mChain o o' ma mb mc) := ⟨weakE (pe_chain ho ho' ha.run hb.run hc.run hm) (chain_i rfl rfl)⟩
/-! ### tests -/
def mTst (m : ME) : MT := fun env S Q R => m env S (fun d S1 => ∃ k, d = .bl k ∧ Q k S1) R
theorem tst_i {m : ME} {K : KC} : ∀ σ H Q, tDT K Y W (mTst m) σ H Q → tTest (tD K Y W m) σ H Q := by
  intro σ H Q ⟨M, env, S, Qd, Rd, r, q, rx, k⟩
  refine ⟨M, env, S, _, Rd, r, q, rx, fun d S1 v M1 H1 ⟨kk, e, q1⟩ p1 o1 dn1 => ?_⟩
  subst e
  simp only [Den] at dn1
  exact ⟨kk, dn1, k kk S1 M1 H1 q1 p1 o1⟩
theorem TCmp {o : D → D → Store → (D → Prop) → Prop} {a b : Expr} {ma mb : ME} {pos : Pos} {op : CmpOp} (ho : OpD X (compareOp op) o) (ha : DB X Y W a ma) (hb : DB X Y W b mb) (hm : behindInMarks op b = false) : DT X Y W (.Compare a [op] [b] pos) (mTst (mOp o ma mb)) :=
  ⟨weakT (pt_cmpR ho ha.run hb.run hm) fun σ H Q h => by
    obtain ⟨M, env, S, Qd, Rd, r, q, rx, k⟩ := h
    refine ⟨M, env, S, _, Rd, r, q, rx, fun d S1 v M1 H1 q1 p1 o1 dn1 => ⟨M1, env, S1, _, Rd, r.step p1 o1, q1, rx.step p1, fun e S2 u M2 H2 q2 p2 o2 dn2 => ?_⟩⟩
    refine ⟨Y.cl, M2, S2, d, e, _, dn1.mono p2, dn2, o2, q2, fun z w M3 H3 ⟨kk, ez, q3⟩ p3 o3 dn3 => ?_⟩
    subst ez
    simp only [Den] at dn3
    exact ⟨kk, dn3, k kk S2 M3 H3 q3 ((p1.trans p2).trans p3) o3⟩⟩
theorem TChain {o o' : D → D → Store → (D → Prop) → Prop} {a b c : Expr} {ma mb mc : ME} {pos : Pos} {op op' : CmpOp} (ho : OpD X (compareOp op) o) (ho' : OpD X (compareOp op') o') (ha : DB X Y W a ma) (hb : DB X Y W b mb) (hc : DB X Y W c mc)
    (hm : lastMarks [op, op'] [b, c] = false := by with_unfolding_all rfl) : DT X Y W (.Compare a [op, op'] [b, c] pos) (mTst (mChain o o' ma mb mc)) := ⟨weakT (pt_chain ho ho' ha.run hb.run hc.run hm) fun σ H Q h => by
    obtain ⟨M, env, S, Qd, Rd, r, q, rx, k⟩ := h
    refine chain_i (Y := Y) (W := W) rfl rfl σ H _ ⟨M, env, S, _, Rd, r, q, rx, fun d S1 v M1 H1 ⟨kk, e, q1⟩ p1 o1 dn1 => ?_⟩
    subst e
    simp only [Den] at dn1
    exact ⟨kk, dn1, k kk S1 M1 H1 q1 p1 o1⟩⟩
/-- by truth -/
def D.tru (S : Store) : D → Option Bool
  | .non => some false
  | .bl b => some b
  | .int i => some (i != 0)
  | d => (seqOf S d).map fun l => !l.isEmpty
def mTru (m : ME) : MT := fun env S Q R => m env S (fun d S1 => ∃ k, d.tru S1 = some k ∧ Q k S1) R
theorem isEmpty_len {K : KC} {M : Addr → Prop} {H : Hp} {l : List D} {vs : List V} (h : DenL K M H l vs) : vs.isEmpty = l.isEmpty := by
  have e := h.length
  cases l <;> cases vs <;> first | rfl | (simp at e)
theorem TTru {a : Expr} {m : ME} (ha : DB X Y W a m) (he : ∀ whole, isTrue a X.env whole = (do let v ← whole; standAt a.pos; holding [v] (truthy v)) := by intro _; rfl) : DT X Y W a (mTru m) :=
  ⟨weakT (pt_truth ha.run he) fun σ H Q ⟨M, env, S, Qd, Rd, r, q, rx, k⟩ => ⟨M, env, S, _, Rd, r, q, rx, fun d S1 v M1 H1 ⟨kk, e, q1⟩ p1 o1 dn1 => by
    refine ⟨kk, ?_, k kk S1 M1 H1 q1 p1 o1⟩
    have sq : ∀ l, seqOf S1 d = some l → kk = !l.isEmpty → TruV X.K v H1 kk := fun l e1 e2 => by
      obtain ⟨a, vs, rfl, h, dn⟩ := seq_of o1 dn1 e1
      rw [e2, ← isEmpty_len dn]
      rcases h with h | h
      · exact .inl ⟨vs, h, rfl⟩
      · exact .inr (.inl ⟨vs, h, rfl⟩)
    have go : (seqOf S1 d).map (fun l => !l.isEmpty) = some kk → TruV X.K v H1 kk := fun z => by
      cases hs : seqOf S1 d with
      | none => rw [hs] at z; cases z
      | some l => rw [hs] at z; cases z; exact sq l hs rfl
    cases d with
    | non =>
      have h := dn1.den (fun l => by intro z; cases z)
      simp only [Den] at h; subst h; cases e; rfl
    | bl b =>
      have h := dn1.den (fun l => by intro z; cases z)
      simp only [Den] at h; subst h; cases e; rfl
    | int i =>
      have h := dn1.den (fun l => by intro z; cases z)
      simp only [Den] at h; subst h; cases e; rfl
    | str x => exact go e
    | lst l => exact go e
    | fz l => exact go e
    | tup l => exact go e
    | ins C fs => exact go e
    | dik kvs => exact go e
    | dit kvs => exact go e
    | obj a => exact go e⟩⟩
def mNot (m : MT) : MT := fun env S Q R => m env S (fun b S1 => Q (!b) S1) R
def mAnd (m n : MT) : MT := fun env S Q R => m env S (fun b S1 => if b = true then n env S1 Q R else Q false S1) R
def mOr (m n : MT) : MT := fun env S Q R => m env S (fun b S1 => if b = true then Q true S1 else n env S1 Q R) R
theorem TNot {a : Expr} {m : MT} {pos : Pos} (ha : DT X Y W a m) : DT X Y W (.UnaryOp .Not a pos) (mNot m) :=
  ⟨weakT (pt_not ha.run) fun σ H Q ⟨M, env, S, Qd, Rd, r, q, rx, k⟩ => ⟨M, env, S, _, Rd, r, q, rx, fun b S1 M1 H1 q1 p1 o1 => k _ S1 M1 H1 q1 p1 o1⟩⟩
theorem WAnd1 {a : Expr} {m : MT} {pos : Pos} (ha : DT X Y W a m) : DW X Y W (.BoolOp .And [a] pos) m := ⟨pw_and1 ha.run⟩
theorem WOr1 {a : Expr} {m : MT} {pos : Pos} (ha : DT X Y W a m) : DW X Y W (.BoolOp .Or [a] pos) m := ⟨pw_or1 ha.run⟩
theorem WAnd {a b : Expr} {rest : List Expr} {m n : MT} {pos : Pos} (ha : DT X Y W a m) (hb : DW X Y W (.BoolOp .And (b :: rest) pos) n) : DW X Y W (.BoolOp .And (a :: b :: rest) pos) (mAnd m n) :=
  ⟨weakW (pw_and ha.run hb.run) fun σ H Q ⟨M, env, S, Qd, Rd, r, q, rx, k⟩ => ⟨M, env, S, _, Rd, r, q, rx, fun b S1 M1 H1 q1 p1 o1 => by
    cases b with
    | true =>
      simp only [if_true] at q1 ⊢
      exact ⟨M1, env, S1, Qd, Rd, r.step p1 o1, q1, rx.step p1, fun c S2 M2 H2 q2 p2 o2 => k c S2 M2 H2 q2 (p1.trans p2) o2⟩
    | false =>
      simp only [Bool.false_eq_true, if_false] at q1 ⊢
      exact k _ S1 M1 H1 q1 p1 o1⟩⟩
theorem WOr {a b : Expr} {rest : List Expr} {m n : MT} {pos : Pos} (ha : DT X Y W a m) (hb : DW X Y W (.BoolOp .Or (b :: rest) pos) n) : DW X Y W (.BoolOp .Or (a :: b :: rest) pos) (mOr m n) :=
  ⟨weakW (pw_or ha.run hb.run) fun σ H Q ⟨M, env, S, Qd, Rd, r, q, rx, k⟩ => ⟨M, env, S, _, Rd, r, q, rx, fun b S1 M1 H1 q1 p1 o1 => by
    cases b with
    | false =>
      simp only [Bool.false_eq_true, if_false] at q1 ⊢
      exact ⟨M1, env, S1, Qd, Rd, r.step p1 o1, q1, rx.step p1, fun c S2 M2 H2 q2 p2 o2 => k c S2 M2 H2 q2 (p1.trans p2) o2⟩
    | true =>
      simp only [if_true] at q1 ⊢
      exact k _ S1 M1 H1 q1 p1 o1⟩⟩
theorem DW.t {a : Expr} {m : MT} (h : DW X Y W a m) : DT X Y W a m := ⟨h.run.pt⟩
/-! ### as values -/
def mAndV (m n : ME) : ME := fun env S Q R => m env S (fun d S1 => ∃ b, d = .bl b ∧ if b = true then n env S1 Q R else Q (.bl false) S1) R
def mOrV (m n : ME) : ME := fun env S Q R => m env S (fun d S1 => ∃ b, d = .bl b ∧ if b = true then Q (.bl true) S1 else n env S1 Q R) R
def mNotV (m : ME) : ME := fun env S Q R => m env S (fun d S1 => ∃ b, d = .bl b ∧ Q (.bl (!b)) S1) R
theorem DOne {op} {a : Expr} {m : ME} {pos : Pos} (h : DE X Y W a m) : DE X Y W (.BoolOp op [a] pos) m := ⟨pe_one h.run⟩
theorem DAnd {a b : Expr} {rest : List Expr} {m n : ME} {pos : Pos} (ha : DE X Y W a m) (hb : DE X Y W (.BoolOp .And (b :: rest) pos) n) : DE X Y W (.BoolOp .And (a :: b :: rest) pos) (mAndV m n) :=
  ⟨weakE (pe_and ha.run hb.run) fun σ H Q ⟨M, env, S, Qd, Rd, r, q, rx, k⟩ => ⟨M, env, S, _, Rd, r, q, rx, fun d S1 v M1 H1 ⟨b, e, q1⟩ p1 o1 dn1 => by
    subst e
    simp only [Den] at dn1
    refine ⟨b, dn1, ?_⟩
    cases b with
    | true =>
      simp only [if_true] at q1 ⊢
      exact ⟨M1, env, S1, Qd, Rd, r.step p1 o1, q1, rx.step p1, fun c S2 v2 M2 H2 q2 p2 o2 dn2 => k c S2 v2 M2 H2 q2 (p1.trans p2) o2 dn2⟩
    | false =>
      simp only [Bool.false_eq_true, if_false] at q1 ⊢
      exact k _ S1 _ M1 H1 q1 p1 o1 (by simp [Den])⟩⟩
theorem DOr {a b : Expr} {rest : List Expr} {m n : ME} {pos : Pos} (ha : DE X Y W a m) (hb : DE X Y W (.BoolOp .Or (b :: rest) pos) n) : DE X Y W (.BoolOp .Or (a :: b :: rest) pos) (mOrV m n) :=
  ⟨weakE (pe_or ha.run hb.run) fun σ H Q ⟨M, env, S, Qd, Rd, r, q, rx, k⟩ => ⟨M, env, S, _, Rd, r, q, rx, fun d S1 v M1 H1 ⟨b, e, q1⟩ p1 o1 dn1 => by
    subst e
    simp only [Den] at dn1
    refine ⟨b, dn1, ?_⟩
    cases b with
    | false =>
      simp only [Bool.false_eq_true, if_false] at q1 ⊢
      exact ⟨M1, env, S1, Qd, Rd, r.step p1 o1, q1, rx.step p1, fun c S2 v2 M2 H2 q2 p2 o2 dn2 => k c S2 v2 M2 H2 q2 (p1.trans p2) o2 dn2⟩
    | true =>
      simp only [if_true] at q1 ⊢
      exact k _ S1 _ M1 H1 q1 p1 o1 (by simp [Den])⟩⟩
theorem DNotV {a : Expr} {m : ME} {pos : Pos} (ha : DE X Y W a m) : DE X Y W (.UnaryOp .Not a pos) (mNotV m) :=
  ⟨weakE (pe_not ha.run) fun σ H Q ⟨M, env, S, Qd, Rd, r, q, rx, k⟩ => ⟨M, env, S, _, Rd, r, q, rx, fun d S1 v M1 H1 ⟨b, e, q1⟩ p1 o1 dn1 => by
    subst e
    simp only [Den] at dn1
    exact ⟨b, dn1, k _ S1 _ M1 H1 q1 p1 o1 (by simp [Den])⟩⟩⟩
def mIf (m : MT) (n1 n2 : ME) : ME := fun env S Q R => m env S (fun b S1 => if b = true then n1 env S1 Q R else n2 env S1 Q R) R
theorem DIf {c a b : Expr} {m : MT} {n1 n2 : ME} {pos : Pos} (hc : DT X Y W c m) (ha : DE X Y W a n1) (hb : DE X Y W b n2) : DE X Y W (.IfExp c a b pos) (mIf m n1 n2) :=
  ⟨weakE (pe_ifExp hc.run ha.run hb.run) fun σ H Q ⟨M, env, S, Qd, Rd, r, q, rx, k⟩ => ⟨M, env, S, _, Rd, r, q, rx, fun b S1 M1 H1 q1 p1 o1 => by
    cases b with
    | true =>
      simp only [if_true] at q1 ⊢
      exact ⟨M1, env, S1, Qd, Rd, r.step p1 o1, q1, rx.step p1, fun c S2 v2 M2 H2 q2 p2 o2 dn2 => k c S2 v2 M2 H2 q2 (p1.trans p2) o2 dn2⟩
    | false =>
      simp only [Bool.false_eq_true, if_false] at q1 ⊢
      exact ⟨M1, env, S1, Qd, Rd, r.step p1 o1, q1, rx.step p1, fun c S2 v2 M2 H2 q2 p2 o2 dn2 => k c S2 v2 M2 H2 q2 (p1.trans p2) o2 dn2⟩⟩⟩
def mNeg (m : ME) : ME := fun env S Q R => m env S (fun d S1 => ∃ i, d = .int i ∧ Q (.int (-i)) S1) R
theorem DNeg {a : Expr} {m : ME} {pos : Pos} (ha : DE X Y W a m) : DE X Y W (.UnaryOp .USub a pos) (mNeg m) :=
  ⟨weakE (pe_un un_neg ha.run) fun σ H Q ⟨M, env, S, Qd, Rd, r, q, rx, k⟩ => ⟨M, env, S, _, Rd, r, q, rx, fun d S1 v M1 H1 ⟨i, e, q1⟩ p1 o1 dn1 => by
    subst e
    simp only [Den] at dn1
    exact ⟨i, dn1, k _ S1 _ M1 H1 q1 p1 o1 (by simp [Den])⟩⟩⟩
end
end DL

set_option Elab.async false
set_option linter.all false
set_option maxRecDepth 100000
set_option maxHeartbeats 1000000
namespace DL
open PySem PySem.Spec PyProof.Rows L2
section
variable {X : Cx} {Y : En} {W : WX}
/-! ### fresh lists -/
def orP (M : Addr → Prop) (p : Addr) : Addr → Prop := fun a => M a ∨ a = p
def andN (M : Addr → Prop) (p : Addr) : Addr → Prop := fun a => M a ∧ a ≠ p
theorem fresh_fin {K : KC} {M : Addr → Prop} {H : Hp} {S : Store} {p : Addr} {l : List D} {vs : List V} (st : StOk K M H S) (hp : H p = none) (h : DenL K M H l vs) :
    Stp M H S (orP M p) (upd H p (.lst vs)) S ∧ StOk K (orP M p) (upd H p (.lst vs)) S ∧ S p = none ∧ DenL K (orP M p) (upd H p (.lst vs)) l vs := by
  have i : Imm M H (orP M p) (upd H p (.lst vs)) := fun a o nm e => by
    have hne : a ≠ p := ne_of_none e hp
    exact ⟨fun z => z.elim nm hne, by rw [upd_ne hne]; exact e⟩
  have hm := st.free hp
  have hs := st.freeS hp
  refine ⟨⟨i, fun a m e => ⟨.inl m, upd_ne fun z => hm (z ▸ m), e⟩, fun a u e => ⟨u, by rw [upd_ne (ne_of_none e hp)]; exact e⟩⟩, ⟨fun a c e => ?_, fun a m => ?_⟩, hs, DenL.mono i _ _ h⟩
  · obtain ⟨m, hc⟩ := st.cell a c e
    exact ⟨.inl m, hc.mono i (upd_ne fun z => hm (z ▸ m))⟩
  · rcases m with m | m
    · obtain ⟨u, e⟩ := st.has a m
      exact ⟨u, by rw [upd_ne (ne_of_none e hp)]; exact e⟩
    · exact ⟨_, by rw [m]; exact upd_same⟩
/-- a fresh list, kept as it is -/
theorem freeze_fin {K : KC} {M M' : Addr → Prop} {H H' : Hp} {S S' : Store} {p : Addr} {l : List D} {vs : List V} (st : StOk K M H S) (hp : H p = none) (pp : Stp M H S M' H' S') (oo : StOk K M' H' S') (e : H' p = some (.lst vs)) (hs : S' p = none) (dn : DenL K M' H' l vs) :
    Stp M H S (andN M' p) H' S' ∧ StOk K (andN M' p) H' S' ∧ Den K (andN M' p) H' (.lst l) (.ref p) := by
  have i2 : Imm M' H' (andN M' p) H' := fun a o nm e => ⟨fun z => nm z.1, e⟩
  have hne : ∀ a o, H a = some o → a ≠ p := fun a o e => ne_of_none e hp
  refine ⟨⟨pp.imm.trans i2, fun a m e => ?_, pp.there⟩, ⟨fun a c e => ?_, fun a m => oo.has a m.1⟩, ?_⟩
  · obtain ⟨f1, f2, f3⟩ := pp.fr a m e
    obtain ⟨o, ho⟩ := st.has a m
    exact ⟨⟨f1, hne a o ho⟩, f2, f3⟩
  · obtain ⟨m, hc⟩ := oo.cell a c e
    exact ⟨⟨m, fun z => by rw [z, hs] at e; cases e⟩, hc.mono i2 rfl⟩
  · simp only [Den]
    exact ⟨p, vs, rfl, e, fun z => z.2 rfl, DenL.mono i2 _ _ dn⟩
/-- every value that comes is a list -/
theorem DF.e {x : Expr} {m : ME} (h : DF X Y W x m) (hm : ∀ env S Q R, m env S Q R → m env S (fun d S' => (∃ l, d = .lst l) ∧ Q d S') R) : DE X Y W x m :=
  ⟨weakE h.run fun σ H Q ⟨M, env, S, Qd, Rd, r, q, rx, k⟩ => ⟨M, env, S, _, Rd, r, hm _ _ _ _ q, rx, fun d S' M' H' l p vs ⟨_, q1⟩ e1 p1 o1 hp e m1 hs dn => by
    subst e1
    obtain ⟨p2, o2, d2⟩ := freeze_fin r.st hp p1 o1 e hs dn
    exact k _ S' _ _ H' q1 p2 o2 d2⟩⟩
/-! ### subscripts -/
def IxD (X : Cx) (o : D → D → Store → (D → Prop) → Prop) : Prop :=
  IxR X (fun x y H Q => ∃ cl M S d e Qd, DenB ⟨X.K, cl⟩ M H S d x ∧ DenB ⟨X.K, cl⟩ M H S e y ∧ StOk ⟨X.K, cl⟩ M H S ∧ o d e S Qd ∧ ∀ z v M' H', Qd z → Stp M H S M' H' S → StOk ⟨X.K, cl⟩ M' H' S → Den ⟨X.K, cl⟩ M' H' z v → Q v H')
theorem DIx {o : D → D → Store → (D → Prop) → Prop} {a b : Expr} {ma mb : ME} {pos : Pos} (ho : IxD X o) (ha : DB X Y W a ma) (hb : DB X Y W b mb) (hs : PlainIx b := by exact fun _ _ => rfl) : DE X Y W (.Subscript a b pos) (mOp o ma mb) :=
  ⟨weakE (pe_ix ho ha.run hb.run hs) fun σ H Q ⟨M, env, S, Qd, Rd, r, q, rx, k⟩ => ⟨M, env, S, _, Rd, r, q, rx, fun d S1 v M1 H1 q1 p1 o1 dn1 =>
    ⟨M1, env, S1, _, Rd, r.step p1 o1, q1, rx.step p1, fun e S2 u M2 H2 q2 p2 o2 dn2 =>
      ⟨Y.cl, M2, S2, d, e, _, dn1.mono p2, dn2, o2, q2, fun z w M3 H3 q3 p3 o3 dn3 => k z S2 w M3 H3 q3 ((p1.trans p2).trans p3) o3 dn3⟩⟩⟩⟩
theorem ixd {r : R2} {o : D → D → Store → (D → Prop) → Prop} (h : IxR X r)
    (i : ∀ cl x y H Q M S d e Qd, DenB ⟨X.K, cl⟩ M H S d x → DenB ⟨X.K, cl⟩ M H S e y → StOk ⟨X.K, cl⟩ M H S → o d e S Qd → (∀ z v M' H', Qd z → Stp M H S M' H' S → StOk ⟨X.K, cl⟩ M' H' S → Den ⟨X.K, cl⟩ M' H' z v → Q v H') → r x y H Q) : IxD X o := by
  intro value slice pins s σ H x y v u Q I r1 r2 ⟨cl, M, S, d, e, Qd, h1, h2, st, q, k⟩ hs
  exact h value slice pins s σ H x y v u Q I r1 r2 (i cl x y H Q M S d e Qd h1 h2 st q k) hs
def oIx : D → D → Store → (D → Prop) → Prop := fun d e S Q => ∃ l i z, seqOf S d = some l ∧ e = .int i ∧ atI l i = some z ∧ Q z
theorem denL_at {K : KC} {M : Addr → Prop} {H : Hp} {l : List D} {vs : List V} {i : Int} {z : D} (dn : DenL K M H l vs) (h : atI l i = some z) : ∃ v, atI vs i = some v ∧ Den K M H z v := by
  unfold atI at h ⊢
  rw [← dn.length]
  cases e : ixN l.length i with
  | none => rw [e] at h; cases h
  | some j =>
    rw [e, Option.bind_some] at h
    obtain ⟨v, e1, d1⟩ := dn.getD h
    exact ⟨v, by rw [Option.bind_some]; exact e1, d1⟩
theorem o_ix : IxD X oIx := ixd ix_seq fun cl x y H Q M S d e Qd h1 h2 st ⟨l, i, z, s1, e1, a1, q⟩ k => by
  subst e1
  obtain ⟨a, vs, rfl, sq, dn⟩ := seq_of st h1 s1
  have e2 := h2.den (fun l => by intro z; cases z)
  simp only [Den] at e2
  obtain ⟨v, a2, d2⟩ := denL_at dn a1
  rcases sq with sq | sq
  · exact .inl ⟨a, vs, i, v, rfl, e2, sq, a2, k _ _ M H q Stp.refl st d2⟩
  · exact .inr (.inl ⟨a, vs, i, v, rfl, e2, sq, a2, k _ _ M H q Stp.refl st d2⟩)
/-! ### slices -/
def cutD (l : List D) (lo hi : Option Int) : List D := (l.drop (HT.sIx l.length 0 lo)).take (HT.sIx l.length l.length hi - HT.sIx l.length 0 lo)
theorem DenL.take {K : KC} {M : Addr → Prop} {H : Hp} : ∀ {l : List D} {vs : List V} (n : Nat), DenL K M H l vs → DenL K M H (l.take n) (vs.take n)
  | _, _, 0, _ => by simp [DenL]
  | [], [], n + 1, _ => by simp [DenL]
  | d :: l, v :: vs, n + 1, h => by
    simp only [DenL, List.take_succ_cons] at h ⊢
    exact ⟨h.1, DenL.take n h.2⟩
  | [], _ :: _, _ + 1, h => by simp [DenL] at h
  | _ :: _, [], _ + 1, h => by simp [DenL] at h
theorem DenL.drop {K : KC} {M : Addr → Prop} {H : Hp} : ∀ {l : List D} {vs : List V} (n : Nat), DenL K M H l vs → DenL K M H (l.drop n) (vs.drop n)
  | _, _, 0, h => h
  | [], [], n + 1, _ => by simp [DenL]
  | d :: l, v :: vs, n + 1, h => by
    simp only [DenL, List.drop_succ_cons] at h ⊢
    exact DenL.drop n h.2
  | [], _ :: _, _ + 1, h => by simp [DenL] at h
  | _ :: _, [], _ + 1, h => by simp [DenL] at h
theorem DenL.cut {K : KC} {M : Addr → Prop} {H : Hp} {l : List D} {vs : List V} (dn : DenL K M H l vs) (lo hi : Option Int) : DenL K M H (cutD l lo hi) (cutV vs lo hi) := by
  unfold cutD cutV
  rw [dn.length]
  exact (dn.drop _).take _
abbrev MO := Env → Store → (Option Int → Store → Prop) → RE → Prop
def tDO (K : KC) (Y : En) (W : WX) (m : MO) : TO := fun σ H Q => ∃ M env S Qd Rd, Rep K Y M σ H env S ∧ m env S Qd Rd ∧ RX K W M σ H S Rd ∧
  ∀ b S' M' H', Qd b S' → Stp M H S M' H' S' → StOk K M' H' S' → Q b H'
structure DO (X : Cx) (Y : En) (W : WX) (x : Option Expr) (m : MO) : Prop where
  run : PO X x (tDO (kc X Y) Y W m)
def mNoP : MO := fun _ S Q _ => Q none S
def mPart (m : ME) : MO := fun env S Q R => m env S (fun d S1 => ∃ i, d = .int i ∧ Q (some i) S1) R
theorem weakO {X : Cx} {x : Option Expr} {t t' : TO} (h : PO X x t) (i : ∀ σ H Q, t' σ H Q → t σ H Q) : PO X x t' := ⟨fun pins s σ H Q I q => h.run pins s σ H Q I (i σ H Q q)⟩
theorem ONone : DO X Y W none mNoP := ⟨weakO po_none fun σ H Q ⟨M, env, S, Qd, Rd, r, q, rx, k⟩ => k _ S M H q Stp.refl r.st⟩
theorem OSome {e : Expr} {m : ME} (h : DE X Y W e m) : DO X Y W (some e) (mPart m) := ⟨weakO (po_some h.run) fun σ H Q ⟨M, env, S, Qd, Rd, r, q, rx, k⟩ => ⟨M, env, S, _, Rd, r, q, rx, fun d S1 v M1 H1 ⟨i, e, q1⟩ p1 o1 dn1 => by
  subst e
  simp only [Den] at dn1
  exact ⟨i, dn1, k _ S1 M1 H1 q1 p1 o1⟩⟩⟩
def mSliceL (ma : ME) (ml mh : MO) : ME := fun env S Q R => ma env S (fun d S1 => ml env S1 (fun lo S2 => mh env S2 (fun hi S3 => ∃ l, lstOf S3 d = some l ∧ Q (.lst (cutD l lo hi)) S3) R) R) R
theorem FSliceL {a : Expr} {lo hi : Option Expr} {ma : ME} {ml mh : MO} {pos p2 : Pos} (ha : DB X Y W a ma) (hl : DO X Y W lo ml) (hh : DO X Y W hi mh) : DF X Y W (.Subscript a (.Slice lo hi none p2) pos) (mSliceL ma ml mh) :=
  ⟨weakE (pe_slice sl_list ha.run hl.run hh.run) fun σ H Q ⟨M, env, S, Qd, Rd, r, q, rx, k⟩ => ⟨M, env, S, _, Rd, r, q, rx, fun d S1 v M1 H1 q1 p1 o1 dn1 =>
    ⟨M1, env, S1, _, Rd, r.step p1 o1, q1, rx.step p1, fun b S2 M2 H2 q2 p2 o2 => ⟨M2, env, S2, _, Rd, r.step (p1.trans p2) o2, q2, rx.step (p1.trans p2), fun c S3 M3 H3 ⟨l, e1, q3⟩ p3 o3 => by
      obtain ⟨a, vs, rfl, g, dn⟩ := lst_of o3 ((dn1.mono p2).mono p3) e1
      refine ⟨a, vs, rfl, SqL.of g, fun p hp => ?_⟩
      obtain ⟨f1, f2, f3, f4⟩ := fresh_fin o3 hp (dn.cut b c)
      have hp0 : H p = none := by
        cases e0 : H p with
        | none => rfl
        | some o => obtain ⟨o', e'⟩ := ((p1.trans p2).trans p3).there p o e0; rw [hp] at e'; cases e'
      exact k _ S3 _ _ _ p _ q3 rfl (((p1.trans p2).trans p3).trans f1) f2 hp0 upd_same (.inr rfl) f3 f4⟩⟩⟩⟩
theorem DSliceL {a : Expr} {lo hi : Option Expr} {ma : ME} {ml mh : MO} {pos p2 : Pos} (ha : DB X Y W a ma) (hl : DO X Y W lo ml) (hh : DO X Y W hi mh) : DE X Y W (.Subscript a (.Slice lo hi none p2) pos) (mSliceL ma ml mh) :=
  ⟨weakE (pe_slice sl_list ha.run hl.run hh.run) fun σ H Q ⟨M, env, S, Qd, Rd, r, q, rx, k⟩ => ⟨M, env, S, _, Rd, r, q, rx, fun d S1 v M1 H1 q1 p1 o1 dn1 =>
    ⟨M1, env, S1, _, Rd, r.step p1 o1, q1, rx.step p1, fun b S2 M2 H2 q2 p2 o2 => ⟨M2, env, S2, _, Rd, r.step (p1.trans p2) o2, q2, rx.step (p1.trans p2), fun c S3 M3 H3 ⟨l, e1, q3⟩ p3 o3 => by
      obtain ⟨a, vs, rfl, g, dn⟩ := lst_of o3 ((dn1.mono p2).mono p3) e1
      refine ⟨a, vs, rfl, SqL.of g, fun p hp => ?_⟩
      exact k _ S3 _ M3 _ q3 (((p1.trans p2).trans p3).trans (Stp.alloc o3 hp)) (o3.alloc hp) (den_new o3 hp (dn.cut b c))⟩⟩⟩⟩
/-! ### displays -/
def mANil : MA := fun _ S Q _ => Q [] S
def mACons (m : ME) (n : MA) : MA := fun env S Q R => m env S (fun d S1 => n env S1 (fun ds S2 => Q (d :: ds) S2) R) R
theorem ANil : DA X Y W [] mANil := ⟨weakA pa_nil fun σ H Q ⟨M, env, S, Qd, Rd, r, q, rx, k⟩ => k _ S _ M H q Stp.refl r.st (by simp [DenL])⟩
theorem ACons {e : Expr} {es : List Expr} {m : ME} {n : MA} (he : DE X Y W e m) (ha : DA X Y W es n) (hs : starEach (e :: es) X.env = (false, eval e X.env) :: starEach es X.env := by rfl) : DA X Y W (e :: es) (mACons m n) :=
  ⟨weakA (pa_cons he.run ha.run hs) fun σ H Q ⟨M, env, S, Qd, Rd, r, q, rx, k⟩ => ⟨M, env, S, _, Rd, r, q, rx, fun d S1 v M1 H1 q1 p1 o1 dn1 => ⟨M1, env, S1, _, Rd, r.step p1 o1, q1, rx.step p1, fun ds S2 vs M2 H2 q2 p2 o2 dn2 =>
    k _ S2 _ M2 H2 q2 (p1.trans p2) o2 (by simp only [DenL]; exact ⟨Den.mono p2.imm _ _ dn1, dn2⟩)⟩⟩⟩
def mLst (m : MA) : ME := fun env S Q R => m env S (fun ds S1 => ds.length ≤ sizeLine ∧ Q (.lst ds) S1) R
def mTup (m : MA) : ME := fun env S Q R => m env S (fun ds S1 => ds.length ≤ sizeLine ∧ Q (.tup ds) S1) R
theorem back_free {H H' : Hp} {p : Addr} (there : ∀ a o, H a = some o → ∃ o', H' a = some o') (hp : H' p = none) : H p = none := by
  cases e0 : H p with
  | none => rfl
  | some o => obtain ⟨o', e'⟩ := there p o e0; rw [hp] at e'; cases e'
theorem FLst {es : List Expr} {m : MA} {pos : Pos} (ha : DA X Y W es m) : DF X Y W (.List es pos) (mLst m) :=
  ⟨weakE (pe_lst ha.run) fun σ H Q ⟨M, env, S, Qd, Rd, r, q, rx, k⟩ => ⟨M, env, S, _, Rd, r, q, rx, fun ds S1 vs M1 H1 ⟨hl, q1⟩ p1 o1 dn1 => ⟨by rw [← dn1.length]; exact hl, fun p hp => by
    obtain ⟨f1, f2, f3, f4⟩ := fresh_fin o1 hp dn1
    exact k _ S1 _ _ _ p _ q1 rfl (p1.trans f1) f2 (back_free p1.there hp) upd_same (.inr rfl) f3 f4⟩⟩⟩
theorem DLst {es : List Expr} {m : MA} {pos : Pos} (ha : DA X Y W es m) : DE X Y W (.List es pos) (mLst m) :=
  ⟨weakE (pe_lst ha.run) fun σ H Q ⟨M, env, S, Qd, Rd, r, q, rx, k⟩ => ⟨M, env, S, _, Rd, r, q, rx, fun ds S1 vs M1 H1 ⟨hl, q1⟩ p1 o1 dn1 => ⟨by rw [← dn1.length]; exact hl, fun p hp =>
    k _ S1 _ M1 _ q1 (p1.trans (Stp.alloc o1 hp)) (o1.alloc hp) (den_new o1 hp dn1)⟩⟩⟩
theorem DTup {es : List Expr} {m : MA} {pos : Pos} {k0 : Nat} (ha : DA X Y W es m) : DE X Y W (.Tuple es k0 pos) (mTup m) :=
  ⟨weakE (pe_tup ha.run) fun σ H Q ⟨M, env, S, Qd, Rd, r, q, rx, k⟩ => ⟨M, env, S, _, Rd, r, q, rx, fun ds S1 vs M1 H1 ⟨hl, q1⟩ p1 o1 dn1 => ⟨by rw [← dn1.length]; exact hl, fun p hp =>
    k _ S1 _ M1 _ q1 (p1.trans (Stp.alloc o1 hp)) (o1.alloc hp) (den_newT o1 hp dn1)⟩⟩⟩
/-! ### calls of built-ins -/
/-- borrowed arguments -/
def DenBL (K : KC) (M : Addr → Prop) (H : Hp) (S : Store) : List D → List V → Prop
  | [], [] => True
  | d :: ds, v :: vs => DenB K M H S d v ∧ DenBL K M H S ds vs
  | _, _ => False
theorem DenBL.mono {K : KC} {M M' : Addr → Prop} {H H' : Hp} {S S' : Store} (p : Stp M H S M' H' S') : ∀ {ds : List D} {vs : List V}, DenBL K M H S ds vs → DenBL K M' H' S' ds vs
  | [], [], _ => by simp [DenBL]
  | d :: ds, v :: vs, h => by
    simp only [DenBL] at h ⊢
    exact ⟨h.1.mono p, DenBL.mono p h.2⟩
  | [], _ :: _, h => by simp [DenBL] at h
  | _ :: _, [], h => by simp [DenBL] at h
def tDAB (K : KC) (Y : En) (W : WX) (m : MA) : TA := fun σ H Q => ∃ M env S Qd Rd, Rep K Y M σ H env S ∧ m env S Qd Rd ∧ RX K W M σ H S Rd ∧
  ∀ ds S' vs M' H', Qd ds S' → Stp M H S M' H' S' → StOk K M' H' S' → DenBL K M' H' S' ds vs → Q vs H'
structure DAB (X : Cx) (Y : En) (W : WX) (xs : List Expr) (m : MA) : Prop where
  run : PA X xs (tDAB (kc X Y) Y W m)
theorem BNil : DAB X Y W [] mANil := ⟨weakA pa_nil fun σ H Q ⟨M, env, S, Qd, Rd, r, q, rx, k⟩ => k _ S _ M H q Stp.refl r.st (by simp [DenBL])⟩
theorem BCons {e : Expr} {es : List Expr} {m : ME} {n : MA} (he : DB X Y W e m) (ha : DAB X Y W es n) (hs : starEach (e :: es) X.env = (false, eval e X.env) :: starEach es X.env := by rfl) : DAB X Y W (e :: es) (mACons m n) :=
  ⟨weakA (pa_cons he.run ha.run hs) fun σ H Q ⟨M, env, S, Qd, Rd, r, q, rx, k⟩ => ⟨M, env, S, _, Rd, r, q, rx, fun d S1 v M1 H1 q1 p1 o1 dn1 => ⟨M1, env, S1, _, Rd, r.step p1 o1, q1, rx.step p1, fun ds S2 vs M2 H2 q2 p2 o2 dn2 =>
    k _ S2 _ M2 H2 q2 (p1.trans p2) o2 (by simp only [DenBL]; exact ⟨dn1.mono p2, dn2⟩)⟩⟩⟩
def ClD (X : Cx) (f : Value) (o : List D → Store → (D → Prop) → Prop) : Prop :=
  CallR X f (fun xs H Q => ∃ cl M S ds Qd, DenBL ⟨X.K, cl⟩ M H S ds xs ∧ StOk ⟨X.K, cl⟩ M H S ∧ o ds S Qd ∧ ∀ z v M' H', Qd z → Stp M H S M' H' S → StOk ⟨X.K, cl⟩ M' H' S → Den ⟨X.K, cl⟩ M' H' z v → Q v H')
def mCB (o : List D → Store → (D → Prop) → Prop) (m : MA) : ME := fun env S Q R => m env S (fun ds S1 => o ds S1 fun z => Q z S1) R
theorem DCallB {o : List D → Store → (D → Prop) → Prop} {id : String} {x : Str} {e : Expr} {es : List Expr} {m : MA} {np pos : Pos} (hc : ClD X (.builtin id) o) (hg : Gl X x) (hm : X.mg x = none) (hv : bootBuiltins x = some (.builtin id)) (ha : DAB X Y W (e :: es) m)
    (hn : x ≠ "__name__" := by decide) (hdb : (x == ("__debug__" : Str)) = false := by decide) (he : starEach (e :: es) X.env = (false, eval e X.env) :: starEach es X.env := by rfl) (hpl : (backTo pos (starEach es X.env)).any (·.1) = false := by rfl) : DE X Y W (.Call (.Name x np) (e :: es) [] pos) (mCB o m) :=
  ⟨weakE (pe_callB hc hg hm hv ha.run hn hdb he hpl) fun σ H Q ⟨M, env, S, Qd, Rd, r, q, rx, k⟩ => ⟨M, env, S, _, Rd, r, q, rx, fun ds S1 vs M1 H1 q1 p1 o1 dn1 => ⟨Y.cl, M1, S1, ds, _, dn1, o1, q1, fun z v M2 H2 q2 p2 o2 dn2 => k z S1 v M2 H2 q2 (p1.trans p2) o2 dn2⟩⟩⟩
theorem DCallTy {o : List D → Store → (D → Prop) → Prop} {T : String} {x : Str} {e : Expr} {es : List Expr} {m : MA} {np pos : Pos} (hc : ClD X (.type T) o) (hg : Gl X x) (hm : X.mg x = none) (hv : bootBuiltins x = some (.type T)) (ha : DAB X Y W (e :: es) m)
    (hn : x ≠ "__name__" := by decide) (hdb : (x == ("__debug__" : Str)) = false := by decide) (he : starEach (e :: es) X.env = (false, eval e X.env) :: starEach es X.env := by rfl) (hpl : (backTo pos (starEach es X.env)).any (·.1) = false := by rfl) : DE X Y W (.Call (.Name x np) (e :: es) [] pos) (mCB o m) :=
  ⟨weakE (pe_callTy hc hg hm hv ha.run hn hdb he hpl) fun σ H Q ⟨M, env, S, Qd, Rd, r, q, rx, k⟩ => ⟨M, env, S, _, Rd, r, q, rx, fun ds S1 vs M1 H1 q1 p1 o1 dn1 => ⟨Y.cl, M1, S1, ds, _, dn1, o1, q1, fun z v M2 H2 q2 p2 o2 dn2 => k z S1 v M2 H2 q2 (p1.trans p2) o2 dn2⟩⟩⟩
theorem cld {f : Value} {r : List V → Hp → VK → Prop} {o : List D → Store → (D → Prop) → Prop} (h : CallR X f r)
    (i : ∀ cl xs H Q M S ds Qd, DenBL ⟨X.K, cl⟩ M H S ds xs → StOk ⟨X.K, cl⟩ M H S → o ds S Qd → (∀ z v M' H', Qd z → Stp M H S M' H' S → StOk ⟨X.K, cl⟩ M' H' S → Den ⟨X.K, cl⟩ M' H' z v → Q v H') → r xs H Q) : ClD X f o := by
  intro pins s σ H xs us Q I r1 ⟨cl, M, S, ds, Qd, h1, st, q, k⟩
  exact h pins s σ H xs us Q I r1 (i cl xs H Q M S ds Qd h1 st q k)
theorem bl1 {K : KC} {M : Addr → Prop} {H : Hp} {S : Store} {d : D} {xs : List V} (h : DenBL K M H S [d] xs) : ∃ x, xs = [x] ∧ DenB K M H S d x := by
  cases xs with
  | nil => simp [DenBL] at h
  | cons x r => cases r with
    | nil => simp only [DenBL, and_true] at h; exact ⟨x, rfl, h⟩
    | cons _ _ => simp [DenBL] at h
theorem bl2 {K : KC} {M : Addr → Prop} {H : Hp} {S : Store} {d e : D} {xs : List V} (h : DenBL K M H S [d, e] xs) : ∃ x y, xs = [x, y] ∧ DenB K M H S d x ∧ DenB K M H S e y := by
  cases xs with
  | nil => simp [DenBL] at h
  | cons x r =>
    simp only [DenBL] at h
    obtain ⟨h1, h2⟩ := h
    cases r with
    | nil => simp [DenBL] at h2
    | cons y r => cases r with
      | nil => simp only [DenBL, and_true] at h2; exact ⟨x, y, rfl, h1, h2⟩
      | cons _ _ => simp [DenBL] at h2
def lenOf (S : Store) : D → Option Nat
  | .str x => if x.length ≤ sizeLine then some x.length else none
  | d => (seqOf S d).map List.length
def oLen : List D → Store → (D → Prop) → Prop := fun ds S Q => ∃ d n, ds = [d] ∧ lenOf S d = some n ∧ Q (.int n)
theorem c_len : ClD X (.builtin "len") oLen := cld (call_len_seq.or call_len_str) fun cl xs H Q M S ds Qd h1 st ⟨d, n, e1, e2, q⟩ k => by
  subst e1
  obtain ⟨x, rfl, hd⟩ := bl1 h1
  have sq : (seqOf S d).map List.length = some n → ((∃ p ys, [x] = [V.ref p] ∧ (SqL X.K H p ys ∨ SqT X.K H p ys) ∧ Q (.int ys.length) H) ∨ ∃ z, [x] = [V.str z] ∧ z.length ≤ sizeLine ∧ Q (.int z.length) H) := fun z => by
    cases hs : seqOf S d with
    | none => rw [hs] at z; cases z
    | some l =>
      rw [hs] at z; cases z
      obtain ⟨a, vs, rfl, h, dn⟩ := seq_of st hd hs
      exact .inl ⟨a, vs, rfl, h, k _ _ M H q Stp.refl st (by simp [Den, dn.length])⟩
  cases d with
  | str y =>
    have h := hd.den (fun l => by intro z; cases z)
    simp only [Den] at h; subst h
    simp only [lenOf] at e2
    split at e2
    · cases e2
      rename_i hl
      exact .inr ⟨y, rfl, hl, k _ _ M H q Stp.refl st (by simp [Den])⟩
    · cases e2
  | _ => exact sq e2
/-- list(..), tuple(..) -/
def oTupleOf : List D → Store → (D → Prop) → Prop := fun ds S Q => ∃ d l, ds = [d] ∧ seqOf S d = some l ∧ Q (.tup l)
theorem c_tuple : ClD X (.type "tuple") oTupleOf := cld call_tuple_of fun cl xs H Q M S ds Qd h1 st ⟨d, l, e1, e2, q⟩ k => by
  subst e1
  obtain ⟨x, rfl, hd⟩ := bl1 h1
  have lst : ∀ a vs, x = .ref a → SqL X.K H a vs → DenL ⟨X.K, cl⟩ M H l vs → (∃ p ys, [x] = [V.ref p] ∧ ((SqL X.K H p ys ∧ ∀ l, H l = none → Q (.ref l) (upd H l (.tup ys))) ∨ (SqT X.K H p ys ∧ Q (.ref p) H))) := fun a vs e h dn => by
    subst e
    exact ⟨a, vs, rfl, .inl ⟨h, fun p hp => k _ _ M _ q (Stp.alloc st hp) (st.alloc hp) (den_newT st hp dn)⟩⟩
  cases d with
  | tup l' =>
    cases e2
    have hd' := hd.den (fun l => by intro z; cases z)
    obtain ⟨a, vs, rfl, h, dn⟩ := hd'.tup
    exact ⟨a, vs, rfl, .inr ⟨h, k _ _ M H q Stp.refl st hd'⟩⟩
  | lst l' =>
    cases e2
    obtain ⟨a, vs, e, h1, h3⟩ := hd.lst
    exact lst a vs e (SqL.of h1) h3
  | fz l' =>
    cases e2
    obtain ⟨a, vs, e, h1, h3⟩ := (hd.den (fun l => by intro z; cases z)).fz
    exact lst a vs e h1 h3
  | obj a =>
    have e3 : lstOf S (.obj a) = some l := by
      simp only [seqOf] at e2; simp only [lstOf]; exact e2
    obtain ⟨a', vs, e, h1, h3⟩ := lst_of st hd e3
    exact lst a' vs e (SqL.of h1) h3
  | _ => simp [seqOf] at e2
def oInt1 (C : Int → Prop) (g : Int → D) : List D → Store → (D → Prop) → Prop := fun ds _ Q => ∃ i, ds = [.int i] ∧ C i ∧ Q (g i)
def oInt2 (g : Int → Int → D) : List D → Store → (D → Prop) → Prop := fun ds _ Q => ∃ i j, ds = [.int i, .int j] ∧ Q (g i j)
theorem c_abs : ClD X (.builtin "abs") (oInt1 (fun _ => True) fun i => .int (if i < 0 then -i else i)) := cld call_abs fun cl xs H Q M S ds Qd h1 st ⟨i, e1, _, q⟩ k => by
  subst e1
  obtain ⟨x, rfl, hd⟩ := bl1 h1
  have h := hd.den (fun l => by intro z; cases z)
  simp only [Den] at h; subst h
  exact ⟨i, rfl, k _ _ M H q Stp.refl st (by simp [Den])⟩
def oIntOf : List D → Store → (D → Prop) → Prop := fun ds _ Q => (∃ i, ds = [.int i] ∧ Q (.int i)) ∨ ∃ b, ds = [.bl b] ∧ Q (.int (if b then 1 else 0))
theorem c_int : ClD X (.type "int") oIntOf := cld call_int1 fun cl xs H Q M S ds Qd h1 st q k => by
  rcases q with ⟨i, e1, q⟩ | ⟨i, e1, q⟩
  · subst e1
    obtain ⟨x, rfl, hd⟩ := bl1 h1
    have h := hd.den (fun l => by intro z; cases z)
    simp only [Den] at h; subst h
    exact .inl ⟨i, rfl, k _ _ M H q Stp.refl st (by simp [Den])⟩
  · subst e1
    obtain ⟨x, rfl, hd⟩ := bl1 h1
    have h := hd.den (fun l => by intro z; cases z)
    simp only [Den] at h; subst h
    exact .inr ⟨i, rfl, k _ _ M H q Stp.refl st (by simp [Den])⟩
theorem c_max2 (hc : X.calm = true) : ClD X (.builtin "max") (oInt2 fun i j => .int (if j > i then j else i)) := cld (call_max2 hc) fun cl xs H Q M S ds Qd h1 st ⟨i, j, e1, q⟩ k => by
  subst e1
  obtain ⟨x, y, rfl, hd, he⟩ := bl2 h1
  have h := hd.den (fun l => by intro z; cases z)
  have h' := he.den (fun l => by intro z; cases z)
  simp only [Den] at h h'; subst h h'
  exact ⟨i, j, rfl, k _ _ M H q Stp.refl st (by simp [Den])⟩
theorem c_min2 (hc : X.calm = true) : ClD X (.builtin "min") (oInt2 fun i j => .int (if j < i then j else i)) := cld (call_min2 hc) fun cl xs H Q M S ds Qd h1 st ⟨i, j, e1, q⟩ k => by
  subst e1
  obtain ⟨x, y, rfl, hd, he⟩ := bl2 h1
  have h := hd.den (fun l => by intro z; cases z)
  have h' := he.den (fun l => by intro z; cases z)
  simp only [Den] at h h'; subst h h'
  exact ⟨i, j, rfl, k _ _ M H q Stp.refl st (by simp [Den])⟩
/-- the ints of a list that is read -/
def intsOf (S : Store) (d : D) : Option (List Int) := (seqOf S d).bind fun l => l.mapM fun x => match x with
    | .int i => some i
    | _ => none
theorem mapM_ints : ∀ (l : List D) (ns : List Int), (l.mapM fun x => match x with
    | .int i => some i
    | _ => none) = some ns → l = ns.map D.int
  | [], ns, h => by
    simp only [List.mapM_nil] at h
    cases h; rfl
  | d :: l, ns, h => by
    rw [List.mapM_cons] at h
    cases d with
    | int i =>
      simp only [Option.bind_eq_bind, Option.bind_some] at h
      cases e : (l.mapM fun x => match x with
        | .int i => some i
        | _ => none) with
      | none => rw [e] at h; cases h
      | some ms =>
        rw [e] at h
        cases h
        rw [mapM_ints l ms e]; rfl
    | _ => simp at h
theorem mapM_of_ints : ∀ (ns : List Int), ((ns.map D.int).mapM fun x => match x with
    | .int i => some i
    | _ => none) = some ns
  | [] => rfl
  | n :: ns => by
    rw [List.map_cons, List.mapM_cons]
    simp only [Option.bind_eq_bind, Option.bind_some]
    rw [mapM_of_ints ns]; rfl
theorem intsOf_some {S : Store} {d : D} {ns : List Int} (h : intsOf S d = some ns) : seqOf S d = some (ns.map D.int) := by
  unfold intsOf at h
  cases e : seqOf S d with
  | none => rw [e] at h; cases h
  | some l =>
    rw [e, Option.bind_some] at h
    rw [mapM_ints l ns h]
theorem intsOf_ints {S : Store} {d : D} {ns : List Int} (h : seqOf S d = some (ns.map D.int)) : intsOf S d = some ns := by
  unfold intsOf
  rw [h, Option.bind_some]
  exact mapM_of_ints ns
/-- a list of ints (no tuple) for sum, min, max, sorted -/
def noTup : D → Bool
  | .tup _ => false
  | _ => true
theorem ints_of {K : KC} {M : Addr → Prop} {H : Hp} {S : Store} {d : D} {ns : List Int} {v : V} (st : StOk K M H S) (h : DenB K M H S d v) (nt : noTup d = true) (e : intsOf S d = some ns) : ∃ a, v = .ref a ∧ SqL K.K H a (ns.map V.int) := by
  have e2 := intsOf_some e
  cases d with
  | lst l =>
    cases e2
    obtain ⟨a, vs, e, h1, h3⟩ := h.lst
    exact ⟨a, e, by rw [← ints_den _ _ h3]; exact SqL.of h1⟩
  | fz l =>
    cases e2
    obtain ⟨a, vs, e, h1, h3⟩ := (h.den (fun l => by intro z; cases z)).fz
    exact ⟨a, e, by rw [← ints_den _ _ h3]; exact h1⟩
  | obj a =>
    have e3 : lstOf S (.obj a) = some (ns.map D.int) := by
      simp only [seqOf] at e2; simp only [lstOf]; exact e2
    obtain ⟨a', vs, e, h1, h3⟩ := lst_of st h e3
    exact ⟨a', e, by rw [← ints_den _ _ h3]; exact SqL.of h1⟩
  | tup l => cases nt
  | _ => simp [seqOf] at e2
def oInts (C : List Int → Prop) (o : List Int → (D → Prop) → Prop) : List D → Store → (D → Prop) → Prop := fun ds S Q => ∃ d ns, ds = [d] ∧ noTup d = true ∧ intsOf S d = some ns ∧ C ns ∧ o ns Q
theorem c_sum (hc : X.calm = true) : ClD X (.builtin "sum") (oInts (fun _ => True) fun ns Q => Q (.int ns.sum)) := cld (cr_sum hc) fun cl xs H Q M S ds Qd h1 st ⟨d, ns, e1, nt, e2, _, q⟩ k => by
  subst e1
  obtain ⟨x, rfl, hd⟩ := bl1 h1
  obtain ⟨a, rfl, h⟩ := ints_of st hd nt e2
  exact ⟨a, ns, rfl, h, k _ _ M H q Stp.refl st (by simp [Den])⟩
theorem c_max (hc : X.calm = true) : ClD X (.builtin "max") (oInts (fun ns => 0 < ns.length) fun ns Q => ∀ m, m ∈ ns → (∀ y, y ∈ ns → y ≤ m) → Q (.int m)) := cld (cr_max hc) fun cl xs H Q M S ds Qd h1 st ⟨d, ns, e1, nt, e2, h0, q⟩ k => by
  subst e1
  obtain ⟨x, rfl, hd⟩ := bl1 h1
  obtain ⟨a, rfl, h⟩ := ints_of st hd nt e2
  exact ⟨a, ns, rfl, h, h0, fun m m1 m2 => k _ _ M H (q m m1 m2) Stp.refl st (by simp [Den])⟩
theorem c_min (hc : X.calm = true) : ClD X (.builtin "min") (oInts (fun ns => 0 < ns.length) fun ns Q => ∀ m, m ∈ ns → (∀ y, y ∈ ns → m ≤ y) → Q (.int m)) := cld (cr_min hc) fun cl xs H Q M S ds Qd h1 st ⟨d, ns, e1, nt, e2, h0, q⟩ k => by
  subst e1
  obtain ⟨x, rfl, hd⟩ := bl1 h1
  obtain ⟨a, rfl, h⟩ := ints_of st hd nt e2
  exact ⟨a, ns, rfl, h, h0, fun m m1 m2 => k _ _ M H (q m m1 m2) Stp.refl st (by simp [Den])⟩
/-! ### calls that make a list -/
def ClF (X : Cx) (f : Value) (o : List D → Store → (List D → Prop) → Prop) : Prop :=
  CallR X f (fun xs H Q => ∃ cl M S ds Qd, DenBL ⟨X.K, cl⟩ M H S ds xs ∧ StOk ⟨X.K, cl⟩ M H S ∧ o ds S Qd ∧ ∀ l p vs, Qd l → H p = none → DenL ⟨X.K, cl⟩ M H l vs → Q (.ref p) (upd H p (.lst vs)))
def mCF (o : List D → Store → (List D → Prop) → Prop) (m : MA) : ME := fun env S Q R => m env S (fun ds S1 => o ds S1 fun l => Q (.lst l) S1) R
theorem FCallB {o : List D → Store → (List D → Prop) → Prop} {id : String} {x : Str} {e : Expr} {es : List Expr} {m : MA} {np pos : Pos} (hc : ClF X (.builtin id) o) (hg : Gl X x) (hm : X.mg x = none) (hv : bootBuiltins x = some (.builtin id)) (ha : DAB X Y W (e :: es) m)
    (hn : x ≠ "__name__" := by decide) (hdb : (x == ("__debug__" : Str)) = false := by decide) (he : starEach (e :: es) X.env = (false, eval e X.env) :: starEach es X.env := by rfl) (hpl : (backTo pos (starEach es X.env)).any (·.1) = false := by rfl) : DF X Y W (.Call (.Name x np) (e :: es) [] pos) (mCF o m) :=
  ⟨weakE (pe_callB hc hg hm hv ha.run hn hdb he hpl) fun σ H Q ⟨M, env, S, Qd, Rd, r, q, rx, k⟩ => ⟨M, env, S, _, Rd, r, q, rx, fun ds S1 vs M1 H1 q1 p1 o1 dn1 => ⟨Y.cl, M1, S1, ds, _, dn1, o1, q1, fun l p us q2 hp dn2 => by
    obtain ⟨f1, f2, f3, f4⟩ := fresh_fin o1 hp dn2
    exact k _ S1 _ _ _ p _ q2 rfl (p1.trans f1) f2 (back_free p1.there hp) upd_same (.inr rfl) f3 f4⟩⟩⟩
theorem FCallTy {o : List D → Store → (List D → Prop) → Prop} {T : String} {x : Str} {e : Expr} {es : List Expr} {m : MA} {np pos : Pos} (hc : ClF X (.type T) o) (hg : Gl X x) (hm : X.mg x = none) (hv : bootBuiltins x = some (.type T)) (ha : DAB X Y W (e :: es) m)
    (hn : x ≠ "__name__" := by decide) (hdb : (x == ("__debug__" : Str)) = false := by decide) (he : starEach (e :: es) X.env = (false, eval e X.env) :: starEach es X.env := by rfl) (hpl : (backTo pos (starEach es X.env)).any (·.1) = false := by rfl) : DF X Y W (.Call (.Name x np) (e :: es) [] pos) (mCF o m) :=
  ⟨weakE (pe_callTy hc hg hm hv ha.run hn hdb he hpl) fun σ H Q ⟨M, env, S, Qd, Rd, r, q, rx, k⟩ => ⟨M, env, S, _, Rd, r, q, rx, fun ds S1 vs M1 H1 q1 p1 o1 dn1 => ⟨Y.cl, M1, S1, ds, _, dn1, o1, q1, fun l p us q2 hp dn2 => by
    obtain ⟨f1, f2, f3, f4⟩ := fresh_fin o1 hp dn2
    exact k _ S1 _ _ _ p _ q2 rfl (p1.trans f1) f2 (back_free p1.there hp) upd_same (.inr rfl) f3 f4⟩⟩⟩
theorem ClF.d {f : Value} {o : List D → Store → (List D → Prop) → Prop} (h : ClF X f o) : ClD X f (fun ds S Q => o ds S fun l => Q (.lst l)) := cld h fun cl xs H Q M S ds Qd h1 st q k =>
  ⟨cl, M, S, ds, _, h1, st, q, fun l p vs q1 hp dn => k _ _ M _ q1 (Stp.alloc st hp) (st.alloc hp) (den_new st hp dn)⟩
theorem clf {f : Value} {r : List V → Hp → VK → Prop} {o : List D → Store → (List D → Prop) → Prop} (h : CallR X f r)
    (i : ∀ cl xs H Q M S ds Qd, DenBL ⟨X.K, cl⟩ M H S ds xs → StOk ⟨X.K, cl⟩ M H S → o ds S Qd → (∀ l p vs, Qd l → H p = none → DenL ⟨X.K, cl⟩ M H l vs → Q (.ref p) (upd H p (.lst vs))) → r xs H Q) : ClF X f o := by
  intro pins s σ H xs us Q I r1 ⟨cl, M, S, ds, Qd, h1, st, q, k⟩
  exact h pins s σ H xs us Q I r1 (i cl xs H Q M S ds Qd h1 st q k)
def oListOf : List D → Store → (List D → Prop) → Prop := fun ds S Q => ∃ d l, ds = [d] ∧ seqOf S d = some l ∧ Q l
theorem c_list : ClF X (.type "list") oListOf := clf call_list_of fun cl xs H Q M S ds Qd h1 st ⟨d, l, e1, e2, q⟩ k => by
  subst e1
  obtain ⟨x, rfl, hd⟩ := bl1 h1
  obtain ⟨a, vs, rfl, h, dn⟩ := seq_of st hd e2
  exact ⟨a, vs, rfl, h, fun p hp => k l p vs q hp dn⟩
def oSortI : List D → Store → (List D → Prop) → Prop := fun ds S Q => ∃ d ns, ds = [d] ∧ noTup d = true ∧ intsOf S d = some ns ∧ ∀ ns' : List Int, ns'.Perm ns → ns'.Pairwise (· ≤ ·) → Q (ns'.map D.int)
theorem c_sortedI : ClF X (.builtin "sorted") oSortI := clf cr_sortedI fun cl xs H Q M S ds Qd h1 st ⟨d, ns, e1, nt, e2, q⟩ k => by
  subst e1
  obtain ⟨x, rfl, hd⟩ := bl1 h1
  obtain ⟨a, rfl, h⟩ := ints_of st hd nt e2
  exact ⟨a, ns, rfl, h, fun ns' p h1 h2 hp => k _ p _ (q ns' h1 h2) hp (den_ints ns')⟩
/-- a + b, lists; a * k: fresh -/
def mCatF (ma mb : ME) : ME := fun env S Q R => ma env S (fun d S1 => mb env S1 (fun e S2 => oCatL d e S2 fun z => Q z S2) R) R
theorem FCat {a b : Expr} {ma mb : ME} {pos : Pos} (ha : DB X Y W a ma) (hb : DB X Y W b mb) : DF X Y W (.BinOp a .Add b pos) (mOp oCatL ma mb) :=
  ⟨weakE (pe_op op_cat ha.run hb.run) fun σ H Q ⟨M, env, S, Qd, Rd, r, q, rx, k⟩ => ⟨M, env, S, _, Rd, r, q, rx, fun d S1 v M1 H1 q1 p1 o1 dn1 =>
    ⟨M1, env, S1, _, Rd, r.step p1 o1, q1, rx.step p1, fun e S2 u M2 H2 ⟨a, b, e1, e2, hl, q2⟩ p2 o2 dn2 => by
      obtain ⟨x1, vs, rfl, g1, d1⟩ := lst_of o2 (dn1.mono p2) e1
      obtain ⟨x2, ws, rfl, g2, d2⟩ := lst_of o2 dn2 e2
      refine ⟨x1, x2, vs, ws, rfl, rfl, g1, g2, by rw [← d1.length, ← d2.length]; exact hl, fun p hp => ?_⟩
      obtain ⟨f1, f2, f3, f4⟩ := fresh_fin o2 hp (d1.append d2)
      exact k _ S2 _ _ _ p _ q2 rfl ((p1.trans p2).trans f1) f2 (back_free (p1.trans p2).there hp) upd_same (.inr rfl) f3 f4⟩⟩⟩
theorem FRep {a b : Expr} {ma mb : ME} {pos : Pos} (ha : DB X Y W a ma) (hb : DB X Y W b mb) : DF X Y W (.BinOp a .Mult b pos) (mOp oRep ma mb) :=
  ⟨weakE (pe_op op_rep ha.run hb.run) fun σ H Q ⟨M, env, S, Qd, Rd, r, q, rx, k⟩ => ⟨M, env, S, _, Rd, r, q, rx, fun d S1 v M1 H1 q1 p1 o1 dn1 =>
    ⟨M1, env, S1, _, Rd, r.step p1 o1, q1, rx.step p1, fun e S2 u M2 H2 ⟨a, j, e1, e2, b1, b2, hl, q2⟩ p2 o2 dn2 => by
      obtain ⟨x1, vs, rfl, g1, d1⟩ := lst_of o2 (dn1.mono p2) e1
      subst e2
      have e2 := dn2.den (fun l => by intro z; cases z)
      simp only [Den] at e2; subst e2
      refine ⟨x1, j, vs, rfl, rfl, g1, b1, b2, by rw [← d1.length]; exact hl, fun p hp => ?_⟩
      obtain ⟨f1, f2, f3, f4⟩ := fresh_fin o2 hp (d1.rep j.toNat)
      exact k _ S2 _ _ _ p _ q2 rfl ((p1.trans p2).trans f1) f2 (back_free (p1.trans p2).there hp) upd_same (.inr rfl) f3 f4⟩⟩⟩
theorem o_rep : OpD X (binaryOp .Mult) oRep := opd op_rep fun cl x y H Q M S d e Qd h1 h2 st ⟨a, j, e1, e2, b1, b2, hl, q⟩ k => by
  obtain ⟨x1, vs, rfl, g1, d1⟩ := lst_of st h1 e1
  subst e2
  have e2 := h2.den (fun l => by intro z; cases z)
  simp only [Den] at e2; subst e2
  exact ⟨x1, j, vs, rfl, rfl, g1, b1, b2, by rw [← d1.length]; exact hl, fun p hp => k _ _ M _ q (Stp.alloc st hp) (st.alloc hp) (den_new st hp (d1.rep j.toNat))⟩
end
end DL

set_option Elab.async false
set_option linter.all false
set_option maxRecDepth 100000
set_option maxHeartbeats 1000000
namespace DL
open PySem PySem.Spec PyProof.Rows L2

/-! ### statements -/
structure DEnds where
  nx : Env → Store → Prop
  rt : D → Store → Prop
  bk : Env → Store → Prop := fun _ _ => False
  ct : Env → Store → Prop := fun _ _ => False
  ex : Ex → Env → Store → Prop
abbrev MS := DEnds → Env → Store → Prop
structure EndsOk (K : KC) (Y : En) (W : WX) (M : Addr → Prop) (H : Hp) (E : DEnds) (D : Ends) : Prop where
  nx : ∀ env' S' σ' M' H', E.nx env' S' → Rep K Y M' σ' H' env' S' → Imm M H M' H' → D.nx σ' H'
  rt : ∀ d S' v M' H', E.rt d S' → Stp Y.M Y.H Y.S M' H' S' → StOk K M' H' S' → Den K M' H' d v → D.rt v H'
  bk : ∀ env' S' σ' M' H', E.bk env' S' → Rep K Y M' σ' H' env' S' → Imm M H M' H' → D.bk σ' H'
  ct : ∀ env' S' σ' M' H', E.ct env' S' → Rep K Y M' σ' H' env' S' → Imm M H M' H' → D.ct σ' H'
  ex : ∀ c env' S' σ' M' H', E.ex c env' S' → Rep K Y M' σ' H' env' S' → W (.ref (K.cl c)) none σ' H'
theorem EndsOk.later {K : KC} {Y : En} {W : WX} {M M' : Addr → Prop} {H H' : Hp} {E : DEnds} {D : Ends} (h : EndsOk K Y W M H E D) (i : Imm M H M' H') : EndsOk K Y W M' H' E D :=
  ⟨fun _ _ _ _ _ q r j => h.nx _ _ _ _ _ q r (i.trans j), h.rt, fun _ _ _ _ _ q r j => h.bk _ _ _ _ _ q r (i.trans j), fun _ _ _ _ _ q r j => h.ct _ _ _ _ _ q r (i.trans j), h.ex⟩
def tDS (K : KC) (Y : En) (W : WX) (m : MS) : TS := fun D σ H => ∃ M env S E, Rep K Y M σ H env S ∧ m E env S ∧ EndsOk K Y W M H E D
structure DS (X : Cx) (Y : En) (W : WX) (x : Stmt) (m : MS) : Prop where
  run : PS X x (tDS (kc X Y) Y W m)
structure DSs (X : Cx) (Y : En) (W : WX) (x : List Stmt) (m : MS) : Prop where
  run : PSs X x (tDS (kc X Y) Y W m)
/-- the exceptions of an expression, from a statement's ends -/
theorem EndsOk.rx {K : KC} {Y : En} {W : WX} {M : Addr → Prop} {σ : L2.St} {H : Hp} {env : Env} {S : Store} {E : DEnds} {D : Ends} (h : EndsOk K Y W M H E D) (r : Rep K Y M σ H env S) : RX K W M σ H S (fun c S' => E.ex c env S') :=
  fun c S' M' H' q p o => h.ex c env S' σ M' H' q (r.step p o)
section
variable {X : Cx} {Y : En} {W : WX}
def mNext : MS := fun E env S => E.nx env S
def mSeq (m n : MS) : MS := fun E env S => m { E with nx := fun env' S' => n E env' S' } env S
theorem SsNil : DSs X Y W [] mNext := ⟨weakSs pss_nil fun D σ H ⟨M, env, S, E, r, q, e⟩ => e.nx _ _ _ _ _ q r Imm.refl⟩
theorem SsCons {s : Stmt} {ss : List Stmt} {m n : MS} (h1 : DS X Y W s m) (h2 : DSs X Y W ss n) : DSs X Y W (s :: ss) (mSeq m n) :=
  ⟨weakSs (pss_cons h1.run h2.run) fun D σ H ⟨M, env, S, E, r, q, e⟩ => ⟨M, env, S, _, r, q, ⟨fun env' S' σ' M' H' q' r' i => ⟨M', env', S', E, r', q', e.later i⟩, e.rt, e.bk, e.ct, e.ex⟩⟩⟩
theorem SsOne {s : Stmt} {m : MS} (h1 : DS X Y W s m) : DSs X Y W [s] m := ⟨pss_one h1.run⟩
theorem SPass {pos : Pos} : DS X Y W (.Pass pos) mNext := ⟨weakS ps_pass fun D σ H ⟨M, env, S, E, r, q, e⟩ => e.nx _ _ _ _ _ q r Imm.refl⟩
def mBrk : MS := fun E env S => E.bk env S
def mCnt : MS := fun E env S => E.ct env S
theorem SBrk {pos : Pos} : DS X Y W (.Break pos) mBrk := ⟨weakS ps_break fun D σ H ⟨M, env, S, E, r, q, e⟩ => e.bk _ _ _ _ _ q r Imm.refl⟩
theorem SCnt {pos : Pos} : DS X Y W (.Continue pos) mCnt := ⟨weakS ps_continue fun D σ H ⟨M, env, S, E, r, q, e⟩ => e.ct _ _ _ _ _ q r Imm.refl⟩
theorem SDoc {x j pos pos'} : DS X Y W (.Expr (.Constant (.str x) j pos) pos') mNext := ⟨weakS ps_doc fun D σ H ⟨M, env, S, E, r, q, e⟩ => e.nx _ _ _ _ _ q r Imm.refl⟩
def mDrop (m : ME) : MS := fun E env S => m env S (fun _ S1 => E.nx env S1) (fun c S1 => E.ex c env S1)
theorem SExpr {e : Expr} {m : ME} {pos : Pos} (he : DE X Y W e m) (hs : swapsWith e none pos.line X.env = pure false := by rfl) : DS X Y W (.Expr e pos) (mDrop m) :=
  ⟨weakS (ps_expr he.run hs) fun D σ H ⟨M, env, S, E, r, q, e⟩ => ⟨M, env, S, _, _, r, q, e.rx r, fun d S1 v M1 H1 q1 p1 o1 _ => e.nx _ _ _ _ _ q1 (r.step p1 o1) p1.imm⟩⟩
def mRet (m : ME) : MS := fun E env S => m env S E.rt (fun c S1 => E.ex c env S1)
theorem SRet {e : Expr} {m : ME} {pos : Pos} (he : DE X Y W e m) : DS X Y W (.Return (some e) pos) (mRet m) :=
  ⟨weakS (ps_ret he.run) fun D σ H ⟨M, env, S, E, r, q, e⟩ => ⟨M, env, S, _, _, r, q, e.rx r, fun d S1 v M1 H1 q1 p1 o1 dn => e.rt d S1 v M1 H1 q1 (r.stp.trans p1) o1 dn⟩⟩
def mRetN : MS := fun E env S => E.rt .non S
theorem SRetN {pos : Pos} : DS X Y W (.Return none pos) mRetN :=
  ⟨weakS ps_retN fun D σ H ⟨M, env, S, E, r, q, e⟩ => e.rt _ _ _ M H q r.stp r.st (by simp [Den])⟩
def mIfS (t : MT) (m n : MS) : MS := fun E env S => t env S (fun b S1 => if b = true then m E env S1 else n E env S1) (fun c S1 => E.ex c env S1)
theorem SIf {c : Expr} {a b : List Stmt} {t : MT} {m n : MS} {pos : Pos} (hc : DT X Y W c t) (ha : DSs X Y W a m) (hb : DSs X Y W b n) : DS X Y W (.If c a b pos) (mIfS t m n) :=
  ⟨weakS (ps_if hc.run ha.run hb.run) fun D σ H ⟨M, env, S, E, r, q, e⟩ => ⟨M, env, S, _, _, r, q, e.rx r, fun b S1 M1 H1 q1 p1 o1 => by
    cases b with
    | true =>
      simp only [if_true] at q1 ⊢
      exact ⟨M1, env, S1, E, r.step p1 o1, q1, e.later p1.imm⟩
    | false =>
      simp only [Bool.false_eq_true, if_false] at q1 ⊢
      exact ⟨M1, env, S1, E, r.step p1 o1, q1, e.later p1.imm⟩⟩⟩
/-! ### stores to names -/
theorem Rep.set {K : KC} {M : Addr → Prop} {σ : L2.St} {H : Hp} {env : Env} {S : Store} {d : D} {v : V} (r : Rep K Y M σ H env S) (dn : Den K M H d v) (i : Nat) : Rep K Y M (σ.set i (some v)) H (env.set i (.val d)) S where
  len := by rw [List.length_set, List.length_set]; exact r.len
  val := fun j e h => by
    by_cases hj : i = j
    · subst hj
      by_cases hl : i < env.length
      · rw [List.getElem?_set_self hl] at h
        cases h
        exact ⟨v, by rw [List.getElem?_set_self (by rw [r.len]; exact hl)], dn⟩
      · rw [List.getElem?_eq_none (by rw [List.length_set]; omega)] at h; cases h
    · rw [List.getElem?_set_ne hj] at h
      obtain ⟨u, e1, d1⟩ := r.val j e h
      exact ⟨u, by rw [List.getElem?_set_ne hj]; exact e1, d1⟩
  own := fun j l h => by
    by_cases hj : i = j
    · subst hj
      by_cases hl : i < env.length
      · rw [List.getElem?_set_self hl] at h; cases h
      · rw [List.getElem?_eq_none (by rw [List.length_set]; omega)] at h; cases h
    · rw [List.getElem?_set_ne hj] at h
      obtain ⟨p, vs, e1, q⟩ := r.own j l h
      exact ⟨p, vs, by rw [List.getElem?_set_ne hj]; exact e1, q⟩
  inj := fun j j' l l' p h h' e e' => by
    have ne : ∀ {j : Nat} {l : List D}, (env.set i (.val d))[j]? = some (.own l) → i ≠ j := fun {j l} h hj => by
      subst hj
      by_cases hl : i < env.length
      · rw [List.getElem?_set_self hl] at h; cases h
      · rw [List.getElem?_eq_none (by rw [List.length_set]; omega)] at h; cases h
    rw [List.getElem?_set_ne (ne h)] at e
    rw [List.getElem?_set_ne (ne h')] at e'
    have n1 := ne h
    have n2 := ne h'
    rw [List.getElem?_set_ne n1] at h
    rw [List.getElem?_set_ne n2] at h'
    exact r.inj j j' l l' p h h' e e'
  st := r.st
  stp := r.stp
theorem Rep.setOwn {K : KC} {M M' : Addr → Prop} {σ : L2.St} {H H' : Hp} {env : Env} {S S' : Store} {l : List D} {p : Addr} {vs : List V} (r : Rep K Y M σ H env S) (pp : Stp M H S M' H' S') (oo : StOk K M' H' S')
    (hp : H p = none) (e0 : H' p = some (.lst vs)) (hm : M' p) (hs : S' p = none) (dn : DenL K M' H' l vs) (i : Nat) : Rep K Y M' (σ.set i (some (.ref p))) H' (env.set i (.own l)) S' := by
  have r2 := r.step pp oo
  have hY : Y.H p = none := back_free r.stp.there hp
  have old : ∀ (j : Nat) q, (∃ l', env[j]? = some (.own l')) → σ[j]? = some (some (.ref q)) → q ≠ p := fun j q ⟨l', h⟩ e z => by
    obtain ⟨q', vs', e1, h1, _⟩ := r.own j l' h
    rw [e] at e1
    have e2 : q = q' := by injection (Option.some.inj (Option.some.inj e1))
    rw [← e2, z, hp] at h1; cases h1
  refine ⟨by rw [List.length_set, List.length_set]; exact r.len, fun j e h => ?_, fun j l' h => ?_, fun j j' l1 l2 q h h' e e' => ?_, oo, r2.stp⟩
  · by_cases hj : i = j
    · subst hj
      by_cases hl : i < env.length
      · rw [List.getElem?_set_self hl] at h; cases h
      · rw [List.getElem?_eq_none (by rw [List.length_set]; omega)] at h; cases h
    · rw [List.getElem?_set_ne hj] at h
      obtain ⟨u, e1, d1⟩ := r2.val j e h
      exact ⟨u, by rw [List.getElem?_set_ne hj]; exact e1, d1⟩
  · by_cases hj : i = j
    · subst hj
      by_cases hl : i < env.length
      · rw [List.getElem?_set_self hl] at h
        cases h
        exact ⟨p, vs, by rw [List.getElem?_set_self (by rw [r.len]; exact hl)], e0, hm, hs, hY, dn⟩
      · rw [List.getElem?_eq_none (by rw [List.length_set]; omega)] at h; cases h
    · rw [List.getElem?_set_ne hj] at h
      obtain ⟨q, ws, e1, q1⟩ := r2.own j l' h
      exact ⟨q, ws, by rw [List.getElem?_set_ne hj]; exact e1, q1⟩
  · by_cases hj : i = j
    · by_cases hj' : i = j'
      · exact hj.symm.trans hj'
      · subst hj
        by_cases hl : i < env.length
        · rw [List.getElem?_set_self (by rw [r.len]; exact hl)] at e
          rw [List.getElem?_set_ne hj'] at h' e'
          have : q = p := by injection (Option.some.inj (Option.some.inj e)) with z; exact z.symm
          exact absurd this (old j' q ⟨l2, h'⟩ e')
        · rw [List.getElem?_eq_none (by rw [List.length_set]; omega)] at h; cases h
    · by_cases hj' : i = j'
      · subst hj'
        by_cases hl : i < env.length
        · rw [List.getElem?_set_self (by rw [r.len]; exact hl)] at e'
          rw [List.getElem?_set_ne hj] at h e
          have : q = p := by injection (Option.some.inj (Option.some.inj e')) with z; exact z.symm
          exact absurd this (old j q ⟨l1, h⟩ e)
        · rw [List.getElem?_eq_none (by rw [List.length_set]; omega)] at h'; cases h'
      · rw [List.getElem?_set_ne hj] at h e
        rw [List.getElem?_set_ne hj'] at h' e'
        exact r.inj j j' l1 l2 q h h' e e'
def mSet (i : Nat) (m : ME) : MS := fun E env S => m env S (fun d S1 => E.nx (env.set i (.val d)) S1) (fun c S1 => E.ex c env S1)
theorem SSet (i : Nat) {x : Str} {e : Expr} {m : ME} {pos pos' : Pos} (he : DE X Y W e m) (hN : X.N.Nodup) (hi : X.N[i]? = some x := by rfl) (hx : Loc X.env.scope x := by first | exact Or.inl rfl | exact Or.inr rfl)
    (hs : swapsWith e (some (.Name x pos')) pos.line X.env = pure false := by rfl) (hf : X.fn x = true ∨ X.env.scope.names.lookup x = some .local := by first | exact .inl rfl | exact .inr rfl) :
    DS X Y W (.Assign [.Name x pos'] e pos) (mSet i m) :=
  ⟨weakS (ps_set hN hi hx he.run hs hf) fun D σ H ⟨M, env, S, E, r, q, e⟩ => ⟨M, env, S, _, _, r, q, e.rx r, fun d S1 v M1 H1 q1 p1 o1 dn => e.nx _ _ _ _ _ q1 ((r.step p1 o1).set dn i) p1.imm⟩⟩
/-- x = [..], the list x's own -/
def mSetO (i : Nat) (m : ME) : MS := fun E env S => m env S (fun d S1 => ∃ l, d = .lst l ∧ E.nx (env.set i (.own l)) S1) (fun c S1 => E.ex c env S1)
theorem SSetO (i : Nat) {x : Str} {e : Expr} {m : ME} {pos pos' : Pos} (he : DF X Y W e m) (hN : X.N.Nodup) (hi : X.N[i]? = some x := by rfl) (hx : Loc X.env.scope x := by first | exact Or.inl rfl | exact Or.inr rfl)
    (hs : swapsWith e (some (.Name x pos')) pos.line X.env = pure false := by rfl) (hf : X.fn x = true ∨ X.env.scope.names.lookup x = some .local := by first | exact .inl rfl | exact .inr rfl) :
    DS X Y W (.Assign [.Name x pos'] e pos) (mSetO i m) :=
  ⟨weakS (ps_set hN hi hx he.run hs hf) fun D σ H ⟨M, env, S, E, r, q, e⟩ => ⟨M, env, S, _, _, r, q, e.rx r, fun d S1 M1 H1 l p vs ⟨l', e1, q1⟩ e2 p1 o1 hp h1 m1 s1 dn => by
    rw [e2] at e1; cases e1
    exact e.nx _ _ _ _ _ q1 (r.setOwn p1 o1 hp h1 m1 s1 dn i) p1.imm⟩⟩
/-- from here on the list stays as it is -/
theorem Rep.freeze {K : KC} {M : Addr → Prop} {σ : L2.St} {H : Hp} {env : Env} {S : Store} {l : List D} {i : Nat} (r : Rep K Y M σ H env S) (h : env[i]? = some (.own l)) : ∃ M', Rep K Y M' σ H (env.set i (.val (.lst l))) S ∧ Imm M H M' H := by
  obtain ⟨p, vs, e1, h1, m1, s1, y1, dn⟩ := r.own i l h
  have hl : i < env.length := (List.getElem?_eq_some_iff.mp h).1
  have im : Imm M H (andN M p) H := fun a o nm e => ⟨fun z => nm z.1, e⟩
  refine ⟨andN M p, ⟨by rw [List.length_set]; exact r.len, fun j d hj => ?_, fun j l' hj => ?_, fun j j' l1 l2 q hj hj' e e' => ?_, ⟨fun a c e => ?_, fun a m => r.st.has a m.1⟩, ⟨r.stp.imm.trans im, fun a m e => ?_, r.stp.there⟩⟩, im⟩
  · by_cases hij : i = j
    · subst hij
      rw [List.getElem?_set_self hl] at hj
      cases hj
      refine ⟨.ref p, e1, ?_⟩
      simp only [Den]
      exact ⟨p, vs, rfl, h1, fun z => z.2 rfl, DenL.mono im _ _ dn⟩
    · rw [List.getElem?_set_ne hij] at hj
      obtain ⟨v, e2, d2⟩ := r.val j d hj
      exact ⟨v, e2, Den.mono im d v d2⟩
  · by_cases hij : i = j
    · subst hij
      rw [List.getElem?_set_self hl] at hj; cases hj
    · rw [List.getElem?_set_ne hij] at hj
      obtain ⟨q, ws, e2, g1, g2, g3, g4, g5⟩ := r.own j l' hj
      refine ⟨q, ws, e2, g1, ⟨g2, fun z => hij ?_⟩, g3, g4, DenL.mono im _ _ g5⟩
      subst z
      exact r.inj i j l l' q h hj e1 e2
  · by_cases hij : i = j
    · subst hij
      rw [List.getElem?_set_self hl] at hj; cases hj
    · by_cases hij' : i = j'
      · subst hij'
        rw [List.getElem?_set_self hl] at hj'; cases hj'
      · rw [List.getElem?_set_ne hij] at hj
        rw [List.getElem?_set_ne hij'] at hj'
        exact r.inj j j' l1 l2 q hj hj' e e'
  · obtain ⟨m, hc⟩ := r.st.cell a c e
    exact ⟨⟨m, fun z => by rw [z, s1] at e; cases e⟩, hc.mono im rfl⟩
  · obtain ⟨f1, f2, f3⟩ := r.stp.fr a m e
    refine ⟨⟨f1, fun z => ?_⟩, f2, f3⟩
    rw [z] at f2
    rw [f2, y1] at h1; cases h1
/-- a ghost ahead of a block: slot i's own list is frozen -/
def mFrz (i : Nat) (m : MS) : MS := fun E env S => ∃ l, env[i]? = some (.own l) ∧ m E (env.set i (.val (.lst l))) S
theorem SsFrz (i : Nat) {ss : List Stmt} {m : MS} (h : DSs X Y W ss m) : DSs X Y W ss (mFrz i m) :=
  ⟨weakSs h.run fun D σ H ⟨M, env, S, E, r, ⟨l, e1, q⟩, e⟩ => by
    obtain ⟨M', r', im⟩ := r.freeze e1
    exact ⟨M', _, S, E, r', q, e.later im⟩⟩
/-! ### x.append(e), x an own list -/
theorem Rep.upOwn {K : KC} {M : Addr → Prop} {σ : L2.St} {H : Hp} {env : Env} {S : Store} {l l' : List D} {i : Nat} {p : Addr} {ws : List V} (r : Rep K Y M σ H env S) (h : env[i]? = some (.own l)) (e1 : σ[i]? = some (some (.ref p))) (m1 : M p) (s1 : S p = none) (y1 : Y.H p = none)
    (dn : DenL K M H l' ws) : Rep K Y M σ (upd H p (.lst ws)) (env.set i (.own l')) S ∧ Imm M H M (upd H p (.lst ws)) := by
  have hl : i < env.length := (List.getElem?_eq_some_iff.mp h).1
  have im : Imm M H M (upd H p (.lst ws)) := fun a o nm e => ⟨nm, by rw [upd_ne (fun z => nm (by rw [z]; exact m1))]; exact e⟩
  refine ⟨⟨by rw [List.length_set]; exact r.len, fun j d hj => ?_, fun j k hj => ?_, fun j j' l1 l2 q hj hj' e e' => ?_, ⟨fun a c e => ?_, fun a m => ?_⟩, ⟨r.stp.imm.trans im, fun a m e => ?_, fun a o e => ?_⟩⟩, im⟩
  · by_cases hij : i = j
    · subst hij; rw [List.getElem?_set_self hl] at hj; cases hj
    · rw [List.getElem?_set_ne hij] at hj
      obtain ⟨v, e2, d2⟩ := r.val j d hj
      exact ⟨v, e2, Den.mono im d v d2⟩
  · by_cases hij : i = j
    · subst hij
      rw [List.getElem?_set_self hl] at hj
      cases hj
      exact ⟨p, ws, e1, upd_same, m1, s1, y1, DenL.mono im _ _ dn⟩
    · rw [List.getElem?_set_ne hij] at hj
      obtain ⟨q, us, e2, g1, g2, g3, g4, g5⟩ := r.own j k hj
      refine ⟨q, us, e2, ?_, g2, g3, g4, DenL.mono im _ _ g5⟩
      rw [upd_ne fun z => hij ?_]
      · exact g1
      · subst z
        exact r.inj i j l k q h hj e1 e2
  · have fix : ∀ {j : Nat} {l1 : List D}, (env.set i (.own l'))[j]? = some (.own l1) → ∃ l2, env[j]? = some (.own l2) := fun {j l1} hj => by
      by_cases hij : i = j
      · subst hij; exact ⟨l, h⟩
      · rw [List.getElem?_set_ne hij] at hj; exact ⟨l1, hj⟩
    obtain ⟨a1, b1⟩ := fix hj
    obtain ⟨a2, b2⟩ := fix hj'
    exact r.inj j j' a1 a2 q b1 b2 e e'
  · obtain ⟨m, hc⟩ := r.st.cell a c e
    exact ⟨m, hc.mono im (upd_ne fun z => by rw [z, s1] at e; cases e)⟩
  · by_cases ha : a = p
    · subst ha; exact ⟨_, upd_same⟩
    · rw [upd_ne ha]; exact r.st.has a m
  · obtain ⟨f1, f2, f3⟩ := r.stp.fr a m e
    refine ⟨f1, ?_, f3⟩
    rw [upd_ne fun z => ?_]
    · exact f2
    · subst z
      obtain ⟨o, ho⟩ := r.st.has a m1
      rw [f2, y1] at ho; cases ho
  · by_cases ha : a = p
    · subst ha; exact ⟨_, upd_same⟩
    · rw [upd_ne ha]; exact r.stp.there a o e
/-- x.append(e) -/
def mApp (i : Nat) (m : ME) : MS := fun E env S => ∃ l, env[i]? = some (.own l) ∧ m env S (fun d S1 => l.length < sizeLine ∧ E.nx (env.set i (.own (l ++ [d]))) S1) (fun c S1 => E.ex c env S1)
theorem SApp (i : Nat) {x : Str} {e : Expr} {m : ME} {pos np apos cpos : Pos} (he : DE X Y W e m) (hN : X.N[i]? = some x := by rfl) (hv : Vis X.env.scope x := by first | exact Or.inl rfl | exact Or.inr (Or.inl rfl) | exact Or.inr (Or.inr rfl))
    (hd : (x == ("__debug__" : Str)) = false := by decide) (hcd : (x == ("__classdict__" : Str)) = false := by decide) (hst : starEach [e] X.env = (false, eval e X.env) :: starEach [] X.env := by rfl) (hpl : (backTo cpos (starEach [] X.env)).any (·.1) = false := by rfl)
    (hbase : attributeBase (.Name x np) "append" X.env (eval (.Name x np) X.env) = eval (.Name x np) X.env := by rfl) (hline : (apos.endLine == cpos.line) = true := by rfl)
    (hfew : ((backTo cpos (starEach [e] X.env)).all (fun x => !x.1) && (backToKw cpos (keywordEach [] X.env)).all (fun x => x.1.isSome) && decide ([e].length + ([] : List Keyword).length + (if ([] : List Keyword).isEmpty then 0 else 1) < 30)) = true := by rfl)
    (hs : swapsWith (.Call (.Attribute (.Name x np) "append" apos) [e] [] cpos) none pos.line X.env = pure false := by rfl) :
    DS X Y W (.Expr (.Call (.Attribute (.Name x np) "append" apos) [e] [] cpos) pos) (mApp i m) :=
  ⟨weakS (ps_expr (pe_bm PySem.F.plainAttrs_list PySem.F.slot_list_append PySem.F.type_list_append mt_append (pe_var hN hv hd hcd) (pa_cons he.run pa_nil hst) hbase hfew hline hst hpl) hs) fun D σ H ⟨M, env, S, E, r, ⟨l, h, q⟩, ee⟩ => by
    obtain ⟨p, vs, e1, h1, m1, s1, y1, dn⟩ := r.own i l h
    refine ⟨.ref p, e1, .inl ⟨rfl, vs, .inl (.inl h1)⟩, M, env, S, _, _, r, q, ee.rx r, fun d S1 v M1 H1 ⟨hz, q1⟩ p1 o1 dd => ?_⟩
    obtain ⟨f1, f2, f3⟩ := p1.fr p m1 s1
    have r1 := r.step p1 o1
    refine ⟨p, vs, v, rfl, rfl, f2.trans h1, by rw [← dn.length]; exact hz, ?_⟩
    obtain ⟨r2, im⟩ := r1.upOwn h e1 f1 f3 y1 (ws := vs ++ [v]) ((DenL.mono p1.imm _ _ dn).append (show DenL (kc X Y) M1 H1 [d] [v] by simp only [DenL, and_true]; exact dd))
    exact ee.nx _ _ _ _ _ q1 r2 (p1.imm.trans im)⟩
end
end DL

set_option Elab.async false
set_option linter.all false
set_option maxRecDepth 100000
set_option maxHeartbeats 1000000
namespace DL
open PySem PySem.Spec PyProof.Rows L2

/-! ### targets: a name, a tuple of targets -/
abbrev GD := D → Env → (Env → Prop) → Prop
/-- what a target's store leaves: the slots but vs -/
def Only2 (vs : List Nat) (σ σ' : L2.St) : Prop := σ'.length = σ.length ∧ ∀ j, j ∉ vs → σ'[j]? = σ[j]?
def tDG (K : KC) (Y : En) (vs : List Nat) (g : GD) : TG := fun v σ H Q => ∃ M env S d k, Rep K Y M σ H env S ∧ Den K M H d v ∧ g d env k ∧ ∀ env' σ', k env' → Rep K Y M σ' H env' S → Only2 vs σ σ' → Q σ' H
structure DG (X : Cx) (Y : En) (x : Expr) (vs : List Nat) (g : GD) : Prop where
  run : PG X x (tDG (kc X Y) Y vs g)
theorem weakG {X : Cx} {x : Expr} {t t' : TG} (h : PG X x t) (i : ∀ v σ H Q, t' v σ H Q → t v σ H Q) : PG X x t' := ⟨fun pins s σ H v u Q I r q => h.run pins s σ H v u Q I r (i v σ H Q q)⟩
theorem weakGs {X : Cx} {x : List Expr} {t t' : TGs} (h : PGs X x t) (i : ∀ v σ H Q, t' v σ H Q → t v σ H Q) : PGs X x t' := ⟨fun pins s σ H v u Q I r q => h.run pins s σ H v u Q I r (i v σ H Q q)⟩
abbrev GDs := List D → Env → (Env → Prop) → Prop
def tDGs (K : KC) (Y : En) (vs : List Nat) (g : GDs) : TGs := fun us σ H Q => ∃ M env S ds k, Rep K Y M σ H env S ∧ DenL K M H ds us ∧ g ds env k ∧ ∀ env' σ', k env' → Rep K Y M σ' H env' S → Only2 vs σ σ' → Q σ' H
structure DGs (X : Cx) (Y : En) (x : List Expr) (vs : List Nat) (g : GDs) : Prop where
  run : PGs X x (tDGs (kc X Y) Y vs g)
section
variable {X : Cx} {Y : En} {W : WX}
def gNm (i : Nat) : GD := fun d env k => k (env.set i (.val d))
def gTp (g : GDs) : GD := fun d env k => match d with
  | .tup l => g l env k
  | _ => False
def gLs (g : GDs) : GD := fun d env k => match d with
  | .lst l => g l env k
  | _ => False
def gN0 : GDs := fun ds env k => ds = [] ∧ k env
def gC1 (g : GD) (h : GDs) : GDs := fun ds env k => match ds with
  | d :: r => g d env fun env' => h r env' k
  | [] => False
/-- the number of targets -/
theorem GNm (i : Nat) {x : Str} {pos : Pos} (hN : X.N.Nodup) (hi : X.N[i]? = some x := by rfl) (hx : Loc X.env.scope x := by first | exact Or.inl rfl | exact Or.inr rfl) (hf : X.fn x = true ∨ X.env.scope.names.lookup x = some .local := by first | exact .inl rfl | exact .inr rfl) :
    DG X Y (.Name x pos) [i] (gNm i) := ⟨weakG (pg_name hN hi hx hf) fun v σ H Q ⟨M, env, S, d, k, r, dn, q, fin⟩ => fin _ _ q (r.set dn i) ⟨List.length_set, fun j hj => List.getElem?_set_ne (fun z => hj (by rw [z]; exact List.mem_singleton_self _))⟩⟩
theorem GN0 : DGs X Y [] [] gN0 := ⟨weakGs pgs_nil fun us σ H Q ⟨M, env, S, ds, k, r, dn, ⟨e, q⟩, fin⟩ => by
  subst e
  cases us with
  | nil => exact ⟨rfl, fin _ _ q r ⟨rfl, fun _ _ => rfl⟩⟩
  | cons _ _ => simp [DenL] at dn⟩
theorem Only2.trans {vs ws : List Nat} {a b c : L2.St} (h : Only2 vs a b) (h' : Only2 ws b c) : Only2 (vs ++ ws) a c :=
  ⟨h'.1.trans h.1, fun j hj => (h'.2 j fun z => hj (List.mem_append_right _ z)).trans (h.2 j fun z => hj (List.mem_append_left _ z))⟩
theorem GC1 {e : Expr} {es : List Expr} {vs ws : List Nat} {g : GD} {h : GDs} (he : DG X Y e vs g) (hes : DGs X Y es ws h) (hs : (assignEach (e :: es) X.env).map (·.2) = assign e X.env :: (assignEach es X.env).map (·.2) := by rfl) : DGs X Y (e :: es) (vs ++ ws) (gC1 g h) :=
  ⟨weakGs (pgs_cons he.run hes.run hs) fun us σ H Q ⟨M, env, S, ds, k, r, dn, q, fin⟩ => by
    cases ds with
    | nil => exact q.elim
    | cons d ds =>
      cases us with
      | nil => simp [DenL] at dn
      | cons v us =>
        simp only [DenL] at dn
        refine ⟨v, us, rfl, M, env, S, d, _, r, dn.1, q, fun env1 σ1 q1 r1 o1 => ?_⟩
        exact ⟨M, env1, S, ds, k, r1, dn.2, q1, fun env2 σ2 q2 r2 o2 => fin env2 σ2 q2 r2 (o1.trans o2)⟩⟩
theorem gC1_len {g : GD} {h : GDs} {n : Nat} (hn : ∀ ds env k, h ds env k → ds.length = n) : ∀ ds env k, gC1 g h ds env k → (∀ d env k, g d env k → ∃ e, k e) → ds.length = n + 1 := fun ds env k q mono => by
  cases ds with
  | nil => exact q.elim
  | cons d ds =>
    obtain ⟨e, q'⟩ := mono _ _ _ q
    simp [hn _ _ _ q']
theorem GTp {es : List Expr} {vs : List Nat} {g : GDs} {k0 n : Nat} {pos : Pos} (hc : X.calm = true) (h : DGs X Y es vs g) (hlen : ∀ ds env k, g ds env k → ds.length = n)
    (hn : (assignEach es X.env).length = n := by rfl) (hst : (assignEach es X.env).findIdx? (·.1) = none := by rfl) : DG X Y (.Tuple es k0 pos) vs (gTp g) :=
  ⟨weakG (pg_tup hc h.run hn hst) fun v σ H Q ⟨M, env, S, d, k, r, dn, q, fin⟩ => by
    cases d <;> simp only [gTp] at q
    obtain ⟨a, us, rfl, sq, dl⟩ := Den.tup dn
    exact ⟨a, us, rfl, sq, by rw [← dl.length]; exact hlen _ _ _ q, M, env, S, _, k, r, dl, q, fin⟩⟩
theorem GLs {es : List Expr} {vs : List Nat} {g : GDs} {k0 n : Nat} {pos : Pos} (hc : X.calm = true) (h : DGs X Y es vs g) (hlen : ∀ ds env k, g ds env k → ds.length = n)
    (hn : (assignEach es X.env).length = n := by rfl) (hst : (assignEach es X.env).findIdx? (·.1) = none := by rfl) : DG X Y (.Tuple es k0 pos) vs (gLs g) :=
  ⟨weakG (pg_lst hc h.run hn hst) fun v σ H Q ⟨M, env, S, d, k, r, dn, q, fin⟩ => by
    cases d <;> simp only [gLs] at q
    simp only [Den] at dn
    obtain ⟨a, us, rfl, sq, _, dl⟩ := dn
    exact ⟨a, us, rfl, SqL.of sq, by rw [← dl.length]; exact hlen _ _ _ q, M, env, S, _, k, r, dl, q, fin⟩⟩
/-- names only: how many -/
theorem len0 : ∀ ds env k, gN0 ds env k → ds.length = 0 := fun ds env k ⟨e, _⟩ => by rw [e]; rfl
theorem lenNm {i : Nat} {h : GDs} {n : Nat} (hn : ∀ ds env k, h ds env k → ds.length = n) : ∀ ds env k, gC1 (gNm i) h ds env k → ds.length = n + 1 := fun ds env k q => by
  cases ds with
  | nil => exact q.elim
  | cons d ds => simp [hn _ _ _ q]
theorem lenTp {g h : GDs} {n : Nat} (hg : ∀ ds env k, g ds env k → ∃ e, k e) (hn : ∀ ds env k, h ds env k → ds.length = n) : ∀ ds env k, gC1 (gTp g) h ds env k → ds.length = n + 1 := fun ds env k q => by
  cases ds with
  | nil => exact q.elim
  | cons d ds =>
    simp only [gC1] at q
    cases d <;> simp only [gTp] at q
    obtain ⟨e, q'⟩ := hg _ _ _ q
    simp [hn _ _ _ q']
/-- target = value -/
def mAsg (g : GD) (m : ME) : MS := fun E env S => m env S (fun d S1 => g d env fun env' => E.nx env' S1) (fun c S1 => E.ex c env S1)
theorem SAsg {tg e : Expr} {vs : List Nat} {g : GD} {m : ME} {pos : Pos} (he : DE X Y W e m) (hg : DG X Y tg vs g) (hs : swapsWithSole [tg] e pos.line X.env = pure false := by rfl) (hw : swappedStores [tg] e X.env = pure none := by rfl)
    (h1 : (assignEach [tg] X.env).map (·.2) = [assign tg X.env] := by rfl) : DS X Y W (.Assign [tg] e pos) (mAsg g m) :=
  ⟨weakS (ps_asg he.run hg.run hs hw h1) fun D σ H ⟨M, env, S, E, r, q, ee⟩ => ⟨M, env, S, _, _, r, q, ee.rx r, fun d S1 v M1 H1 q1 p1 o1 dn =>
    ⟨M1, env, S1, d, _, r.step p1 o1, dn, q1, fun env' σ' q2 r2 _ => ee.nx _ _ _ _ _ q2 r2 p1.imm⟩⟩⟩
/-- a, b = x, y: names, no pair is made -/
def mPar (i j : Nat) (m : MA) : MS := fun E env S => m env S (fun ds S1 => match ds with
  | [d, e] => E.nx ((env.set i (.val d)).set j (.val e)) S1
  | _ => False) (fun c S1 => E.ex c env S1)
theorem SPar (i j : Nat) {x y : Str} {a b : Expr} {m : MA} {px py pt pos : Pos} {kt k2 : Nat} {pt2 : Pos} (hc : X.calm = true) (ha : DA X Y W [a, b] m) (hN : X.N.Nodup) (hi : X.N[i]? = some x := by rfl) (hj : X.N[j]? = some y := by rfl) (hij : i ≠ j := by decide)
    (hx : X.env.scope.names.lookup x = some .local := by rfl) (hy : X.env.scope.names.lookup y = some .local := by rfl)
    (hw : swappedStores [.Tuple [.Name x px, .Name y py] kt pt] (.Tuple [a, b] k2 pt2) X.env = pure (some [x, y]) := by rfl)
    (hs : swapsWithSole [.Tuple [.Name x px, .Name y py] kt pt] (.Tuple [a, b] k2 pt2) pos.line X.env = pure false := by rfl) :
    DS X Y W (.Assign [.Tuple [.Name x px, .Name y py] kt pt] (.Tuple [a, b] k2 pt2) pos) (mPar i j m) :=
  ⟨weakS (ps_par hc hN hi hj hij hx hy ha.run hw hs) fun D σ H ⟨M, env, S, E, r, q, ee⟩ => ⟨M, env, S, _, _, r, q, ee.rx r, fun ds S1 vs M1 H1 q1 p1 o1 dn => by
    match ds, q1 with
    | [d, e], q1 =>
      match vs, dn with
      | [v, w], dn =>
        simp only [DenL, and_true] at dn
        exact ⟨v, w, rfl, ee.nx _ _ _ _ _ q1 (((r.step p1 o1).set dn.1 i).set dn.2 j) p1.imm⟩⟩⟩

/-! ### what is walked -/
structure ItD (K : KC) (M1 : Addr → Prop) (H1 : Hp) (J : It) (P : Store → Prop) (ds : List D) : Prop where
  stop : ∀ M H (S : Store), Imm M1 H1 M H → StOk K M H S → P S → J.stop ds.length H
  go : ∀ M H (S : Store) (i : Nat) d, Imm M1 H1 M H → StOk K M H S → P S → ds[i]? = some d → J.go i H ∧ ∀ x H', J.yld i H x H' → Stp M H S M H' S ∧ StOk K M H' S ∧ Den K M H' d x
abbrev MI := Env → Store → (List D → (Store → Prop) → Store → Prop) → RE → Prop
def tDI (K : KC) (Y : En) (W : WX) (m : MI) : TI := fun σ H R => ∃ M env S Qd Rd, Rep K Y M σ H env S ∧ m env S Qd Rd ∧ RX K W M σ H S Rd ∧
  ∀ ds P S' M' H' J, Qd ds P S' → Stp M H S M' H' S' → StOk K M' H' S' → ItD K M' H' J P ds → R J H'
structure DI (X : Cx) (Y : En) (W : WX) (tg x : Expr) (m : MI) : Prop where
  run : PI X tg x (tDI (kc X Y) Y W m)
theorem weakI {X : Cx} {tg x : Expr} {t t' : TI} (h : PI X tg x t) (i : ∀ σ H R, t' σ H R → t σ H R) : PI X tg x t' := ⟨fun pins s σ H Q I q => h.run pins s σ H Q I (i σ H Q q)⟩
/-- a list (also one in the store, as long as it stays the same), a tuple -/
def itOf (S : Store) : D → Option (List D)
  | .lst l => some l
  | .fz l => some l
  | .obj a => match S a with
    | some (.lst l) => some l
    | _ => none
  | _ => none
def mIt (m : ME) : MI := fun env S Q R => m env S (fun d S1 => ∃ l, itOf S1 d = some l ∧ Q l (fun S' => itOf S' d = some l) S1) R
def mItT (m : ME) : MI := fun env S Q R => m env S (fun d S1 => ∃ l, d = .tup l ∧ Q l (fun _ => True) S1) R
theorem itd_list {K : KC} {M1 : Addr → Prop} {H1 : Hp} {P : Store → Prop} {a : Addr} {l : List D} (st : ∀ M H S, Imm M1 H1 M H → StOk K M H S → P S → ∃ vs, SqL K.K H a vs ∧ DenL K M H l vs) : ItD K M1 H1 (Itl K.K a) P l where
  stop := fun M H S i o p => let ⟨vs, h, dn⟩ := st M H S i o p; ⟨vs, h, by rw [dn.length]; exact Nat.le_refl _⟩
  go := fun M H S i d im so p e => by
    obtain ⟨vs, h, dn⟩ := st M H S im so p
    obtain ⟨v, e1, d1⟩ := dn.getD e
    refine ⟨⟨vs, v, h, e1⟩, fun x H' ⟨eh, hx⟩ => ?_⟩
    subst eh
    have ex := hx vs h
    rw [e1] at ex
    cases ex
    exact ⟨Stp.refl, so, d1⟩
theorem itd_tup {K : KC} {M1 : Addr → Prop} {H1 : Hp} {a : Addr} {vs : List V} {l : List D} (st : ∀ M H, Imm M1 H1 M H → SqT K.K H a vs) (dn : DenL K M1 H1 l vs) : ItD K M1 H1 (Itt K.K a) (fun _ => True) l where
  stop := fun M H S i _ _ => ⟨vs, st M H i, by rw [dn.length]; exact Nat.le_refl _⟩
  go := fun M H S i d im so _ e => by
    obtain ⟨v, e1, d1⟩ := dn.getD e
    refine ⟨⟨vs, v, st M H im, e1⟩, fun x H' ⟨eh, hx⟩ => ?_⟩
    subst eh
    have ex := hx vs (st M _ im)
    rw [e1] at ex
    cases ex
    exact ⟨Stp.refl, so, Den.mono im d v d1⟩
theorem IList {tg e : Expr} {m : ME} (he : DE X Y W e m) : DI X Y W tg e (mIt m) :=
  ⟨weakI (pi_list he.run) fun σ H R ⟨M, env, S, Qd, Rd, r, q, rx, k⟩ => ⟨M, env, S, _, Rd, r, q, rx, fun d S1 v M1 H1 ⟨l, e1, q1⟩ p1 o1 dn => by
    cases d with
    | lst l' =>
      cases e1
      simp only [Den] at dn
      obtain ⟨a, vs, rfl, h1, nm, dl⟩ := dn
      exact ⟨a, rfl, ⟨vs, SqL.of h1⟩, k l _ S1 M1 H1 _ q1 p1 o1 (itd_list fun M H S i o _ => ⟨vs, SqL.of (i a _ nm h1).2, DenL.mono i _ _ dl⟩)⟩
    | fz l' =>
      cases e1
      simp only [Den] at dn
      obtain ⟨a, vs, rfl, h1, dl⟩ := dn
      rcases h1 with ⟨⟨o, h1⟩, nm⟩ | h1
      · exact ⟨a, rfl, ⟨vs, .inl (.inr ⟨o, h1⟩)⟩, k l _ S1 M1 H1 _ q1 p1 o1 (itd_list fun M H S i _ _ => ⟨vs, .inl (.inr ⟨o, (i a _ nm h1).2⟩), DenL.mono i _ _ dl⟩)⟩
      · exact ⟨a, rfl, ⟨vs, h1 H1⟩, k l _ S1 M1 H1 _ q1 p1 o1 (itd_list fun M H S i _ _ => ⟨vs, h1 H, DenL.mono i _ _ dl⟩)⟩
    | obj a =>
      simp only [Den] at dn
      subst dn
      have at_ : ∀ M H S, StOk (kc X Y) M H S → itOf S (.obj a) = some l → ∃ vs, SqL X.K H a vs ∧ DenL (kc X Y) M H l vs := fun M H S o e => by
        simp only [itOf] at e
        cases hs : S a with
        | none => rw [hs] at e; cases e
        | some c =>
          rw [hs] at e
          cases c <;> simp only [reduceCtorEq, Option.some.injEq] at e
          subst e
          obtain ⟨_, vs, h1, h2⟩ := o.cell a _ hs
          exact ⟨vs, SqL.of h1, h2⟩
      obtain ⟨vs, h1, _⟩ := at_ M1 H1 S1 o1 e1
      exact ⟨a, rfl, ⟨vs, h1⟩, k l _ S1 M1 H1 _ q1 p1 o1 (itd_list fun M H S _ o p => at_ M H S o p)⟩
    | _ => cases e1⟩⟩
theorem ITup {tg e : Expr} {m : ME} (he : DE X Y W e m) : DI X Y W tg e (mItT m) :=
  ⟨weakI (pi_tup he.run) fun σ H R ⟨M, env, S, Qd, Rd, r, q, rx, k⟩ => ⟨M, env, S, _, Rd, r, q, rx, fun d S1 v M1 H1 ⟨l, e1, q1⟩ p1 o1 dn => by
    subst e1
    simp only [Den] at dn
    obtain ⟨a, vs, rfl, h1, dl⟩ := dn
    rcases h1 with ⟨h1, nm⟩ | h1
    · exact ⟨a, rfl, ⟨vs, .inl (.inl h1)⟩, k l _ S1 M1 H1 _ q1 p1 o1 (itd_tup (fun M H i => .inl (.inl (i a _ nm h1).2)) dl)⟩
    · exact ⟨a, rfl, ⟨vs, h1 H1⟩, k l _ S1 M1 H1 _ q1 p1 o1 (itd_tup (fun M H _ => h1 H) dl)⟩⟩⟩
/-- range(n), range(a, b) -/
def rngD (lo : Int) (n : Nat) : List D := (List.range n).map fun (i : Nat) => D.int (lo + (i : Int))
theorem itd_range {K : KC} {M1 : Addr → Prop} {H1 : Hp} (lo : Int) (n : Nat) : ItD K M1 H1 (Itr lo n) (fun _ => True) (rngD lo n) where
  stop := fun M H S i _ _ => by
    show n ≤ (rngD lo n).length
    simp [rngD]
  go := fun M H S i d im so _ e => by
    unfold rngD at e
    rw [List.getElem?_map] at e
    by_cases hi : i < n
    · rw [List.getElem?_range hi] at e
      cases e
      exact ⟨hi, fun x H' ⟨eh, ex⟩ => by subst eh; subst ex; exact ⟨Stp.refl, so, by simp [Den]⟩⟩
    · rw [List.getElem?_eq_none (by simpa using hi)] at e; cases e
def mRng1 (m : MA) : MI := fun env S Q R => m env S (fun ds S1 => ∃ n : Int, ds = [.int n] ∧ -(2 ^ 62) ≤ n ∧ n < 2 ^ 62 ∧ Q (rngD 0 n.toNat) (fun _ => True) S1) R
def mRng2 (m : MA) : MI := fun env S Q R => m env S (fun ds S1 => ∃ a b : Int, ds = [.int a, .int b] ∧ (-(2 ^ 62) ≤ a ∧ a < 2 ^ 62 ∧ -(2 ^ 62) ≤ b ∧ b < 2 ^ 62) ∧ Q (rngD a (b - a).toNat) (fun _ => True) S1) R
theorem IRng1 {tg a : Expr} {m : MA} {p pos : Pos} (hg : Gl X "range") (hm : X.mg "range" = none) (ha : DA X Y W [a] m) (hs : starEach [a] X.env = [(false, eval a X.env)] := by rfl) : DI X Y W tg (.Call (.Name "range" p) [a] [] pos) (mRng1 m) :=
  ⟨weakI (pi_range1 hg hm ha.run hs) fun σ H R ⟨M, env, S, Qd, Rd, r, q, rx, k⟩ => ⟨M, env, S, _, Rd, r, q, rx, fun ds S1 vs M1 H1 ⟨n, e1, b1, b2, q1⟩ p1 o1 dn => by
    subst e1
    match vs, dn with
    | [v], dn =>
      simp only [DenL, Den, and_true] at dn
      exact ⟨n, by rw [dn], b1, b2, k _ _ S1 M1 H1 _ q1 p1 o1 (itd_range 0 n.toNat)⟩⟩⟩
theorem IRng2 {tg a b : Expr} {m : MA} {p pos : Pos} (hg : Gl X "range") (hm : X.mg "range" = none) (ha : DA X Y W [a, b] m) (hs : starEach [a, b] X.env = [(false, eval a X.env), (false, eval b X.env)] := by rfl) (hs2 : starEach [b] X.env = [(false, eval b X.env)] := by rfl) : DI X Y W tg (.Call (.Name "range" p) [a, b] [] pos) (mRng2 m) :=
  ⟨weakI (pi_range2 hg hm ha.run hs hs2) fun σ H R ⟨M, env, S, Qd, Rd, r, q, rx, k⟩ => ⟨M, env, S, _, Rd, r, q, rx, fun ds S1 vs M1 H1 ⟨a, b, e1, bb, q1⟩ p1 o1 dn => by
    subst e1
    match vs, dn with
    | [v, w], dn =>
      simp only [DenL, Den, and_true] at dn
      exact ⟨a, b, by rw [dn.1, dn.2], bb, k _ _ S1 M1 H1 _ q1 p1 o1 (itd_range a (b - a).toNat)⟩⟩⟩

/-! ### for -/
def wFor (g : GD) (body : MS) (E : DEnds) (P : Store → Prop) : List D → Env → Store → Prop
  | [], env, S => P S ∧ E.nx env S
  | d :: ds, env, S => P S ∧ g d env fun env1 => body { E with nx := wFor g body E P ds, ct := wFor g body E P ds, bk := E.nx } env1 S
def mFor (mi : MI) (g : GD) (body : MS) : MS := fun E env S => mi env S (fun ds P S1 => wFor g body E P ds env S1) (fun c S1 => E.ex c env S1)
theorem SFor {tg iter : Expr} {body : List Stmt} {vs : List Nat} {mi : MI} {g : GD} {mb : MS} {pos : Pos} (hp : PassesOwn (model X.prog X.w) X.A X.env X.xe) (hc : X.calm = true) (hi : DI X Y W tg iter mi) (hg : DG X Y tg vs g) (hb : DSs X Y W body mb)
    (hs : ∀ x, foldedSetIterable iter X.env x = pure x := by intro _; rfl) : DS X Y W (.For tg iter body [] pos) (mFor mi g mb) :=
  ⟨weakS (ps_for hp hc hi.run hg.run hb.run hs) fun D σ H ⟨M, env, S, E, r, q, ee⟩ => ⟨M, env, S, _, _, r, q, ee.rx r, fun ds P S1 M1 H1 J q1 p1 o1 it => by
    refine ⟨fun i m σ2 H2 => ∃ M2 env2 S2, m = ds.length - i ∧ i ≤ ds.length ∧ Rep (kc X Y) Y M2 σ2 H2 env2 S2 ∧ wFor g mb E P (ds.drop i) env2 S2 ∧ Imm M1 H1 M2 H2,
      ⟨_, M1, env, S1, rfl, Nat.zero_le _, r.step p1 o1, q1, Imm.refl⟩, ?_⟩
    rintro i m σ2 H2 ⟨M2, env2, S2, rfl, hi, r2, q2, im⟩
    have e2 := ee.later (p1.imm.trans im)
    by_cases hlt : i < ds.length
    · have hd : ds.drop i = ds[i] :: ds.drop (i + 1) := List.drop_eq_getElem_cons hlt
      rw [hd] at q2
      obtain ⟨hP, q2⟩ := q2
      obtain ⟨go, yld⟩ := it.go M2 H2 S2 i ds[i] im r2.st hP (List.getElem?_eq_getElem hlt)
      refine .inr ⟨go, fun σ' H' => ∃ M3 env3 S3, Rep (kc X Y) Y M3 σ' H' env3 S3 ∧ wFor g mb E P (ds.drop (i + 1)) env3 S3 ∧ Imm M1 H1 M3 H', fun σ' H' ⟨M3, env3, S3, r3, q3, im3⟩ => ⟨ds.length - (i + 1), by omega, M3, env3, S3, rfl, hlt, r3, q3, im3⟩, fun x H' hy => ?_⟩
      obtain ⟨p3, o3, d3⟩ := yld x H' hy
      refine ⟨M2, env2, S2, ds[i], _, r2.step p3 o3, d3, q2, fun env4 σ4 q4 r4 _ => ?_⟩
      refine ⟨M2, env4, S2, _, r4, q4, ?_⟩
      have e3 := e2.later p3.imm
      exact ⟨fun env' S' σ' M' H'' q' r' im' => ⟨M', env', S', r', q', (im.trans p3.imm).trans im'⟩, e3.rt, fun env' S' σ' M' H'' q' r' im' => e3.nx _ _ _ _ _ q' r' im',
        fun env' S' σ' M' H'' q' r' im' => ⟨M', env', S', r', q', (im.trans p3.imm).trans im'⟩, e3.ex⟩
    · have e : i = ds.length := by omega
      subst e
      rw [List.drop_length] at q2
      exact .inl ⟨it.stop M2 H2 S2 im r2.st q2.1, e2.nx _ _ _ _ _ q2.2 r2 Imm.refl⟩⟩⟩
/-! ### while -/
def mWhile (c : MT) (body : MS) : MS := fun E env S => ∃ I : Nat → Env → Store → Prop, (∃ n, I n env S) ∧ ∀ n env S, I n env S →
  c env S (fun b S1 => if b = true then body { E with nx := fun env' S' => ∃ n', n' < n ∧ I n' env' S', ct := fun env' S' => ∃ n', n' < n ∧ I n' env' S', bk := E.nx } env S1 else E.nx env S1) (fun x S1 => E.ex x env S1)
theorem SWhile {c : Expr} {body : List Stmt} {mc : MT} {mb : MS} {pos : Pos} (hp : PassesOwn (model X.prog X.w) X.A X.env X.xe) (hc : DT X Y W c mc) (hb : DSs X Y W body mb) : DS X Y W (.While c body [] pos) (mWhile mc mb) :=
  ⟨weakS (ps_while hp hc.run hb.run) fun D σ H ⟨M, env, S, E, r, ⟨I, ⟨n0, i0⟩, turn⟩, ee⟩ => by
    refine ⟨fun n σ2 H2 => ∃ M2 env2 S2, Rep (kc X Y) Y M2 σ2 H2 env2 S2 ∧ I n env2 S2 ∧ Imm M H M2 H2, ⟨n0, M, env, S, r, i0, Imm.refl⟩, ?_⟩
    rintro n σ2 H2 ⟨M2, env2, S2, r2, i2, im⟩
    have e2 := ee.later im
    refine ⟨M2, env2, S2, _, _, r2, turn n env2 S2 i2, e2.rx r2, fun b S3 M3 H3 q3 p3 o3 => ?_⟩
    cases b with
    | false =>
      simp only [Bool.false_eq_true, if_false] at q3 ⊢
      exact e2.nx _ _ _ _ _ q3 (r2.step p3 o3) p3.imm
    | true =>
      simp only [if_true] at q3 ⊢
      have e3 := e2.later p3.imm
      refine ⟨fun σ' H' => ∃ M4 env4 S4 n', n' < n ∧ Rep (kc X Y) Y M4 σ' H' env4 S4 ∧ I n' env4 S4 ∧ Imm M H M4 H', fun σ' H' ⟨M4, env4, S4, n', hn, r4, i4, im4⟩ => ⟨n', hn, M4, env4, S4, r4, i4, im4⟩, M3, env2, S3, _, r2.step p3 o3, q3, ?_⟩
      exact ⟨fun env' S' σ' M' H'' ⟨n', hn, q'⟩ r' im' => ⟨M', env', S', n', hn, r', q', (im.trans p3.imm).trans im'⟩, e3.rt, fun env' S' σ' M' H'' q' r' im' => e3.nx _ _ _ _ _ q' r' im',
        fun env' S' σ' M' H'' ⟨n', hn, q'⟩ r' im' => ⟨M', env', S', n', hn, r', q', (im.trans p3.imm).trans im'⟩, e3.ex⟩⟩
end
end DL

set_option Elab.async false
set_option linter.all false
set_option maxRecDepth 100000
set_option maxHeartbeats 1000000
namespace DL
open PySem PySem.Spec PyProof.Rows L2
/-! ### list comprehensions -/
def wipeE (env : Env) : List Nat → Env
  | [] => env
  | v :: vs => (wipeE env vs).set v .no
theorem Rep.unset {K : KC} {Y : En} {M : Addr → Prop} {σ : L2.St} {H : Hp} {env : Env} {S : Store} (r : Rep K Y M σ H env S) (i : Nat) (x : Option V) : Rep K Y M (σ.set i x) H (env.set i .no) S := by
  have ne : ∀ {j : Nat} {s : Sl}, s ≠ .no → (env.set i .no)[j]? = some s → i ≠ j := fun {j s} hs h hj => by
    subst hj
    by_cases hl : i < env.length
    · rw [List.getElem?_set_self hl] at h; cases h; exact hs rfl
    · rw [List.getElem?_eq_none (by rw [List.length_set]; omega)] at h; cases h
  refine ⟨by rw [List.length_set, List.length_set]; exact r.len, fun j d h => ?_, fun j l h => ?_, fun j j' l l' p h h' e e' => ?_, r.st, r.stp⟩
  · have n := ne (by intro z; cases z) h
    rw [List.getElem?_set_ne n] at h ⊢
    exact r.val j d h
  · have n := ne (by intro z; cases z) h
    rw [List.getElem?_set_ne n] at h ⊢
    exact r.own j l h
  · have n := ne (by intro z; cases z) h
    have n' := ne (by intro z; cases z) h'
    rw [List.getElem?_set_ne n] at h e
    rw [List.getElem?_set_ne n'] at h' e'
    exact r.inj j j' l l' p h h' e e'
theorem Rep.wipe {K : KC} {Y : En} {M : Addr → Prop} {σ : L2.St} {H : Hp} {env : Env} {S : Store} (r : Rep K Y M σ H env S) : ∀ vs : List Nat, Rep K Y M (L2.wipe σ vs) H (wipeE env vs) S
  | [] => r
  | v :: vs => (r.wipe vs).unset v none
theorem wipe_get (σ : L2.St) (j : Nat) : ∀ vs : List Nat, (wipe σ vs)[j]? = if j ∈ vs then (if j < σ.length then some none else none) else σ[j]?
  | [] => by simp [wipe]
  | v :: vs => by
    unfold wipe
    by_cases h : v = j
    · subst h
      rw [if_pos List.mem_cons_self]
      by_cases hl : v < σ.length
      · rw [if_pos hl, List.getElem?_set_self (by rw [wipe_length]; exact hl)]
      · rw [if_neg hl, List.getElem?_eq_none (by rw [List.length_set, wipe_length]; omega)]
    · rw [List.getElem?_set_ne h, wipe_get σ j vs]
      by_cases hm : j ∈ vs
      · rw [if_pos hm, if_pos (List.mem_cons_of_mem _ hm)]
      · rw [if_neg hm, if_neg (fun z => (List.mem_cons.mp z).elim (fun e => h e.symm) hm)]
theorem wipe_same {σ σ' : L2.St} {vs : List Nat} (hl : σ'.length = σ.length) (h : ∀ j, j ∉ vs → σ'[j]? = σ[j]?) : wipe σ' vs = wipe σ vs := by
  refine List.ext_getElem? fun j => ?_
  rw [wipe_get, wipe_get, hl]
  by_cases hm : j ∈ vs
  · rw [if_pos hm, if_pos hm]
  · rw [if_neg hm, if_neg hm]; exact h j hm
abbrev W0 : WX := fun _ _ _ _ => False
theorem rx0 {K : KC} {M : Addr → Prop} {σ : L2.St} {H : Hp} {S : Store} : RX K W0 M σ H S (fun _ _ => False) := fun _ _ _ _ h _ _ => h.elim
structure DTs (X : Cx) (Y : En) (W : WX) (ifs : List Expr) (m : MT) : Prop where
  run : PTs X ifs (tDT (kc X Y) Y W m)
def mYes : MT := fun _ S Q _ => Q true S
def wComp (g : GD) (t : MT) (e : ME) (P : Store → Prop) : List D → List D → Env → Store → (List D → Store → Prop) → Prop
  | [], acc, _, S, Q => P S ∧ Q acc S
  | d :: ds, acc, env, S, Q => P S ∧ g d env fun env1 => t env1 S (fun b S1 => if b = true then e env1 S1 (fun y S2 => acc.length < sizeLine ∧ wComp g t e P ds (acc ++ [y]) env S2 Q) (fun _ _ => False) else wComp g t e P ds acc env S1 Q) (fun _ _ => False)
def mComp (vs : List Nat) (mi : MI) (g : GD) (t : MT) (e : ME) : ME := fun env S Q R => mi env S (fun ds P S1 => wComp g t e P ds [] (wipeE env vs) S1 fun acc S' => Q (.lst acc) S') R
theorem Stp.mut {K : KC} {M1 M2 : Addr → Prop} {H1 H2 : Hp} {S1 S2 : Store} {p : Addr} {o : HO} (q : Stp M1 H1 S1 M2 H2 S2) (st : StOk K M1 H1 S1) (hp : H1 p = none) (m : M2 p) : Stp M1 H1 S1 M2 (upd H2 p o) S2 where
  imm := fun a u nm e => let ⟨h1, h2⟩ := q.imm a u nm e; ⟨h1, by rw [upd_ne (ne_of_none e hp)]; exact h2⟩
  fr := fun a ma e => let ⟨f1, f2, f3⟩ := q.fr a ma e; ⟨f1, by rw [upd_ne (fun z => st.free hp (by rw [← z]; exact ma))]; exact f2, f3⟩
  there := fun a u e => by
    by_cases ha : a = p
    · subst ha; exact ⟨_, upd_same⟩
    · rw [upd_ne ha]; exact q.there a u e
theorem StOk.mut {K : KC} {M : Addr → Prop} {H : Hp} {S : Store} {p : Addr} {o : HO} (st : StOk K M H S) (m : M p) (hs : S p = none) : StOk K M (upd H p o) S where
  cell := fun a c e => by
    obtain ⟨ma, hc⟩ := st.cell a c e
    exact ⟨ma, hc.mono (fun b u nm e => ⟨nm, by rw [upd_ne (fun z => nm (by rw [z]; exact m))]; exact e⟩) (upd_ne fun z => by rw [z, hs] at e; cases e)⟩
  has := fun a ma => by
    by_cases ha : a = p
    · subst ha; exact ⟨_, upd_same⟩
    · rw [upd_ne ha]; exact st.has a ma
section
variable {X : Cx} {Y : En} {W : WX}
theorem TsNil : DTs X Y W [] mYes := ⟨⟨fun pins s σ H Q I ⟨M, env, S, Qd, Rd, r, q, rx, k⟩ => pts_nil.run pins s σ H Q I (k true S M H q Stp.refl r.st)⟩⟩
theorem TsOne {c : Expr} {m : MT} (h : DT X Y W c m) : DTs X Y W [c] m := ⟨pts_one h.run⟩
theorem comp_i {vs vg : List Nat} {mi : MI} {g : GD} {t : MT} {e : ME} (hv : ∀ j ∈ vg, j ∈ vs) {K : KC} (σ : L2.St) (H : Hp) (Q : VK) (h : ∃ M env S Qd Rd, Rep K Y M σ H env S ∧ mComp vs mi g t e env S Qd Rd ∧ RX K W M σ H S Rd ∧
    ∀ d S' M' H' l p ws, Qd d S' → d = .lst l → Stp M H S M' H' S' → StOk K M' H' S' → H p = none → H' p = some (.lst ws) → M' p → S' p = none → DenL K M' H' l ws → Q (.ref p) H') :
    tLc (tDI K Y W mi) (tDG K Y vg g) (tDT K Y W0 t) (tD K Y W0 e) vs σ H Q := by
  obtain ⟨M, env, S, Qd, Rd, r, q, rx, k⟩ := h
  refine ⟨M, env, S, _, Rd, r, q, rx, fun ds P S1 M1 H1 J q1 p1 o1 it => fun L hL => ?_⟩
  -- the new list
  have st0 : StOk K (orP M1 L) (upd H1 L (.lst [])) S1 := (fresh_fin (l := []) (vs := []) o1 hL (by simp [DenL])).2.1
  have p0 : Stp M1 H1 S1 (orP M1 L) (upd H1 L (.lst [])) S1 := (fresh_fin (l := []) (vs := []) o1 hL (by simp [DenL])).1
  have hS : S1 L = none := o1.freeS hL
  refine ⟨fun i m H2 => ∃ M2 S2 acc us, m = ds.length - i ∧ i ≤ ds.length ∧ Stp M1 H1 S1 M2 H2 S2 ∧ StOk K M2 H2 S2 ∧ M2 L ∧ S2 L = none ∧ H2 L = some (.lst us) ∧ DenL K M2 H2 acc us ∧ wComp g t e P (ds.drop i) acc (wipeE env vs) S2 fun acc S' => Qd (.lst acc) S',
    ⟨_, orP M1 L, S1, [], [], rfl, Nat.zero_le _, p0, st0, .inr rfl, hS, upd_same, by simp [DenL], q1⟩, ?_⟩
  rintro i m H2 ⟨M2, S2, acc, us, rfl, hi, p2, o2, m2, s2, h2, d2, q2⟩
  have r2 : Rep K Y M2 σ H2 env S2 := r.step (p1.trans p2) o2
  by_cases hlt : i < ds.length
  · have hd : ds.drop i = ds[i] :: ds.drop (i + 1) := List.drop_eq_getElem_cons hlt
    rw [hd] at q2
    obtain ⟨hP, q2⟩ := q2
    obtain ⟨go, yld⟩ := it.go M2 H2 S2 i ds[i] p2.imm o2 hP (List.getElem?_eq_getElem hlt)
    refine .inr ⟨go, fun H3 => ∃ M3 S3 acc us, Stp M1 H1 S1 M3 H3 S3 ∧ StOk K M3 H3 S3 ∧ M3 L ∧ S3 L = none ∧ H3 L = some (.lst us) ∧ DenL K M3 H3 acc us ∧ wComp g t e P (ds.drop (i + 1)) acc (wipeE env vs) S3 fun acc S' => Qd (.lst acc) S',
      fun H3 ⟨M3, S3, acc, us, z⟩ => ⟨_, Nat.sub_lt_sub_left hlt (Nat.lt_succ_self i), M3, S3, acc, us, rfl, hlt, z⟩, fun x H3 hy => ?_⟩
    obtain ⟨p3, o3, d3⟩ := yld x H3 hy
    have r3 := (r2.step p3 o3).wipe vs
    refine ⟨M2, wipeE env vs, S2, ds[i], _, r3, d3, q2, fun env4 σ4 q4 r4 o4 => ⟨wipe_same (o4.1.trans (wipe_length σ vs)) fun j hj => (o4.2 j fun z => hj (hv j z)).trans (by rw [wipe_get, if_neg hj]), ?_⟩⟩
    refine ⟨M2, env4, S2, _, _, r4, q4, rx0, fun b S5 M5 H5 q5 p5 o5 => ?_⟩
    have p25 : Stp M1 H1 S1 M5 H5 S5 := (p2.trans p3).trans p5
    obtain ⟨f1, f2, f3⟩ := (p3.trans p5).fr L m2 s2
    cases b with
    | false =>
      simp only [Bool.false_eq_true, if_false] at q5 ⊢
      exact ⟨M5, S5, acc, us, p25, o5, f1, f3, f2.trans h2, DenL.mono (p3.trans p5).imm _ _ d2, q5⟩
    | true =>
      simp only [if_true] at q5 ⊢
      refine ⟨M5, env4, S5, _, _, r4.step p5 o5, q5, rx0, fun y S6 v M6 H6 ⟨hz, q6⟩ p6 o6 d6 => ?_⟩
      obtain ⟨g1, g2, g3⟩ := p6.fr L f1 f3
      have hu : H6 L = some (.lst us) := g2.trans (f2.trans h2)
      have i6 : Imm M6 H6 M6 (upd H6 L (.lst (us ++ [v]))) := fun b u nm e => ⟨nm, by rw [upd_ne (fun z => nm (by rw [z]; exact g1))]; exact e⟩
      have dn : DenL K M6 H6 (acc ++ [y]) (us ++ [v]) := (DenL.mono (p3.trans (p5.trans p6)).imm _ _ d2).append (by simp only [DenL, and_true]; exact d6)
      refine ⟨us, hu, by rw [← d2.length]; exact hz, M6, S6, acc ++ [y], us ++ [v], (p25.trans p6).mut o1 hL g1, o6.mut g1 g3, g1, g3, upd_same, DenL.mono i6 _ _ dn, q6⟩
  · have e : i = ds.length := by omega
    subst e
    rw [List.drop_length] at q2
    exact .inl ⟨it.stop M2 H2 S2 p2.imm o2 q2.1, k _ S2 M2 H2 acc L us q2.2 rfl (p1.trans p2) o2 (back_free p1.there hL) h2 m2 s2 d2⟩
theorem FComp {elt tg iter : Expr} {ifs : List Expr} {scope : Scope} {own : List (Str × Nat)} {pos : Pos} {vg : List Nat} {mi : MI} {g : GD} {t : MT} {e : ME} (hc : X.calm = true) (hN : X.N.Nodup) (hi : DI X Y W tg iter mi) (ok : BlkOk X.N X.env.scope scope own) (hv : ∀ j ∈ vg, j ∈ own.map (·.2))
    (hg : ∀ (s : Shared) (H : Hp) (C : Addr) (cl : List (Str × Addr)) (fp : List Addr), DG (X.blk s H scope (compEnvC scope cl C X.env) fp) Y tg vg g) (ht : ∀ (s : Shared) (H : Hp) (C : Addr) (cl : List (Str × Addr)) (fp : List Addr), DTs (X.blk s H scope (compEnvC scope cl C X.env) fp) Y W0 ifs t)
    (he : ∀ (s : Shared) (H : Hp) (C : Addr) (cl : List (Str × Addr)) (fp : List Addr), DE (X.blk s H scope (compEnvC scope cl C X.env) fp) Y W0 elt e) (hs : ∀ x, foldedSetIterable iter X.env x = pure x := by intro _; rfl) :
    DF X Y W (.ListComp elt [⟨tg, iter, ifs, 0⟩] scope pos) (mComp (own.map (·.2)) mi g t e) :=
  ⟨weakE (pe_lc hc hN hi.run ok (fun s H C cl fp => show PG _ _ (tDG (kc X Y) Y vg g) from (hg s H C cl fp).run) (fun s H C cl fp => show PTs _ _ (tDT (kc X Y) Y W0 t) from (ht s H C cl fp).run) (fun s H C cl fp => show PE _ _ (tD (kc X Y) Y W0 e) from (he s H C cl fp).run) hs) fun σ H Q h => comp_i hv σ H Q h⟩
/-- what every way of a fresh list's maker gives -/
def IsL (m : ME) : Prop := ∀ env S Q R, m env S Q R → m env S (fun d S' => (∃ l, d = .lst l) ∧ Q d S') R
theorem DF.d {x : Expr} {m : ME} (h : DF X Y W x m) : DE X Y W x (fun env S Q R => m env S (fun d S' => (∃ l, d = .lst l) ∧ Q d S') R) :=
  ⟨weakE h.run fun σ H Q ⟨M, env, S, Qd, Rd, r, q, rx, k⟩ => ⟨M, env, S, _, Rd, r, q, rx, fun d S' M' H' l p vs ⟨_, q1⟩ e1 p1 o1 hp e m1 hs dn => by
    subst e1
    obtain ⟨p2, o2, d2⟩ := freeze_fin r.st hp p1 o1 e hs dn
    exact k _ S' _ _ H' q1 p2 o2 d2⟩⟩
theorem DComp {elt tg iter : Expr} {ifs : List Expr} {scope : Scope} {own : List (Str × Nat)} {pos : Pos} {vg : List Nat} {mi : MI} {g : GD} {t : MT} {e : ME} (hc : X.calm = true) (hN : X.N.Nodup) (hi : DI X Y W tg iter mi) (ok : BlkOk X.N X.env.scope scope own) (hv : ∀ j ∈ vg, j ∈ own.map (·.2))
    (hg : ∀ (s : Shared) (H : Hp) (C : Addr) (cl : List (Str × Addr)) (fp : List Addr), DG (X.blk s H scope (compEnvC scope cl C X.env) fp) Y tg vg g) (ht : ∀ (s : Shared) (H : Hp) (C : Addr) (cl : List (Str × Addr)) (fp : List Addr), DTs (X.blk s H scope (compEnvC scope cl C X.env) fp) Y W0 ifs t)
    (he : ∀ (s : Shared) (H : Hp) (C : Addr) (cl : List (Str × Addr)) (fp : List Addr), DE (X.blk s H scope (compEnvC scope cl C X.env) fp) Y W0 elt e) (hs : ∀ x, foldedSetIterable iter X.env x = pure x := by intro _; rfl) :
    DE X Y W (.ListComp elt [⟨tg, iter, ifs, 0⟩] scope pos) (mComp (own.map (·.2)) mi g t e) :=
  ⟨weakE (pe_lc hc hN hi.run ok (fun s H C cl fp => show PG _ _ (tDG (kc X Y) Y vg g) from (hg s H C cl fp).run) (fun s H C cl fp => show PTs _ _ (tDT (kc X Y) Y W0 t) from (ht s H C cl fp).run) (fun s H C cl fp => show PE _ _ (tD (kc X Y) Y W0 e) from (he s H C cl fp).run) hs) fun σ H Q ⟨M, env, S, Qd, Rd, r, q, rx, k⟩ =>
    comp_i hv σ H Q ⟨M, env, S, Qd, Rd, r, q, rx, fun d S' M' H' l p vs q1 e1 p1 o1 hp e m1 hs dn => by
      subst e1
      obtain ⟨p2, o2, d2⟩ := freeze_fin r.st hp p1 o1 e hs dn
      exact k _ S' _ _ H' q1 p2 o2 d2⟩⟩
/-- y = [.. for ..], y's slot i; kept as it is, or y's own -/
def mCompS (i : Nat) (m : ME) : MS := mSet i m
theorem SComp (i : Nat) {y : Str} {py : Pos} {elt tg iter : Expr} {ifs : List Expr} {scope : Scope} {own : List (Str × Nat)} {pos spos : Pos} {vg : List Nat} {mi : MI} {g : GD} {t : MT} {e : ME} (hc : X.calm = true) (hN : X.N.Nodup) (hi : DI X Y W tg iter mi) (ok : BlkOk X.N X.env.scope scope own) (hv : ∀ j ∈ vg, j ∈ own.map (·.2))
    (hg : ∀ (s : Shared) (H : Hp) (C : Addr) (cl : List (Str × Addr)) (fp : List Addr), DG (X.blk s H scope (compEnvC scope cl C X.env) fp) Y tg vg g) (ht : ∀ (s : Shared) (H : Hp) (C : Addr) (cl : List (Str × Addr)) (fp : List Addr), DTs (X.blk s H scope (compEnvC scope cl C X.env) fp) Y W0 ifs t)
    (he : ∀ (s : Shared) (H : Hp) (C : Addr) (cl : List (Str × Addr)) (fp : List Addr), DE (X.blk s H scope (compEnvC scope cl C X.env) fp) Y W0 elt e)
    (hy : X.N[i]? = some y := by rfl) (hyl : X.env.scope.names.lookup y = some .local := by rfl) (hsw : swapsWith (.ListComp elt [⟨tg, iter, ifs, 0⟩] scope pos) (some (.Name y py)) spos.line X.env = pure true := by exact sw_true rfl rfl rfl (by decide +kernel)) (hs : ∀ x, foldedSetIterable iter X.env x = pure x := by intro _; rfl) :
    DS X Y W (.Assign [.Name y py] (.ListComp elt [⟨tg, iter, ifs, 0⟩] scope pos) spos) (mSet i (mComp (own.map (·.2)) mi g t e)) :=
  ⟨weakS (ps_setLc hc hN hy hyl hsw hi.run ok (fun s H C cl fp => show PG _ _ (tDG (kc X Y) Y vg g) from (hg s H C cl fp).run) (fun s H C cl fp => show PTs _ _ (tDT (kc X Y) Y W0 t) from (ht s H C cl fp).run) (fun s H C cl fp => show PE _ _ (tD (kc X Y) Y W0 e) from (he s H C cl fp).run) hs) fun D σ H ⟨M, env, S, E, r, q, ee⟩ =>
    comp_i hv σ H _ ⟨M, env, S, _, _, r, q, ee.rx r, fun d S' M' H' l p vs q1 e1 p1 o1 hp e m1 hs dn => by
      subst e1
      obtain ⟨p2, o2, d2⟩ := freeze_fin r.st hp p1 o1 e hs dn
      exact ee.nx _ _ _ _ _ q1 ((r.step p2 o2).set d2 i) p2.imm⟩⟩
theorem SCompO (i : Nat) {y : Str} {py : Pos} {elt tg iter : Expr} {ifs : List Expr} {scope : Scope} {own : List (Str × Nat)} {pos spos : Pos} {vg : List Nat} {mi : MI} {g : GD} {t : MT} {e : ME} (hc : X.calm = true) (hN : X.N.Nodup) (hi : DI X Y W tg iter mi) (ok : BlkOk X.N X.env.scope scope own) (hv : ∀ j ∈ vg, j ∈ own.map (·.2))
    (hg : ∀ (s : Shared) (H : Hp) (C : Addr) (cl : List (Str × Addr)) (fp : List Addr), DG (X.blk s H scope (compEnvC scope cl C X.env) fp) Y tg vg g) (ht : ∀ (s : Shared) (H : Hp) (C : Addr) (cl : List (Str × Addr)) (fp : List Addr), DTs (X.blk s H scope (compEnvC scope cl C X.env) fp) Y W0 ifs t)
    (he : ∀ (s : Shared) (H : Hp) (C : Addr) (cl : List (Str × Addr)) (fp : List Addr), DE (X.blk s H scope (compEnvC scope cl C X.env) fp) Y W0 elt e)
    (hy : X.N[i]? = some y := by rfl) (hyl : X.env.scope.names.lookup y = some .local := by rfl) (hsw : swapsWith (.ListComp elt [⟨tg, iter, ifs, 0⟩] scope pos) (some (.Name y py)) spos.line X.env = pure true := by exact sw_true rfl rfl rfl (by decide +kernel)) (hs : ∀ x, foldedSetIterable iter X.env x = pure x := by intro _; rfl) :
    DS X Y W (.Assign [.Name y py] (.ListComp elt [⟨tg, iter, ifs, 0⟩] scope pos) spos) (mSetO i (mComp (own.map (·.2)) mi g t e)) :=
  ⟨weakS (ps_setLc hc hN hy hyl hsw hi.run ok (fun s H C cl fp => show PG _ _ (tDG (kc X Y) Y vg g) from (hg s H C cl fp).run) (fun s H C cl fp => show PTs _ _ (tDT (kc X Y) Y W0 t) from (ht s H C cl fp).run) (fun s H C cl fp => show PE _ _ (tD (kc X Y) Y W0 e) from (he s H C cl fp).run) hs) fun D σ H ⟨M, env, S, E, r, q, ee⟩ =>
    comp_i hv σ H _ ⟨M, env, S, _, _, r, q, ee.rx r, fun d S' M' H' l p vs ⟨l', e0, q1⟩ e1 p1 o1 hp e m1 hs dn => by
      rw [e1] at e0; cases e0
      exact ee.nx _ _ _ _ _ q1 (r.setOwn p1 o1 hp e m1 hs dn i) p1.imm⟩⟩

/-! ### calls of own defs -/
abbrev DSpec := List D → Store → QE → RE → Prop
def spD (K : KC) (f : DSpec) : Sp := fun vs H Q E => ∃ M S ds Qd Rd, DenL K M H ds vs ∧ StOk K M H S ∧ f ds S Qd Rd ∧
  (∀ d S' v M' H', Qd d S' → Stp M H S M' H' S' → StOk K M' H' S' → Den K M' H' d v → Q v H') ∧ ∀ c S' M' H', Rd c S' → Stp M H S M' H' S' → StOk K M' H' S' → E (.ref (K.cl c)) none H'
def mCall (f : DSpec) (m : MA) : ME := fun env S Q R => m env S (fun ds S1 => f ds S1 Q R) R
theorem call_i {K : KC} {f : DSpec} {m : MA} (σ : L2.St) (H : Hp) (Q : VK) (h : tD K Y W (mCall f m) σ H Q) : tCallS (spD K f) (WE W) (tDA K Y W m) σ H Q := by
  obtain ⟨M, env, S, Qd, Rd, r, q, rx, k⟩ := h
  exact ⟨M, env, S, _, Rd, r, q, rx, fun ds S1 vs M1 H1 q1 p1 o1 dn => ⟨M1, S1, ds, Qd, Rd, dn, o1, q1, fun d S' v M' H' q2 p2 o2 d2 => k d S' v M' H' q2 (p1.trans p2) o2 d2, fun c S' M' H' q2 p2 o2 => rx c S' M' H' q2 (p1.trans p2) o2⟩⟩
theorem DCall {f : DSpec} {a : Addr} {fd : FuncData} {ps : List Str} {k : Nat} {x : Str} {e : Expr} {es : List Expr} {m : MA} {np pos : Pos} (F : FnOk X.prog X.w X.K X.mg X.base (L2N.CX X.prog X.w) k a fd ps (spD (kc X Y) f)) (hr : Room k X.A) (hg : Gl X x) (hm : X.mg x = some (.ref a)) (hk : PySem.W.keepIn X.K (.ref a) = true) (hb : Binds X.K fd ps []) (tk : L2N.Takes X W)
    (ha : DA X Y W (e :: es) m) (hdb : (x == ("__debug__" : Str)) = false := by decide) (he : starEach (e :: es) X.env = (false, eval e X.env) :: starEach es X.env := by rfl) (hpl : (backTo pos (starEach es X.env)).any (·.1) = false := by rfl) : DE X Y W (.Call (.Name x np) (e :: es) [] pos) (mCall f m) :=
  ⟨weakE (pe_callS F hr hg hm hk hb (fun σ => L2N.passAt tk σ) ha.run hdb he hpl) fun σ H Q h => call_i σ H Q h⟩
def startE (N : List Str) (ds : List D) : Env := ds.map .val ++ List.replicate (N.length - ds.length) .no
def endsD (Q : QE) (R : RE) : DEnds := { nx := fun _ S => Q .non S, rt := Q, ex := fun c _ S => R c S }
theorem rep_start {K : KC} {M : Addr → Prop} {H : Hp} {S : Store} {N : List Str} {ds : List D} {vs : List V} (hl : ds.length ≤ N.length) (dn : DenL K M H ds vs) (st : StOk K M H S) : Rep K ⟨K.cl, M, H, S⟩ M (L2.start N vs) H (startE N ds) S where
  len := by
    unfold L2.start startE
    rw [List.length_append, List.length_append, List.length_map, List.length_map, List.length_replicate, List.length_replicate, dn.length]
  val := fun i d h => by
    unfold startE at h
    unfold L2.start
    by_cases hi : i < ds.length
    · rw [List.getElem?_append_left (by rw [List.length_map]; exact hi), List.getElem?_map] at h
      cases e : ds[i]? with
      | none => rw [e] at h; cases h
      | some d' =>
        rw [e] at h
        cases h
        obtain ⟨v, e1, d1⟩ := dn.getD e
        exact ⟨v, by rw [List.getElem?_append_left (by rw [List.length_map, ← dn.length]; exact hi), List.getElem?_map, e1]; rfl, d1⟩
    · rw [List.getElem?_append_right (by rw [List.length_map]; omega)] at h
      have := List.mem_of_getElem? h
      rw [List.mem_replicate] at this
      cases this.2
  own := fun i l h => by
    have := List.mem_of_getElem? h
    unfold startE at this
    rcases List.mem_append.mp this with z | z
    · obtain ⟨_, _, e⟩ := List.mem_map.mp z; cases e
    · rw [List.mem_replicate] at z; cases z.2
  inj := fun i j l l' p h _ _ _ => by
    have := List.mem_of_getElem? h
    unfold startE at this
    rcases List.mem_append.mp this with z | z
    · obtain ⟨_, _, e⟩ := List.mem_map.mp z; cases e
    · rw [List.mem_replicate] at z; cases z.2
  st := st
  stp := Stp.refl
/-- THE RULE for a def: its body on data -/
theorem fnD {P : Program} {w : World} {K : PySem.W.Frag} {cl : Nat → Addr} {mg : Str → Option Value} {base : Heap} {x qual : Str} {st : Stmt} {f : Addr} {fd : FuncData} {N ps : List Str} {k : Nat} {sp : DSpec} {m : MS} (F : Fun K x qual st f fd) (S : FnScope N ps (defScope st))
    (hb : ∀ (cdv : Value) (A : Around) (outer : List PySem.Env) (s : Shared) (H : Hp) (E : XK) (M : Addr → Prop) (Hh : Hp) (Sh : Store), Room k (A.deeper (envOfC qual (defScope st) s.heap.objs.size f cdv)) →
      DSs (cxOf (L2N.CX P w) P w K mg base N qual (defScope st) f cdv A outer s H E) ⟨cl, M, Hh, Sh⟩ (fun cls d _ H => E cls d H) (defBody st) m)
    (hm : ∀ ds S Q R, sp ds S Q R → ds.length = ps.length ∧ m (endsD Q R) (startE N ds) S) : FnOk P w K mg base (L2N.CX P w) (k + 1) f fd ps (spD ⟨K, cl⟩ sp) := by
  obtain ⟨oc, od, kV, doc, pm, an, cdv0, ct, osl, rfl, lk, hcd⟩ := F.ex
  refine fn_of lk hcd S (fun vs H Q E ⟨M, S', ds, Qd, Rd, dn, _, q, _, _⟩ => by rw [← dn.length]; exact (hm ds S' Qd Rd q).1) fun A outer s H vs Q E hr ⟨M, S', ds, Qd, Rd, dn, so, q, kq, ke⟩ => ?_
  obtain ⟨hl, q1⟩ := hm ds S' Qd Rd q
  have hle : ds.length ≤ N.length := by
    have := congrArg List.length S.pre
    rw [List.length_take] at this
    omega
  refine ⟨_, (hb cdv0 A outer s H E M H S' hr).run, M, startE N ds, S', _, rep_start hle dn so, q1, ?_⟩
  exact ⟨fun env' S2 σ' M' H' q2 r2 _ => kq _ S2 _ M' H' q2 r2.stp r2.st (by simp [Den]), fun d S2 v M' H' q2 p2 o2 d2 => kq d S2 v M' H' q2 p2 o2 d2, fun _ _ _ _ _ z _ _ => z.elim, fun _ _ _ _ _ z _ _ => z.elim, fun c env' S2 σ' M' H' q2 r2 => ke c S2 M' H' q2 r2.stp r2.st⟩
/-- a weaker promise -/
theorem spD_imp {P : Program} {w : World} {K : PySem.W.Frag} {cl : Nat → Addr} {mg : Str → Option Value} {base : Heap} {CX : CXT} {k : Nat} {f : Addr} {fd : FuncData} {ps : List Str} {sp sp' : DSpec} (F : FnOk P w K mg base CX k f fd ps (spD ⟨K, cl⟩ sp)) (h : ∀ ds S Q R, sp' ds S Q R → sp ds S Q R) : FnOk P w K mg base CX k f fd ps (spD ⟨K, cl⟩ sp') :=
  F.imp fun vs H Q E ⟨M, S, ds, Qd, Rd, dn, so, q, r⟩ => ⟨M, S, ds, Qd, Rd, dn, so, h _ _ _ _ q, r⟩
theorem tk0 {X : Cx} : L2N.Takes X W0 := fun _ _ x => by
  obtain ⟨_, _, _, _, _, _, _, _, _, _, _, _, _, _, _, _, z⟩ := x
  exact z.elim
/-! ### raise -/
def mRaise (C : Nat) : MS := fun E env S => E.ex C env S
theorem SRaise {C : Nat} {x m : Str} {j : Nat} {p p2 pos pos' : Pos} {B newId initId : String} {bmB : List Value} (hc : X.calm = true) (tk : L2N.Takes X W) (he : L2N.PMk X (.Call (.Name x p) [.Constant (.str m) j p2] [] pos) (fun _ H E => E (.ref (Y.cl C)) none H)) :
    DS X Y W (.Raise (some (.Call (.Name x p) [.Constant (.str m) j p2] [] pos)) none pos') (mRaise C) :=
  ⟨weakS (L2N.ps_raise hc tk he) fun D σ H ⟨M, env, S, E, r, q, ee⟩ => ee.ex _ _ _ _ _ _ q r⟩
end
end DL

set_option Elab.async false
set_option linter.all false
set_option maxRecDepth 100000
set_option maxHeartbeats 1000000
namespace DL
open PySem PySem.Spec PySem.W PySem.Calls PyProof.Rows
section
variable {prog : Program} {w : World} {A : Around} {E : Value → Shared → Prop} {s : Shared}
/-- the empty list at L is filled from the reverse iterator at it -/
theorem fill_rev {R : Result → Shared → Prop} {it l L : Addr} {xs : Array Value} {res : Value} {c0 : Nat} (hA : A.handled = none) (hit : s.heap.IsRevIter it l ((xs.size : Int) - 1)) (hl : s.heap.IsList l xs) (nLi : L ≠ it) (nLl : L ≠ l) (nli : l ≠ it) (hz : xs.size ≤ sizeLine)
    (hL : s.heap.get? L = some { cls := .type "list", data := .seq #[] c0 })
    (fin : ∀ h2 tk acc c, (∀ b o, b ≠ it → b ≠ L → s.heap.get? b = some o → h2.get? b = some o) → h2.get? L = some { cls := .type "list", dict := none, data := .seq acc c, slots := #[] } → ItemsOf (fun i v => xs[xs.size - 1 - i]? = some v) acc xs.size → R (.ok (.ret res)) { s with heap := h2, toks := tk }) :
    wpAny (model prog w) A.in1 (Builtin.List.listExtendWith (.ref L) (.ref it) res)
      (fun f s' => match f with | .done g => R (.ok g) s' | .again c' => c'.quiet = true ∧ codeAny (model prog w) A c' R s') (fun e s' => R (.error e) s') s := by
  have wk := (Walks.listRev (prog := prog) (w := w) (A := A.in1) hA it l nli xs).toS
  have nLf : L ∉ [it, l] := by
    simp only [List.mem_cons, List.not_mem_nil, or_false, not_or]
    exact ⟨nLi, nLl⟩
  have ty : s.TypeIs (.ref it) "list_reverseiterator" := hit.typeIs
  have ns : Builtin.List.listSameRef (.ref L) (.ref it) = false := by simp [Builtin.List.listSameRef, nLi]
  unfold Builtin.List.listExtendWith
  refine wpAny_bind (wpAny_typeOf ty ?_)
  rw [if_neg (by rw [ns]; decide)]
  refine wpAny_bind (wpAny_pyIter_revIter hit (wpAny_bind (wpAny_holding ?_)))
  unfold Builtin.List.listLengthHint; refine wpAny_bind (wpAny_specialOf ty RT.nolen_lri ?_)
  show wpAny _ A.in1 (specialOf (Value.ref it) (Str.ofString "__length_hint__") >>= fun _ => _) _ _ _
  refine wpAny_bind (wpAny_specialOf ty RT.hint_lri ?_)
  generalize hq : ("list_reverseiterator.__length_hint__" : String) = q0
  wp_delta
  rw [show splitId q0 = some ("list_reverseiterator", "__length_hint__") from by subst hq; decide +kernel]
  subst hq
  refine wpAny_bind (wpAny_isInstance (b := true) ty (by rw [isSubtype_type]; kernel_rfl) (wpAny_pure ?_))
  rw [if_neg (by decide)]
  have e0 : ((xs.size : Nat) : Int) - 1 - ((0 : Nat) : Int) = (xs.size : Int) - 1 := by omega
  refine wpAny_pure ⟨plainId_quiet F.plain_extend_loop _, codeAny_extend_loopS wk hz _ nLf _ xs.size 0 _ _ _ rfl (Nat.zero_le _) ⟨Nat.zero_le _, by rw [e0]; exact hit, hl⟩ hL (ItemsOf.nil _) fun s2 acc c mv h2 ia => ?_⟩
  rw [Moved.eq_with mv]
  refine fin s2.heap s2.toks acc c (fun b o n1 n2 e => mv.heap b o (fun m => ?_) e) h2 ia
  rcases List.mem_cons.mp m with z | m
  · exact n2 z
  · exact n1 (List.mem_singleton.mp m)
/-- list(it), it a reverse iterator -/
theorem list_of_rev {it l : Addr} {xs : Array Value} {Q : Value → Shared → Prop} (hA : A.handled = none) (hit : s.heap.IsRevIter it l ((xs.size : Int) - 1)) (hl : s.heap.IsList l xs) (nli : l ≠ it) (hz : xs.size ≤ sizeLine)
    (fin : ∀ h2 tk acc c, (∀ b o, b ≠ it → s.heap.get? b = some o → h2.get? b = some o) → h2.get? s.heap.objs.size = some { cls := .type "list", dict := none, data := .seq acc c, slots := #[] } → ItemsOf (fun i v => xs[xs.size - 1 - i]? = some v) acc xs.size → Q (.ref s.heap.objs.size) { s with heap := h2, toks := tk }) :
    wpAny (model prog w) A (call (.type "list") [.ref it]) Q E s := by
  obtain ⟨oi, hoi, _⟩ := id hit
  obtain ⟨ol, hol, _⟩ := id hl
  have n1 : s.heap.objs.size ≠ it := Nat.ne_of_gt (Heap.lt_size hoi)
  have n2 : s.heap.objs.size ≠ l := Nat.ne_of_gt (Heap.lt_size hol)
  refine callType_codes (Q₁ := fun ob s1 => ob = .ref s.heap.objs.size ∧ s1 = { s with heap := s.heap.push { cls := .type "list", data := .seq #[] } }) F.called_list (F.typeCall_list_1 _) F.entry_list_init (code_list_new _ ⟨rfl, rfl⟩) fun ob s1 hs1 => ?_
  obtain ⟨rfl, rfl⟩ := hs1
  have g0 : (s.heap.push { cls := .type "list", data := .seq #[] }).get? s.heap.objs.size = some { cls := .type "list", data := .seq #[] } := Heap.get?_push_size _ rfl
  have g1 : (s.heap.push { cls := .type "list", data := .seq #[] }).IsRevIter it l ((xs.size : Int) - 1) := hit.at fun o e => Heap.get?_push_of_some _ e
  refine ⟨⟨_, g0, rfl⟩, F.args_list_init_2 _ _, ?_⟩
  show wpAny _ _ (do let was ← Builtin.List.listItems (.ref s.heap.objs.size); Builtin.List.listUpdate (.ref s.heap.objs.size) (fun _ => #[]); letGo was.toList.reverse; Builtin.List.listExtendWith (.ref s.heap.objs.size) (.ref it) .none) _ _ _
  refine wpAny_bind ?_; unfold Builtin.List.listItems
  refine wpAny_bind (wpAny_seqItems g0 rfl (wpAny_pure ?_)); show wpAny _ _ (updateSeq s.heap.objs.size (fun _ => #[]) >>= fun _ => letGo (#[] : Array Value).toList.reverse >>= fun _ => Builtin.List.listExtendWith (.ref s.heap.objs.size) (.ref it) .none) _ _ _
  refine wpAny_bind (wpAny_updateSeq g0 rfl ?_)
  have g2 := Heap.get?_update_self (Obj.mapSeq (fun _ => (#[] : Array Value))) g0 rfl
  have ot : ∀ b o, b ≠ s.heap.objs.size → (s.heap.push { cls := .type "list", data := .seq #[] }).get? b = some o → ((s.heap.push { cls := .type "list", data := .seq #[] }).update s.heap.objs.size (Obj.mapSeq (fun _ => (#[] : Array Value)))).get? b = some o :=
    fun b o n e => (Heap.get?_update_other _ _ (Ne.symm n)).trans e
  refine wpAny_bind (wpAny_letGo ?_)
  have hl2 : ((s.heap.push { cls := .type "list", data := .seq #[] }).update s.heap.objs.size (Obj.mapSeq (fun _ => (#[] : Array Value)))).IsList l xs := by
    obtain ⟨o, ho, hc, n, hd⟩ := hl
    exact ⟨o, ot l o (Ne.symm n2) (Heap.get?_push_of_some _ ho), hc, n, hd⟩
  refine fill_rev (A := A.in1) hA (g1.at fun o e => ot it o (Ne.symm n1) e) hl2 n1 n2 nli hz g2 fun h2 tk acc c k h3 ia => ?_
  exact ⟨rfl, fin h2 tk acc c (fun b o nb e => k b o nb (Nat.ne_of_lt (Heap.lt_size e)) (ot b o (Nat.ne_of_lt (Heap.lt_size e)) (Heap.get?_push_of_some _ e))) h3 ia⟩
end
end DL
namespace DL
open PySem PySem.Spec PyProof.Rows L2
section
variable {X : Cx} {Y : En} {W : WX}
def tLstRev (K : PySem.W.Frag) (te : TE) : TE := fun σ H Q => te σ H fun v H1 => ∃ (a : Addr) (xs : List V), v = .ref a ∧ SqL K H1 a xs ∧ ∀ q, H1 q = none → Q (.ref q) (upd H1 q (.lst xs.reverse))
theorem revd {xs : List V} {its : List Value} {acc : Array Value} (r : Vals xs its) (h : ItemsOf (fun i v => its.toArray[its.toArray.size - 1 - i]? = some v) acc its.toArray.size) : Vals xs.reverse acc.toList := RT.vals_rev r h
theorem pe_lstRev {e : Expr} {te : TE} {p p2 pos pos2 : Pos} (hc : X.calm = true) (hg : Gl X "list") (hm : X.mg "list" = none) (hg2 : Gl X "reversed") (hm2 : X.mg "reversed" = none) (he : PE X e te)
    (hs : starEach [e] X.env = (false, eval e X.env) :: starEach [] X.env := by rfl)
    (hs2 : starEach [.Call (.Name "reversed" p2) [e] [] pos2] X.env = (false, eval (.Call (.Name "reversed" p2) [e] [] pos2) X.env) :: starEach [] X.env := by rfl) :
    PE X (.Call (.Name "list" p) [.Call (.Name "reversed" p2) [e] [] pos2] [] pos) (tLstRev X.K te) := by
  refine ⟨fun pins s σ H Q I h => ?_⟩
  refine Call_ (ld_blt I hg hm (by first | exact boot_list | decide +kernel) (PyProof.Rows.callWith_type1 (args_cons (Call_ (ld_blt I hg2 hm2 PyProof.Rows.boot_reversed (PyProof.Rows.callWith_type1 (args_cons (thn (he.run pins s σ H _ I h) fun u s1 ⟨v, H1, I1, r1, q1⟩ => args_nil ?_) hs) hs rfl))) hs2) hs2 rfl))
  obtain ⟨a, xs, ev, hq, q⟩ := q1
  subst ev; obtain rfl : u = Value.ref a := r1
  obtain ⟨its, rv, pl, hz⟩ := I1.list hq
  refine call_reversed_list pl.isList (args_nil ?_)
  have hl := pl.isList
  obtain ⟨ol, hol, _⟩ := id hl
  refine list_of_rev (s := { s1 with heap := s1.heap.push (revObj a ((its.toArray.size : Int) - 1)) }) (I1.ok.hd hc) ⟨_, Heap.get?_push_size _ rfl, rfl, rfl⟩ (hl.push _) (Nat.ne_of_lt (Heap.lt_size hol)) (by rw [List.size_toArray, ← rv.length]; exact hz) fun h2 tk acc c hk g ia => ?_
  have lt : s1.heap.objs.size ≤ (s1.heap.push (revObj a ((its.toArray.size : Int) - 1))).objs.size := by rw [Heap.size_push]; omega
  have nw : ∀ b u, s1.heap.get? b = some u → h2.get? b = some u := fun b u e => hk b u (Nat.ne_of_lt (Heap.lt_size e)) (Heap.get?_push_of_some _ e)
  refine ⟨.ref (s1.heap.push (revObj a ((its.toArray.size : Int) - 1))).objs.size, _, I1.laid (t' := tk) nw lt (o := .lst xs.reverse) ⟨by rw [List.length_reverse]; exact hz, acc.toList, c, revd rv ia, ?_⟩, rfl, q _ (I1.hok.fresh lt)⟩
  rw [Array.toArray_toList]; exact g
end
end DL

set_option Elab.async false
set_option linter.all false
set_option maxRecDepth 100000
set_option maxHeartbeats 2000000
namespace DL
open PySem PySem.Spec PySem.W PySem.Calls PyProof.Rows HotX
section
variable {prog : Program} {w : World} {A : Around} {E : Value → Shared → Prop} {s : Shared}
/-- a list iterator's end, while an exception is handled -/
theorem next_end_hot {it l hx : Addr} {i : Nat} {xs : Array Value} {Q : Option Value → Shared → Prop} (hot : HotAt A hx s.heap) (st : s.heap.IsListIter it l i) (hl : s.heap.IsList l xs) (he : xs[i]? = none) (nh : hx ≠ it)
    (fin : ∀ h2, (∀ b o, b ≠ it → s.heap.get? b = some o → h2.get? b = some o) → Q none { s with heap := h2 }) : wpAny (model prog w) A (pyNext (.ref it)) Q E s := by
  obtain ⟨hA, oh, vh, gh, dh, ch⟩ := hot
  obtain ⟨oi, gi, ci, di⟩ := id st
  obtain ⟨ol, gl, _, nl, dl⟩ := hl
  unfold pyNext; refine wpAny_bind (wpAny_attempt (wpAny_callSpecial?_slot (name := Str.ofString "__next__") st.typeIs slot_listiter_next (wpAny_call_entry slot_listiter_next st.typeIs entry_listiter_next ?_ (args_listiter_next _))))
  show wpAny _ _ (field (.ref it) 0 >>= fun _ => _) _ _ s
  refine wpAny_bind (wpAny_field gi di (x := .ref l) rfl ?_); show wpAny _ _ (if (Value.ref l == Value.none) = true then _ else _) _ _ s
  rw [if_neg (fun (z : (Value.ref l == Value.none) = true) => Bool.false_ne_true z)]; show wpAny _ _ (field (.ref it) 1 >>= fun _ => _) _ _ s
  refine wpAny_bind (wpAny_field gi di (x := .int i 0) rfl ?_); show wpAny _ _ (seqItems? (.ref l) >>= fun _ => _) _ _ s
  refine wpAny_bind (wpAny_seqItems gl dl ?_); simp only [Int.toNat_natCast, he]
  refine wpAny_bind (wpAny_rule (wpAny_bind (wpAny_setField gi di (by simp) ?_))); show wpAny _ _ (newExc (.type "StopIteration") [] >>= fun _ => _) _ _ _
  refine wpAny_bind ?_; simp only [newExc, newTuple]
  refine wpAny_bind (wpAny_newObj_type ?_ (by size_fits)); refine wpAny_bind (m := firstArgMember _ _) (wpAny_of_eq (a := Value.none) (by first | rfl | (simp only [firstArgMember]; rfl)) ?_)
  refine wpAny_newObj_type ?_ (by size_fits); have gh1 := (Heap.get?_update_other s.heap (Obj.mapFields (·.setIfInBounds 0 Value.none)) (Ne.symm nh)).trans gh
  have gh2 : ∀ (f : Obj → Obj) (u v : Obj), (((s.heap.update it f).push u).push v).get? hx = some oh := fun f u v => Heap.get?_push_of_some _ (Heap.get?_push_of_some _ ((Heap.get?_update_other s.heap f (Ne.symm nh)).trans gh))
  refine raiseNew_hot ⟨hA, oh, vh, gh2 _ _ _, dh, ch⟩ (Nat.ne_of_lt (Heap.lt_size (Heap.get?_push_of_some _ ((Heap.get?_update_other s.heap _ (Ne.symm nh)).trans gh)))) (Heap.get?_push_size _ rfl) rfl (by first | (simp; done) | (simp; omega) | (simp only [Array.size_append]; simp; omega)) ?_
  refine wpAny_bind (wpAny_isInstance (T := "StopIteration") (b := true) ⟨_, Heap.get?_update_self _ (Heap.get?_push_size _ rfl) rfl, rfl⟩ isSubtype_stop (wpAny_pure (fin _ fun b o nb e => ?_)))
  have e1 := (Heap.get?_update_other s.heap (Obj.mapFields (·.setIfInBounds 0 Value.none)) (Ne.symm nb)).trans e
  rw [Heap.get?_update_other _ _ (Nat.ne_of_gt (Heap.lt_size (Heap.get?_push_of_some _ ((Heap.get?_update_other s.heap _ (Ne.symm nb)).trans e))))]
  exact Heap.get?_push_of_some _ (Heap.get?_push_of_some _ ((Heap.get?_update_other s.heap _ (Ne.symm nb)).trans e))
end
end DL
namespace DL
open PySem PySem.Spec PyProof.Rows L2 HotX
section
variable {X : Cx}
/-- [elt for target in a list if ..] while an exception is handled -/
def tLcH (K : PySem.W.Frag) (tl : TE) (g : TG) (tt : TT) (te : TE) (vs : List Nat) : TE := fun σ H Q => tl σ H fun x H1 => ∃ a xs, x = .ref a ∧ SqL K H1 a xs ∧ ∀ L, H1 L = none → ∃ W : Nat → Hp → Prop, W 0 (upd H1 L (.lst [])) ∧ ∀ i H, W i H →
  SqL K H a xs ∧ (xs.length ≤ i → Q (.ref L) H) ∧ ∀ x, xs[i]? = some x → g x (wipe σ vs) H fun σ2 H2 => wipe σ2 vs = wipe σ vs ∧ tt σ2 H2 fun b H3 =>
    if b = true then te σ2 H3 fun y H4 => ∃ acc, H4 L = some (.lst acc) ∧ acc.length < sizeLine ∧ W (i + 1) (upd H4 L (.lst (acc ++ [y]))) else W (i + 1) H3
theorem pe_lcH {elt tg iter : Expr} {ifs : List Expr} {scope : Scope} {own : List (Str × Nat)} {pos : Pos} {tl : TE} {g : TG} {tt : TT} {te : TE} (hc : L2H.HotC X) (hN : X.N.Nodup) (hi : PE X iter tl) (ok : BlkOk X.N X.env.scope scope own)
    (hg : ∀ (s : Shared) (H : Hp) (C : Addr) (cl : List (Str × Addr)) (fp : List Addr), PG (X.blk s H scope (compEnvC scope cl C X.env) fp) tg g) (ht : ∀ (s : Shared) (H : Hp) (C : Addr) (cl : List (Str × Addr)) (fp : List Addr), PTs (X.blk s H scope (compEnvC scope cl C X.env) fp) ifs tt)
    (he : ∀ (s : Shared) (H : Hp) (C : Addr) (cl : List (Str × Addr)) (fp : List Addr), PE (X.blk s H scope (compEnvC scope cl C X.env) fp) elt te) (hs : ∀ x, foldedSetIterable iter X.env x = pure x := by intro _; rfl) :
    PE X (.ListComp elt [⟨tg, iter, ifs, 0⟩] scope pos) (tLcH X.K tl g tt te (own.map (·.2))) := by
  obtain ⟨px, ⟨hh1, vx, dx, cx⟩, pm⟩ := hc
  refine ⟨fun pins s σ H Q I h => ?_⟩
  have fr : ∀ y ∈ scope.names, y.2 = .free → ∃ c, X.env.cells.lookup y.1 = some c := fun y hy z => (ok.free y hy z).elim (fun k => I.ok.has _ (.inl k)) fun k => I.ok.has _ (.inr k)
  rw [eval_ListComp]
  refine wpAny_comprehension_free (use := none) rfl hs (closure_ok fr) ok.kind (fun y hy z => by rw [ok.uniq y hy, z]) (thn (hi.run pins s σ H _ I h) fun xv s1 ⟨x, H1, I1, r1, a, xs, ex, hq, q⟩ => ?_)
  subst ex; cases r1
  obtain ⟨its, rv, pl, hz⟩ := I1.list hq
  refine wpAny_pyIter_list pl.isList ?_
  generalize hit : s1.heap.objs.size = it
  generalize hs2 : ({ s1 with heap := s1.heap.push { cls := .type "list_iterator", data := .fields #[.ref a, .int 0 0] } } : Shared) = s2
  have I2 : Inv X pins σ H1 s2 := by rw [← hs2]; exact I1.kept (t' := s1.toks) fun b o e => Heap.get?_push_of_some _ e
  have st2 : s2.heap.IsListIter it a 0 := by rw [← hs2, ← hit]; exact ⟨_, Heap.get?_push_size _ rfl, rfl, rfl⟩
  have f2 : FpOk X pins H1 it := by rw [← hit]; exact I1.fpOk (Nat.le_refl _) (I1.hok.fresh (Nat.le_refl _))
  have lt2 : it < s2.heap.objs.size := by rw [← hs2, ← hit, Heap.size_push]; exact Nat.lt_succ_self _
  refine wpAny_newObj_type (newEnv_comp ?_) (by show 0 ≤ sizeLine; decide)
  generalize hL : s2.heap.objs.size = L
  have nL : H1 L = none := I2.hok.fresh (Nat.le_of_eq hL)
  obtain ⟨Wi, w0, turn⟩ := q L nL
  generalize hs3 : ({ s2 with heap := s2.heap.push { cls := .type "list", data := .seq ([] : List Value).toArray } } : Shared) = s3
  have h3 : s3.heap = s2.heap.push { cls := .type "list", data := .seq ([] : List Value).toArray } := by rw [← hs3]
  have I3 : Inv X pins σ (upd H1 L (.lst [])) s3 := by
    rw [← hs3]
    refine I2.laid (t' := s2.toks) (fun b o e => Heap.get?_push_of_some _ e) (Nat.le_of_eq hL) ⟨Nat.zero_le _, [], 0, .nil, ?_⟩
    rw [← hL]; exact Heap.get?_push_size _ rfl
  have nitL : it ≠ L := by rw [← hL]; exact Nat.ne_of_lt lt2
  have f3 : FpOk X pins (upd H1 L (.lst [])) it := ⟨by rw [upd_ne nitL]; exact f2.1, f2.2⟩
  have lt3 : it < s3.heap.objs.size := by rw [h3, Heap.size_push]; exact Nat.lt_succ_of_lt lt2
  have st3 : s3.heap.IsListIter it a 0 := st2.at fun o e => by rw [h3]; exact Heap.get?_push_of_some _ e
  have I4 := block_start I3 ok hN (fp := [it]) fun b hb => by rw [List.mem_singleton.mp hb]; exact ⟨f3, lt3⟩
  have pg := hg s3 (upd H1 L (.lst [])) s3.heap.objs.size (cellsFrom (s3.heap.objs.size + 1) scope.names (cloFrom X.env.cells scope.names [])) [it]
  have pt := ht s3 (upd H1 L (.lst [])) s3.heap.objs.size (cellsFrom (s3.heap.objs.size + 1) scope.names (cloFrom X.env.cells scope.names [])) [it]
  have pe := he s3 (upd H1 L (.lst [])) s3.heap.objs.size (cellsFrom (s3.heap.objs.size + 1) scope.names (cloFrom X.env.cells scope.names [])) [it]
  show codeAny _ _ (.compStart (.ListComp elt [⟨tg, iter, ifs, 0⟩] scope pos) 0 (.ref it) (.ref L) (compEnvC scope (cellsFrom (s3.heap.objs.size + 1) scope.names (cloFrom X.env.cells scope.names [])) s3.heap.objs.size X.env)) (compPost (model X.prog X.w) X.A X.xe none _ (.ref L) s3.heap.objs.size) { s3 with heap := pushCells (s3.heap.push { cls := .type "dict", data := .dict #[] }) scope.names }
  have pin3 := I3.pin px (List.mem_append_left _ pm)
  generalize hce : compEnvC scope (cellsFrom (s3.heap.objs.size + 1) scope.names (cloFrom X.env.cells scope.names [])) s3.heap.objs.size X.env = ce at I4 pg pt pe ⊢
  have cL : ce.locals = s3.heap.objs.size := by subst hce; rfl
  generalize hH3 : upd H1 L (.lst []) = H3 at I3 I4 pg pt pe w0 f3 pin3
  generalize hs4 : ({ s3 with heap := pushCells (s3.heap.push { cls := .type "dict", data := .dict #[] }) scope.names } : Shared) = s4 at I4 ⊢
  have k34 : ∀ b o, s3.heap.get? b = some o → s4.heap.get? b = some o := fun b o e => by rw [← hs4]; exact pushCells_keeps _ _ _ _ (Heap.get?_push_of_some _ e)
  have I5 : Inv (X.blk s3 H3 scope ce [it]) [px] (wipe σ (own.map (·.2))) H3 s4 := I4.pins_of fun p hp => by
    rw [List.mem_singleton.mp hp]
    obtain ⟨e, n, ne, nf, d⟩ := pin3
    exact ⟨k34 _ _ e, n, by show px.1 ≠ ce.locals; rw [cL]; exact Nat.ne_of_lt (Heap.lt_size e), fun z => (List.mem_cons.mp (I3.stkSub px.1 z)).elim ne nf, d⟩
  have nhi : px.1 ≠ it := fun z => f3.2.2.2.2.2 px (List.mem_append_left _ pm) z
  have st4 : s4.heap.IsListIter it a 0 := st3.at fun o e => k34 _ _ e
  have stat : ∀ {σ' : L2.St} {H' : Hp} {s' : Shared}, Inv (X.blk s3 H3 scope ce [it]) [px] σ' H' s' → H' it = none → FpOk (X.blk s3 H3 scope ce [it]) [px] H' it := fun {σ' H' s'} J n =>
    ⟨n, (J.ok.exf it (List.mem_singleton_self _)).1, J.ok.exfs it (List.mem_singleton_self _), .inl (List.mem_singleton_self _), fun x c e => (J.ok.exf it (List.mem_singleton_self _)).2 x c e, fun p hp => by
      have hp' : p ∈ [px] := by simpa using hp
      rw [List.mem_singleton.mp hp']; exact nhi⟩
  have nfp : H3 it = none := f3.1
  have loop : codeAny (model X.prog X.w) X.A (.compLoop (.ListComp elt [⟨tg, iter, ifs, 0⟩] scope pos) 0 (.ref it) (.ref L) ce) (compPost (model X.prog X.w) X.A X.xe none (EP X pins σ Q) (.ref L) s3.heap.objs.size) s4 := by
    refine compLoop_any (fun n s' => ∃ i H', n = xs.length - i ∧ i ≤ xs.length ∧ Inv (X.blk s3 H3 scope ce [it]) [px] (wipe σ (own.map (·.2))) H' s' ∧ s'.heap.IsListIter it a i ∧ H' it = none ∧ Wi i H') ?_ xs.length ⟨0, H3, rfl, Nat.zero_le _, I5, st4, nfp, w0⟩
    rintro n s5 ⟨i, H5, rfl, hi5, J5, st5, n5, w5⟩
    obtain ⟨hq5, stop, step⟩ := turn i H5 w5
    obtain ⟨its5, rv5, pl5, hz5⟩ := J5.list hq5
    have hlen := rv5.length
    obtain ⟨f0, f1, f2', f3', f4, f5⟩ := stat J5 n5
    by_cases hlt : i < xs.length
    · have gx : xs[i]? = some xs[i] := List.getElem?_eq_getElem hlt
      obtain ⟨u, hu, ru⟩ := rv5.get gx
      refine thnF (wpAny_pyNext_list_item st5 pl5.isList (x := u) (Q := fun r s6 => r = some u ∧ s6.heap.IsListIter it a (i + 1) ∧ Inv (X.blk s3 H3 scope ce [it]) [px] (wipe σ (own.map (·.2))) H5 s6 ∧ ∃ o, s6.heap.get? it = some o ∧ o.cls = .type "list_iterator" ∧ o.data = .fields #[.ref a, .int ((i + 1 : Nat) : Int) 0]) (by simpa using hu) fun h' st' sb => ?_) fun r s6 hr => ?_
      · refine ⟨rfl, st', J5.turned (t' := s5.toks) (fun b o hb e => (sb.2 b hb).trans e) f0 f1 f3' f4 f5, ?_⟩
        obtain ⟨o, e, c, d⟩ := st'
        exact ⟨o, e, c, by rw [d]⟩
      obtain ⟨er, st6, J6, o6, e6, c6, d6⟩ := hr
      subst er
      refine thnF (go_of (Q := fun _ s7 => s7 = s6) e6 c6 d6 (by decide) rfl) fun _ s7 e7 => ?_
      subst e7
      have J6' := J6.pinned (fp := [it]) (fun b hb => by rw [List.mem_singleton.mp hb]; exact stat J6 n5) fun b hb => by rw [List.mem_singleton.mp hb]; exact ⟨o6, e6, fun v z => by rw [d6] at z; cases z⟩
      refine thnF (pg.run _ s7 _ H5 xs[i] u _ J6' ru (step xs[i] gx)) fun _ s8 ⟨σ8, H8, J8, hw8, q8⟩ => ?_
      refine thnF (pt.run _ s8 σ8 H8 _ J8 q8) fun b s9 ⟨H9, J9, q9⟩ => ?_
      have fin : ∀ {s' : Shared} {H' : Hp}, Inv (X.blk s3 H3 scope ce [it]) ([px] ++ pinsAt [it] s7.heap) σ8 H' s' → Wi (i + 1) H' → ∃ m, m < xs.length - i ∧ ∃ i H', m = xs.length - i ∧ i ≤ xs.length ∧ Inv (X.blk s3 H3 scope ce [it]) [px] (wipe σ (own.map (·.2))) H' s' ∧ s'.heap.IsListIter it a i ∧ H' it = none ∧ Wi i H' := fun {s' H'} J' nx => by
        have z := J'.pin (it, o6) (List.mem_append_right _ (List.mem_append_right _ (mem_pinsAt (List.mem_singleton_self _) e6)))
        have hl : (wipe σ (own.map (·.2))).length = σ8.length := by rw [← hw8, wipe_length]
        refine ⟨_, Nat.sub_lt_sub_left hlt (Nat.lt_succ_self i), i + 1, H', rfl, hlt, (J'.unpinned (pins := [px])).weak hl (fun j v e => ?_), ⟨o6, z.1, c6, d6⟩, z.2.1, nx⟩
        rw [← hw8] at e; exact (wipe_some e).1
      cases b with
      | false =>
        simp only [Bool.false_eq_true, if_false] at q9 ⊢
        exact fin J9 q9
      | true =>
        simp only [if_true] at q9 ⊢
        refine thnF (pe.run _ s9 σ8 H9 _ J9 q9) fun z s10 ⟨yv, H10, J10, r10, acc, hL10, hz10, nx⟩ => ?_
        exact app_ok (X := X.blk s3 H3 scope ce [it]) J10 hL10 hz10 r10 fun s11 J11 => fin J11 nx
    · have ei : i = xs.length := by omega
      have pin5 := J5.pin px (List.mem_append_right _ (List.mem_singleton_self _))
      refine thnF (next_end_hot (hx := px.1) (Q := fun r s6 => r = none ∧ Inv (X.blk s3 H3 scope ce [it]) [px] (wipe σ (own.map (·.2))) H5 s6) ⟨hh1, px.2, vx, pin5.1, dx, cx⟩ st5 pl5.isList (by rw [ei, hlen]; simp) nhi fun h2 kk => ⟨rfl, J5.turned (t' := s5.toks) (fun b o hb e => kk b o hb e) f0 f1 f3' f4 f5⟩) fun r s6 ⟨er, J6⟩ => ?_
      subst er
      have J7 : Inv X pins σ H5 s6 := I3.call' (ch := [it]) J6.os J6.base J6.hok J6.bare fun b hb => by rw [List.mem_singleton.mp hb]; exact ⟨f3.2.2.2.1, f3.2.1, f3.2.2.2.2.1, f3.2.2.2.2.2⟩
      have nC : H5 s3.heap.objs.size = none := by
        have z : H5 ce.locals = none := J6.free
        rw [cL] at z; exact z
      obtain ⟨m, hn, _⟩ := J6.loc
      have hn : s6.heap.Ns ce.locals m := hn
      rw [cL] at hn
      obtain ⟨g0, g1, g2, g3, g4, g5⟩ := I3.fpOk (H' := H5) (b := s3.heap.objs.size) (Nat.le_refl _) nC
      exact ⟨m, hn, fun h'' sb => ⟨.ref L, H5, J7.turned (t' := s6.toks) (fun b o hb e => (sb.2 b hb).trans e) g0 g1 g3 g4 g5, rfl, stop (Nat.le_of_eq ei.symm)⟩⟩
  exact codeAny_compStart_list loop (wpAny_pyIter_listiter st4 loop)
end
end DL

set_option Elab.async false
set_option linter.all false
set_option maxRecDepth 100000
set_option maxHeartbeats 2000000
/-! A def that tells a caught exception's word, called within the except suite. -/
namespace DL
open PySem PySem.Spec PyProof.Rows L2
/-- what the class D must say to isinstance, and isinstance of the pinned exception -/
theorem call_isP {X : Cx} {a D : Addr} {oe : Obj} (C : ExcC X.K D) (hz : Zc (.ref D) none oe) (hf : ∃ vs, oe.data = .fields vs) (hp : (a, oe) ∈ X.pn) : CallR X (.builtin "isinstance") (rIsE X.K D a) := by
  intro pins s σ H xs us Q I rv hw
  obtain ⟨c, cv, b, rfl, hcv, ek, q⟩ := hw
  obtain ⟨u1, u2, rfl, q1, q2⟩ := vals2 rv
  cases (show u1 = Value.ref a from q1)
  have e2 := hcv _ q2; subst e2
  have g := (I.pin (a, oe) (List.mem_append_left _ hp)).1
  obtain ⟨vs, hv⟩ := hf
  have J : PySem.W.InstAt s.heap a oe D none := by
    obtain ⟨c0, d0, t0, l0⟩ := oe
    obtain ⟨z1, z2⟩ := hz
    dsimp only at z1 z2 hv
    subst z1 z2 hv
    exact ⟨g, rfl, rfl, trivial⟩
  exact PySem.W.kia_one (PySem.W.handS_kitx_exc C.hg C.hk C.hs C.hd C.ha C.hn C.ht C.hm) I.kIn J ek (fun z => nomatch z) fun tk => ⟨.bl b, H, I.kept (t' := tk) fun _ _ z => z, rfl, q⟩
/-- a def called while p is handled -/
structure FnP (P : Program) (w : World) (K : PySem.W.Frag) (mg : Str → Option Value) (base : Heap) (k : Nat) (f : Addr) (fd : FuncData) (ps : List Str) (p : Addr × Obj) (sp : Sp) : Prop where
  len : ∀ vs H Q E, sp vs H Q E → vs.length = ps.length
  run : ∀ (A : Around) (outer : List PySem.Env) (s : Shared) (H : Hp) (args : Args) (us : List Value) (vs : List V) (Q : VK) (E : XK), L2H.RoomH k A → L2H.Hot1 A p → L2H.PinOk outer H s p → Env0 P w K mg base A outer s H → BindsTo s fd args (ps.zip us) → Vals vs us → sp vs H Q E →
    codeAny (model P w) A (.call (.ref f) args) (CR (L2N.CX P w) outer P w H s Q E) s
theorem fnP {P : Program} {w : World} {K : PySem.W.Frag} {mg : Str → Option Value} {base : Heap} {x qual : Str} {st : Stmt} {f : Addr} {fd : FuncData} {N ps : List Str} {k : Nat} {p : Addr × Obj} {sp : Sp} (F : Fun K x qual st f fd) (S : FnScope N ps (defScope st)) (len : ∀ vs H Q E, sp vs H Q E → vs.length = ps.length)
    (hb : ∀ (cd : Value) (A : Around) (outer : List PySem.Env) (s : Shared) (H : Hp) (vs : List V) (Q : VK) (E : XK), L2H.Hot1 A p → L2H.RoomH k (A.deeper (envOfC qual (defScope st) s.heap.objs.size f cd)) → sp vs H Q E →
      ∃ t, PSs (L2H.cxH (L2N.CX P w) P w K mg base N qual (defScope st) f cd A outer s H E p) (defBody st) t ∧ t { nx := fun _ H' => Q .non H', rt := Q } (L2.start N vs) H) : FnP P w K mg base (k + 1) f fd ps p sp := by
  obtain ⟨oc, od, kV, doc, pm, an, cd, ct, osl, rfl, lk, hcd⟩ := F.ex
  refine ⟨len, fun A outer s H args us vs Q E hr hot hpin e0 hbd rv hsp => ?_⟩
  have hl := len _ _ _ _ hsp
  have kin : K.In s.heap := e0.mod.kin.keeps fun b o z => (e0.bs b o z).1
  have lim : s.heap.NoLimit := e0.mod.nolimit.keeps fun b o z => (e0.bs b o z).1
  have par : ∀ y ∈ ps.zip us, (defScope st).names.lookup y.1 = some .local ∨ ((defScope st).names.lookup y.1 = some .cell ∧ ((cellsFrom (s.heap.objs.size + 1) (defScope st).names []).lookup y.1).isSome = true) := fun y hy =>
    (S.par y.1 (List.of_mem_zip (a := y.1) (b := y.2) hy).1).elim .inl fun q => .inr ⟨q, PySem.W.cellsFrom_some _ _ _ (.inl q)⟩
  refine codeAny_call_function hr.depth (kin _ _ lk) rfl S.co S.gen rfl (PySem.W.codeRec_of kin hcd) (hbd _ _ _ _ (wpAny_newFunctionEnv_cells S.kind par fun env he s1 x => ?_))
  subst he
  refine ⟨lim.keeps x.toInCall.keep, codeAny_func ?_⟩
  obtain ⟨t, ht, hq⟩ := hb cd A outer s H vs Q E hot (hr.deeper _) hsp
  have I := L2H.inv_startH (CX := L2N.CX P w) (E := E) S hpin e0 hl rv x
  refine wpAny_mono (ht.run [] s1 (L2.start N vs) H _ I hq) (fun fl s' hs => ?_) fun _ _ hs => hs
  cases fl with
  | ret u => obtain ⟨v, _, H', J, r, q⟩ := hs; exact ⟨v, H', J.os, J.bare, J.base, J.hok, r, q⟩
  | next => obtain ⟨_, H', J, q⟩ := hs; exact ⟨.non, H', J.os, J.bare, J.base, J.hok, rfl, q⟩
  | brk => exact hs.elim fun _ ⟨_, _, q⟩ => q.elim
  | cont => exact hs.elim fun _ ⟨_, _, q⟩ => q.elim
theorem pe_callP {X : Cx} {k : Nat} {f : Addr} {fd : FuncData} {ps : List Str} {p : Addr × Obj} {sp : Sp} {x : Str} {e : Expr} {t : TA} {q pos : Pos} (F : FnP X.prog X.w X.K X.mg X.base k f fd ps p sp) (hr : L2H.RoomH k X.A) (hot : L2H.Hot1 X.A p) (hp : p ∈ X.pn) (hg : Gl X x) (hm : X.mg x = some (.ref f)) (hk : PySem.W.keepIn X.K (.ref f) = true) (hb : Binds X.K fd ps [])
    (ha : PA X [e] t) (hdb : (x == ("__debug__" : Str)) = false := by decide) (he : starEach [e] X.env = (false, eval e X.env) :: starEach [] X.env := by rfl) (hpl : (backTo pos (starEach [] X.env)).any (·.1) = false := by rfl) :
    PE X (.Call (.Name x q) [e] [] pos) (fun σ H Q => t σ H fun vs H1 => sp vs H1 Q fun _ _ _ => False) := by
  refine ⟨fun pins s σ H Q I h => wpAny_Call_Name_kw (ld_glob I hg hm ?_ hdb)⟩
  refine PySem.W.callWith_K (h₀ := X.base) I.ok.mod.kin hk (thn (ha.run pos pins s σ H _ I h) fun us s1 ⟨vs, H1, I1, r, w1⟩ => ⟨I1.kIn, ?_⟩) he hpl
  have hl : us.length = ps.length := by rw [← r.length]; exact F.len _ _ _ _ w1
  have b := hb s1 us I1.kIn (by rw [List.append_nil]; exact hl)
  rw [List.append_nil] at b
  have g := I1.pin p (List.mem_append_left _ hp)
  refine wpAny_call (codeAny_mono (F.run X.A X.stack s1 H1 ⟨us, []⟩ us vs Q (fun _ _ _ => False) hr hot ⟨g.1, g.2.1, fun z => (List.mem_cons.mp (I1.stkSub p.1 z)).elim g.2.2.1 g.2.2.2.1, g.2.2.2.2⟩ I1.env0 b r w1) fun rr s' hq => ?_)
  cases rr with
  | error e => obtain ⟨_, _, _, _, _, _, _, _, _, _, _, _, z⟩ := hq; exact z.elim
  | ok fl => cases fl with
    | ret u => exact I1.after hq
    | next => exact hq.elim
    | brk => exact hq.elim
    | cont => exact hq.elim
/-- a promise: the pinned exception's word -/
def spWord (a : Addr) (z : Str) : Sp := fun vs H Q _ => vs = [.ref a] ∧ ∀ H', (∀ b o, H b = some o → H' b = some o) → Q (.str z) H'
theorem Stp.ext {K : KC} {M : Addr → Prop} {H H2 : Hp} {S : Store} (st : StOk K M H S) (k : ∀ b o, H b = some o → H2 b = some o) : Stp M H S M H2 S ∧ StOk K M H2 S := by
  have im : Imm M H M H2 := fun a o nm e => ⟨nm, k a o e⟩
  have eq : ∀ a, M a → H2 a = H a := fun a m => by obtain ⟨o, e⟩ := st.has a m; rw [e, k a o e]
  exact ⟨⟨im, fun a m e => ⟨m, eq a m, e⟩, fun a o e => ⟨o, k a o e⟩⟩, ⟨fun a c e => let ⟨m, hc⟩ := st.cell a c e; ⟨m, hc.mono im (eq a m)⟩, fun a m => let ⟨o, e⟩ := st.has a m; ⟨o, k a o e⟩⟩⟩
/-- the table of words: for each class its word -/
structure Words (P : Program) (w : World) (K : PySem.W.Frag) (mg : Str → Option Value) (base : Heap) (cl : Nat → Addr) (k : Nat) (f : Addr) (fd : FuncData) (ps : List Str) (wd : Nat → Option Str) : Prop where
  one : ∀ (C : Nat) (z : Str) (a : Addr) (oe : Obj), wd C = some z → Zc (.ref (cl C)) none oe → (∃ vs, oe.data = .fields vs) → FnP P w K mg base k f fd ps (a, oe) (spWord a z)
section
variable {X : Cx} {Y : En} {W : WX}
def mTryW (wd : Nat → Option Str) (m : MS) : MS := fun E env S => m { E with ex := fun c _ S' => ∃ z, wd c = some z ∧ E.rt (.str z) S' } env S
/-- try: body; except x as n: return f(n) -/
theorem STryW {n x fx : Str} {c : Value} {i k : Nat} {f : Addr} {fd : FuncData} {ps : List Str} {wd : Nat → Option Str} {body : List Stmt} {m : MS} {np fp vp cp rp pos pos' : Pos}
    (hs : X.stack = X.env :: X.outer) (hf : X.env.frame = some X.env.locals) (hN : X.N.Nodup) (hi : X.N[i]? = some n) (hln : X.env.kindOf n = some .local) (hc : Names X x c) (tk : L2N.Takes X W)
    (F : Words X.prog X.w X.K X.mg X.base Y.cl k f fd ps wd) (hr : Room k X.A) (hg : Gl X fx) (hm : X.mg fx = some (.ref f)) (hk : PySem.W.keepIn X.K (.ref f) = true) (hb : Binds X.K fd ps []) (hex : ∀ C z, wd C = some z → PySem.W.exmOne X.K (.ref (Y.cl C)) c = some true)
    (hbd : ∀ (W : WX) (pn : List (Addr × Obj)) (xe : Value → Shared → Prop), L2N.Takes (X.tr pn xe) W → PassesOwn (model X.prog X.w) X.A X.env xe → DSs (X.tr pn xe) Y W body m)
    (hdb : (fx == ("__debug__" : Str)) = false := by decide) (hd1 : (n == ("__debug__" : Str)) = false := by decide) (hd2 : (n == ("__classdict__" : Str)) = false := by decide)
    (he : starEach [.Name n vp] X.env = (false, eval (.Name n vp) X.env) :: starEach [] X.env := by rfl) (hpl : (backTo cp (starEach [] X.env)).any (·.1) = false := by rfl) :
    DS X Y W (.Try body [.ExceptHandler (some (.Name x np)) (some n) [.Return (some (.Call (.Name fx fp) [.Name n vp] [] cp)) rp] pos'] [] [] pos) (mTryW wd m) := by
  have vis : Vis X.env.scope n := .inl hln
  refine ⟨weakS (L2N.ps_try_as (i := i) (tb := fun W => tDS (kc X Y) Y W m) (ts := fun a cls d => fun D σ H => ∃ C z, cls = .ref (Y.cl C) ∧ d = none ∧ wd C = some z ∧ (∃ σ0 : L2.St, σ = σ0.set i (some (.ref a))) ∧ ∀ H', (∀ b o, H b = some o → H' b = some o) → D.rt (.str z) H') (Wout := W) hs hf hN hi hln hc tk (fun W' pn xe tk' pw => show PSs _ _ (tDS (kc X Y) Y W' m) from (hbd W' pn xe tk' pw).run) (fun a oe cls d pn hz hv => ?_)) fun D σ H hw => ?_⟩
  · refine pss_one ⟨fun pins s σ H D I ⟨C, z, e1, e2, e3, ⟨σ0, es⟩, q⟩ => ?_⟩
    subst e1 e2
    have e4 : σ[i]? = some (some (.ref a)) := by
      have hl : i < σ0.length := by
        have h1 := I.len
        have h2 := (List.getElem?_eq_some_iff.mp hi).1
        rw [es, List.length_set] at h1
        rw [h1]; exact h2
      rw [es]; exact List.getElem?_set_self hl
    obtain ⟨vs, hvs⟩ := hv
    have hot : L2H.Hot1 (X.suite a ((a, oe) :: pn)).A (a, oe) := ⟨rfl, vs, hvs, hz.2.2 vs hvs⟩
    have hr2 : L2H.RoomH k (X.suite a ((a, oe) :: pn)).A := ⟨hr.dp, hr.un⟩
    refine (ps_ret (pe_callP (X := X.suite a ((a, oe) :: pn)) (F.one C z a oe e3 hz.zc ⟨vs, hvs⟩) hr2 hot List.mem_cons_self hg hm hk hb (pa_cons (pe_var (X := X.suite a ((a, oe) :: pn)) hi vis hd1 hd2) pa_nil he) hdb he hpl)).run pins s σ H D I ?_
    exact ⟨.ref a, e4, rfl, q⟩
  · obtain ⟨M, env, S, E, r, q, ee⟩ := hw
    refine ⟨M, env, S, _, r, q, ⟨fun env' S' σ' M' H' q' r' i' => ee.nx _ _ _ _ _ q' r' i', ee.rt, ee.bk, ee.ct, fun C env' S' σ' M' H' ⟨z, hz, q'⟩ r' => ?_⟩⟩
    refine ⟨true, hex C z hz, fun _ a na => ⟨C, z, rfl, rfl, hz, ⟨σ', rfl⟩, fun H2 k2 => ?_⟩, fun z => nomatch z⟩
    obtain ⟨p2, o2⟩ := Stp.ext r'.st k2
    exact ee.rt _ S' _ M' H2 q' (r'.stp.trans p2) o2 (by simp [Den])
end
end DL

set_option Elab.async false
set_option linter.all false
set_option maxRecDepth 100000
set_option maxHeartbeats 1000000
namespace DL
open PySem PySem.Spec PyProof.Rows L2
section
variable {X : Cx} {Y : En} {W : WX}
/-! ### the drawn numbers: a list that is known by its address, ints from 0 on -/
theorem upd_st {K : KC} {M M' : Addr → Prop} {H H' : Hp} {S : Store} {a : Addr} {c : Cell} (st : StOk K M H S) (im : Imm M H M' H') (oth : ∀ b c, b ≠ a → S b = some c → M' b ∧ H' b = H b) (hm : M' a) (hc : CellOk K M' H' a c) (has : ∀ b, M' b → ∃ o, H' b = some o) : StOk K M' H' (S.upd a c) where
  cell := fun b c' e => by
    by_cases hb : b = a
    · subst hb
      simp only [Store.upd, if_true] at e
      cases e
      exact ⟨hm, hc⟩
    · simp only [Store.upd, if_neg hb] at e
      obtain ⟨m, h⟩ := st.cell b c' e
      obtain ⟨o1, o2⟩ := oth b c' hb e
      exact ⟨o1, h.mono im o2⟩
  has := has
theorem era_st {K : KC} {M : Addr → Prop} {H : Hp} {S : Store} {a : Addr} (st : StOk K M H S) : StOk K M H (S.era a) where
  cell := fun b c e => by
    by_cases hb : b = a
    · subst hb; simp [Store.era] at e
    · simp only [Store.era, if_neg hb] at e
      exact st.cell b c e
  has := st.has
/-- a cell is written -/
theorem cell_write {K : KC} {M : Addr → Prop} {H : Hp} {S : Store} {a : Addr} {c0 c : Cell} {o : HO} (st : StOk K M H S) (h0 : S a = some c0) (hc : CellOk K M (upd H a o) a c) : Stp M H S M (upd H a o) (S.upd a c) ∧ StOk K M (upd H a o) (S.upd a c) := by
  have ma := (st.cell a c0 h0).1
  have im : Imm M H M (upd H a o) := fun b u nm e => ⟨nm, by rw [upd_ne (fun z => nm (by rw [z]; exact ma))]; exact e⟩
  have hasW : ∀ b, M b → ∃ u, upd H a o b = some u := fun b m => by
    by_cases hb : b = a
    · subst hb; exact ⟨_, upd_same⟩
    · rw [upd_ne hb]; exact st.has b m
  refine ⟨⟨im, fun b m e => ?_, fun b u e => ?_⟩, upd_st st im (fun b c hb e => ⟨(st.cell b c e).1, upd_ne hb⟩) ma hc hasW⟩
  · have hb : b ≠ a := fun z => by rw [z, h0] at e; cases e
    exact ⟨m, upd_ne hb, by simp only [Store.upd, if_neg hb]; exact e⟩
  · by_cases hb : b = a
    · subst hb; exact ⟨_, upd_same⟩
    · rw [upd_ne hb]; exact ⟨u, e⟩
/-- x.pop(), x a list in the store -/
def mPopO (m : ME) : ME := fun env S Q R => m env S (fun d S1 => ∃ a l z, d = .obj a ∧ S1 a = some (.lst (l ++ [z])) ∧ Q z (S1.upd a (.lst l))) R
theorem denL_split {K : KC} {M : Addr → Prop} {H : Hp} {l : List D} {z : D} {vs : List V} (h : DenL K M H (l ++ [z]) vs) : ∃ ws v, vs = ws ++ [v] ∧ DenL K M H l ws ∧ Den K M H z v := by
  induction l generalizing vs with
  | nil =>
    match vs, h with
    | [v], h => simp only [List.nil_append, DenL, and_true] at h; exact ⟨[], v, rfl, by simp [DenL], h⟩
    | [], h => simp [DenL] at h
    | _ :: _ :: _, h => simp [DenL] at h
  | cons d l ih =>
    match vs, h with
    | v :: vs, h =>
      simp only [List.cons_append, DenL] at h
      obtain ⟨ws, u, e, h1, h2⟩ := ih h.2
      exact ⟨v :: ws, u, by rw [e]; rfl, by simp only [DenL]; exact ⟨h.1, h1⟩, h2⟩
    | [], h => simp [DenL] at h
theorem DPopO {o : Expr} {m : ME} {apos cpos : Pos} (ho : DE X Y W o m) (hbase : attributeBase o "pop" X.env (eval o X.env) = eval o X.env := by rfl) (hline : (apos.endLine == cpos.line) = true := by rfl) : DE X Y W (.Call (.Attribute o "pop" apos) [] [] cpos) (mPopO m) :=
  ⟨weakE (pe_bm0 PySem.F.plainAttrs_list PySem.F.slot_list_pop PySem.F.type_list_pop mt_pop ho.run hbase hline) fun σ H Q ⟨M, env, S, Qd, Rd, r, q, rx, k⟩ => ⟨M, env, S, _, Rd, r, q, rx, fun d S1 v M1 H1 ⟨a, l, z, e1, hs, q1⟩ p1 o1 dn => by
    subst e1
    simp only [Den] at dn
    obtain ⟨m1, vs, h1, d1⟩ := o1.cell a _ hs
    obtain ⟨ws, u, e2, d2, d3⟩ := denL_split d1
    subst e2
    have nxt : CellOk (kc X Y) M1 (upd H1 a (.lst ws)) a (.lst l) := ⟨ws, upd_same, DenL.mono (fun b x nm e => ⟨nm, by rw [upd_ne (fun z => nm (by rw [z]; exact m1))]; exact e⟩) _ _ d2⟩
    obtain ⟨p2, o2⟩ := cell_write o1 hs nxt
    refine ⟨by rw [dn]; exact .inl ⟨rfl, _, .inl (.inl h1)⟩, a, ws ++ [u], u, dn, rfl, h1, by simp, ?_⟩
    rw [List.dropLast_concat]
    exact k z _ u M1 _ q1 (p1.trans p2) o2 (Den.mono p2.imm _ _ d3)⟩⟩
/-- list(reversed(x)) -/
def mRevL (m : ME) : ME := fun env S Q R => m env S (fun d S1 => ∃ l, lstOf S1 d = some l ∧ Q (.lst l.reverse) S1) R
theorem DenL.reverse {K : KC} {M : Addr → Prop} {H : Hp} : ∀ {l : List D} {vs : List V}, DenL K M H l vs → DenL K M H l.reverse vs.reverse
  | [], [], _ => by simp [DenL]
  | d :: l, v :: vs, h => by
    simp only [DenL] at h
    rw [List.reverse_cons, List.reverse_cons]
    exact (DenL.reverse h.2).append (by simp only [DenL, and_true]; exact h.1)
  | [], _ :: _, h => by simp [DenL] at h
  | _ :: _, [], h => by simp [DenL] at h
theorem FRevL {e : Expr} {m : ME} {p p2 pos pos2 : Pos} (hc : X.calm = true) (hg : Gl X "list") (hm : X.mg "list" = none) (hg2 : Gl X "reversed") (hm2 : X.mg "reversed" = none) (he : DB X Y W e m) (hs : starEach [e] X.env = (false, eval e X.env) :: starEach [] X.env := by rfl)
    (hs2 : starEach [.Call (.Name "reversed" p2) [e] [] pos2] X.env = (false, eval (.Call (.Name "reversed" p2) [e] [] pos2) X.env) :: starEach [] X.env := by rfl) : DF X Y W (.Call (.Name "list" p) [.Call (.Name "reversed" p2) [e] [] pos2] [] pos) (mRevL m) :=
  ⟨weakE (pe_lstRev hc hg hm hg2 hm2 he.run hs hs2) fun σ H Q ⟨M, env, S, Qd, Rd, r, q, rx, k⟩ => ⟨M, env, S, _, Rd, r, q, rx, fun d S1 v M1 H1 ⟨l, e1, q1⟩ p1 o1 dn => by
    obtain ⟨a, vs, rfl, g, dl⟩ := lst_of o1 dn e1
    refine ⟨a, vs, rfl, SqL.of g, fun p hp => ?_⟩
    obtain ⟨f1, f2, f3, f4⟩ := fresh_fin o1 hp dl.reverse
    exact k _ S1 _ _ _ p _ q1 rfl (p1.trans f1) f2 (back_free p1.there hp) upd_same (.inr rfl) f3 f4⟩⟩
/-- return a fresh list of ints from 0 on, to be drawn from -/
def mRetG (m : ME) : MS := fun E env S => m env S (fun d S1 => ∃ ns : List Int, d = .lst (ns.map .int) ∧ (∀ n ∈ ns, 0 ≤ n) ∧ ∀ p, S1 p = none → E.rt (.obj p) (S1.upd p .gen)) (fun c S1 => E.ex c env S1)
theorem SRetG {e : Expr} {m : ME} {pos : Pos} (he : DF X Y W e m) : DS X Y W (.Return (some e) pos) (mRetG m) :=
  ⟨weakS (ps_ret he.run) fun D σ H ⟨M, env, S, E, r, q, e⟩ => ⟨M, env, S, _, _, r, q, e.rx r, fun d S1 M1 H1 l p vs ⟨ns, e1, nn, q1⟩ e2 p1 o1 hp h1 m1 s1 dn => by
    rw [e2] at e1; cases e1
    have hv := ints_den ns vs dn
    subst hv
    have rs := r.stp.trans p1
    refine e.rt _ _ _ M1 H1 (q1 p s1) ⟨rs.imm, fun a ma ea => ?_, rs.there⟩ (upd_st o1 Imm.refl (fun b c hb e => ⟨(o1.cell b c e).1, rfl⟩) m1 ⟨ns, h1, nn⟩ o1.has) (by simp [Den])
    obtain ⟨f1, f2, f3⟩ := rs.fr a ma ea
    have ha : a ≠ p := fun z => by
      have y1 : Y.H p = none := back_free r.stp.there hp
      rw [z, y1] at f2
      rw [f2] at h1; cases h1
    exact ⟨f1, f2, by simp only [Store.upd, if_neg ha]; exact f3⟩⟩⟩
/-- a def over a list in the store, called with the drawn numbers -/
theorem spD_gen {K : KC} {f : DSpec} {p : Addr} {ds : List D} {k : Int → Prop} {vs : List V} {H : Hp} {Q : VK} {E : XK}
    (hf : ∀ (ns : List Int) (S : Store) (Q : QE) (R : RE), (∀ n ∈ ns, 0 ≤ n) → S p = some (.lst (ns.map .int)) → (∀ (i : Int) (ns' : List Int), k i → (∀ n ∈ ns', (0 : Int) ≤ n) → Q (.int i) (S.upd p (.lst (ns'.map .int)))) → f ds S Q R)
    (h : ∃ (M : Addr → Prop) (S : Store) (Qd : QE) (Rd : RE), DenL K M H ds vs ∧ StOk K M H S ∧ (S p = some .gen ∧ ∀ i, k i → Qd (.int i) S) ∧ (∀ d S' v M' H', Qd d S' → Stp M H S M' H' S' → StOk K M' H' S' → Den K M' H' d v → Q v H') ∧ ∀ c S' M' H', Rd c S' → Stp M H S M' H' S' → StOk K M' H' S' → E (.ref (K.cl c)) none H') : spD K f vs H Q E := by
  obtain ⟨M, S, Qd, Rd, dn, st, ⟨hg, hq⟩, kq, ke⟩ := h
  obtain ⟨mp, ns, hp, nn⟩ := st.cell p _ hg
  have st2 : StOk K M H (S.upd p (.lst (ns.map .int))) := upd_st st Imm.refl (fun b c hb e => ⟨(st.cell b c e).1, rfl⟩) mp ⟨_, hp, den_ints ns⟩ st.has
  have up : ∀ (S : Store) c, (S.upd p c) p = some c := fun S c => by simp [Store.upd]
  refine ⟨M, S.upd p (.lst (ns.map .int)), ds, fun d S' => ∃ (i : Int) (ns' : List Int), d = .int i ∧ k i ∧ (∀ n ∈ ns', (0 : Int) ≤ n) ∧ S' = (S.upd p (.lst (ns.map .int))).upd p (.lst (ns'.map .int)), fun _ _ => False, dn, st2, hf ns _ _ _ nn (up _ _) fun i ns' hi hn => ⟨i, ns', rfl, hi, hn, rfl⟩, fun d S' v M' H' ⟨i, ns', e1, hi, hn, e2⟩ p1 o1 dd => ?_, fun _ _ _ _ z _ _ => z.elim⟩
  subst e1 e2
  obtain ⟨mp', us, hp', dl⟩ := o1.cell p _ (up _ _)
  have hu := ints_den ns' us dl
  subst hu
  refine kq _ S v M' H' (hq i hi) ⟨p1.imm, fun a m e => ?_, p1.there⟩ ⟨fun a c e => ?_, o1.has⟩ dd
  · have ha : a ≠ p := fun z => by rw [z, hg] at e; cases e
    obtain ⟨f1, f2, _⟩ := p1.fr a m (by simp only [Store.upd, if_neg ha]; exact e)
    exact ⟨f1, f2, e⟩
  · by_cases ha : a = p
    · subst ha
      rw [hg] at e; cases e
      exact ⟨mp', ns', hp', hn⟩
    · exact o1.cell a c (by simp only [Store.upd, if_neg ha]; exact e)

/-! ### isinstance of data -/
def D.tyName (S : Store) : D → Option String
  | .non => some "NoneType"
  | .bl _ => some "bool"
  | .int _ => some "int"
  | .str _ => some "str"
  | .lst _ => some "list"
  | .fz _ => none
  | .tup _ => none
  | .dik _ => some "dict"
  | .dit _ => some "dict"
  | .obj a => match S a with
    | some (.lst _) => some "list"
    | _ => none
  | .ins _ _ => none
theorem tyxT {K : PySem.W.Frag} {H : Hp} {a : Addr} {xs : List V} (h : SqT K H a xs) : TyX K H (.ref a) (.type "tuple") := by
  rcases h with (h | ⟨o, h⟩) | ⟨o, its, n, hk, hc, _⟩
  · exact .base (.tup h)
  · exact .fTuple h
  · exact .kTuple hk hc
/-- the built-in type of a value -/
def D.ty (S : Store) : D → Option String
  | .tup _ => some "tuple"
  | d => d.tyName S
theorem ty_of {K : KC} {M : Addr → Prop} {H : Hp} {S : Store} {d : D} {v : V} {T : String} (st : StOk K M H S) (h : DenB K M H S d v) (e : d.ty S = some T) : TyX K.K H v (.type T) := by
  cases d with
  | lst l =>
    obtain ⟨a, vs, rfl, h1, _⟩ := h.lst
    cases e; exact .base (.lst h1)
  | tup l =>
    obtain ⟨a, vs, rfl, h1, _⟩ := (h.den (fun l => by intro z; cases z)).tup
    cases e; exact tyxT h1
  | obj a =>
    have hd := h.den (fun l => by intro z; cases z)
    simp only [Den] at hd
    simp only [D.ty, D.tyName] at e
    cases hs : S a with
    | none => rw [hs] at e; cases e
    | some c =>
      rw [hs] at e
      cases c with
      | lst l =>
        cases e
        obtain ⟨_, vs, h1, _⟩ := st.cell a _ hs
        rw [hd]; exact .base (.lst h1)
      | _ => cases e
  | non => have hd := h.den (fun l => by intro z; cases z); simp only [Den] at hd; rw [hd]; cases e; exact .base .non
  | bl b => have hd := h.den (fun l => by intro z; cases z); simp only [Den] at hd; rw [hd]; cases e; exact .base (.bl b)
  | int i => have hd := h.den (fun l => by intro z; cases z); simp only [Den] at hd; rw [hd]; cases e; exact .base (.int i)
  | str x => have hd := h.den (fun l => by intro z; cases z); simp only [Den] at hd; rw [hd]; cases e; exact .base (.str x)
  | dik kvs =>
    have hd := h.den (fun l => by intro z; cases z)
    simp only [Den] at hd
    obtain ⟨a, us, rfl, h1, _⟩ := hd
    cases e; exact .base (.dK h1)
  | dit kvs =>
    have hd := h.den (fun l => by intro z; cases z)
    simp only [Den] at hd
    obtain ⟨a, us, rfl, h1, _⟩ := hd
    cases e; exact .base (.dT h1)
  | fz l => cases e
  | ins C fs => cases e
/-- isinstance(x, T), T a built-in type; the answers by a table -/
def isT (T : String) : String → Option Bool := fun t => if t = T then some true else if t = "bool" ∧ T = "int" then some true else if t ∈ ["NoneType", "bool", "int", "str", "list", "tuple", "dict"] then some false else none
def mIsT (T : String) (m : ME) : ME := fun env S Q R => m env S (fun d S1 => ∃ t b, d.ty S1 = some t ∧ isT T t = some b ∧ Q (.bl b) S1) R
theorem isT_kit (T : String) (h : T ∈ ["bool", "int", "str", "list", "tuple", "dict"]) : ∀ t b, isT T t = some b → kitB t T = some b := by
  intro t b e
  have ht : t ∈ ["NoneType", "bool", "int", "str", "list", "tuple", "dict"] := by
    unfold isT at e
    split at e
    · rename_i z; subst z; simp only [List.mem_cons, List.not_mem_nil, or_false] at h ⊢; exact .inr h
    · split at e
      · rename_i z; rw [z.1]; simp
      · split at e
        · assumption
        · cases e
  have key : ∀ T' ∈ ["bool", "int", "str", "list", "tuple", "dict"], ∀ t' ∈ ["NoneType", "bool", "int", "str", "list", "tuple", "dict"], isT T' t' = kitB t' T' := by decide +kernel
  rw [← key T h t ht]; exact e
end
end DL

set_option Elab.async false
set_option linter.all false
set_option maxRecDepth 100000
set_option maxHeartbeats 3200000
/-! sorted(set(xs)), ints, any number of them -/
namespace DL
open PySem PySem.Spec PyProof.Rows L2
section
variable {P : Program} {w : World} {A : Around} {E : Value → Shared → Prop} {s : Shared}
/-- a new set -/
abbrev nset (w : World) : Obj := { cls := .type "set", dict := none, data := .set #[] 0 (.fresh 0 0 (!w.params.followText "set-order")) }
theorem call_setI {l : Addr} {items : Array Value} (ns : List Int) {Q : Value → Shared → Prop} (hand : A.handled = none) (il : s.heap.IsList l items) (inl : IntsAre items.toList ns) (lt : ns.length + 1 < scanBound)
    (fin : ∀ (g : Heap) (t m : Nat), SetR w g s.heap.objs.size (fun j => decide (j ∈ ns)) m → m ≤ ns.length → (∀ b o, s.heap.get? b = some o → g.get? b = some o) → Q (.ref s.heap.objs.size) { s with heap := g, toks := t }) : wpAny (model P w) A (call (.type "set") [.ref l]) Q E s := by
  have size : items.size = ns.length := by have q := IntsAre.length inl; rw [Array.length_toList] at q; exact q
  obtain ⟨_, _, mro⟩ := F.called_set.mro
  have made := F.called_set.made; have sub0 := F.called_set.sub
  refine wpAny_call (codeAny_of_tree ?_); show wpAny _ _ (callAny (.type "set") _) _ _ _
  refine wpAny_pure ⟨Code.quiet_builtin _ (by decide +kernel), codeAny_builtin F.entry_type_call ?_⟩; rw [Around.under_plain (weight_type_call_type "set" [.ref l] []) rfl]
  have no1 := F.called_set.notType; have can2 := F.called_set.canCreate; have ch3 := F.typeCall_set_1 (.ref l)
  repeat (any_goals (first | assumption | wp_step))
  refine codeAny_mono (code_set_led1 (.ref l) (E := E) (Q₁ := fun obj z => obj = .ref s.heap.objs.size ∧ z = { s with heap := s.heap.push (nset w) }) ⟨rfl, rfl⟩) fun r s₁ hr => ?_
  cases r with
  | error e => exact hr
  | ok fl =>
    cases fl with
    | ret obj =>
      obtain ⟨rfl, rfl⟩ := hr
      have atS : (s.heap.push (nset w)).get? s.heap.objs.size = some (nset w) := Heap.get?_push_size _ rfl
      have tyS : Shared.TypeIs { s with heap := s.heap.push (nset w) } (.ref s.heap.objs.size) "set" := ⟨_, atS, rfl⟩
      have look := F.called_set.init.lookup; have bnd := F.called_set.init.bind (.ref s.heap.objs.size)
      repeat (any_goals (first | assumption | wp_step))
      refine codeAny_mono (codeAny_call_builtin (R := wants (fun r z => r = .none ∧ ∃ g t m, z = { s with heap := g, toks := t } ∧ SetR w g s.heap.objs.size (fun j => decide (j ∈ ns)) m ∧ m ≤ ns.length ∧ (∀ b o, s.heap.get? b = some o → g.get? b = some o)) E) F.called_set.init.plain F.entry_set_init (check_set_init_1 tyS ?_)) fun r₂ s₂ hr₂ => ?_
      · obtain ⟨⟨c0, d0, a0, k0⟩, ol, cl0, n0, dl0⟩ := il
        simp only at cl0 dl0; subst cl0 dl0
        have ol2 : (s.heap.push (nset w)).get? l = some { cls := .type "list", dict := d0, data := .seq items n0, slots := k0 } := Heap.get?_push_of_some _ ol
        have sl1 := F.sub_list_set; have sl2 := F.sub_list_frozenset
        have nd : (Value.type "list" == Value.type "dict") = false := by decide
        have il2 : (s.heap.push (nset w)).IsList l items := ⟨_, ol2, rfl, n0, rfl⟩
        unfold Builtin.«set.__init__» noKeywords Builtin.Frozenset.updateFrom
        generalize hPI : pyIter = PI; wp_walk; subst hPI
        refine wpAny_pyIter_list il2 ?_
        refine wpAny_bind (wpAny_runValue ?_)
        have ltl : l < s.heap.objs.size := Heap.lt_size ol
        have han3 : A.in1.in1.in1.handled = none := by simp [hand]
        have zz : (s.heap.push (nset w)).objs.size = s.heap.objs.size + 1 := Heap.size_push ..
        have neI : l ≠ (s.heap.push (nset w)).objs.size := by rw [zz]; exact Nat.ne_of_lt (Nat.lt_succ_of_lt ltl)
        have offS : s.heap.objs.size ∉ [(s.heap.push (nset w)).objs.size, l] := by
          rw [zz]; intro z; rcases List.mem_cons.mp z with z | z
          · exact Nat.ne_of_lt (Nat.lt_succ_self _) z
          · exact Nat.ne_of_gt ltl (List.mem_singleton.mp z)
        have vals : ∀ (i : Nat) (v : Value), items[i]? = some v → ∃ k t, ns[i]? = some k ∧ v = .int k t := fun i v hv => by
          have hi : i < ns.length := by rw [← size]; exact (Array.getElem?_eq_some_iff.mp hv).1
          obtain ⟨t, e⟩ := PyProof.Rows.IntsAre.int_at inl i v (by rw [Array.getElem?_toList]; exact hv)
          exact ⟨ns[i], t, List.getElem?_eq_getElem hi, by rw [e, List.getD_eq_getElem?_getD, List.getElem?_eq_getElem hi] <;> rfl⟩
        refine set_update_ints ((Walks.list han3 _ l neI items).toS) s.heap.objs.size offS ns size lt vals (items.size - 0) 0 _ (by omega) (Nat.zero_le _) ⟨⟨_, Heap.get?_push_size _ rfl, rfl, rfl⟩, (il2.push _)⟩ ?begin ?over
        case begin => exact ⟨0, Nat.le_refl 0, setR_new_at (Heap.get?_push_of_some _ atS)⟩
        case over =>
          intro z m hm hc hS
          obtain ⟨g, g2, d2, t2, o2⟩ := z
          have eg : g2 = s.gens := hm.gens
          have ed : d2 = s.drawn := hm.drawn
          have eo : o2 = s.os := hm.os
          subst eg ed eo
          show wpAny _ _ _ _ _ _
          refine wpAny_pure ?_
          show wpAny _ _ (ret Value.none) _ _ _
          rw [size] at hc
          refine wpAny_pure ⟨rfl, g, t2, m, rfl, hS, hc, fun b o e => ?_⟩
          have b0 : b < s.heap.objs.size := Heap.lt_size e
          exact hm.heap b o (fun z => (List.mem_cons.mp z).elim (Nat.ne_of_lt b0) fun y => Nat.ne_of_lt (Nat.lt_succ_of_lt b0) ((List.mem_singleton.mp y).trans zz)) (Heap.get?_push_of_some _ (Heap.get?_push_of_some _ e))
      · cases r₂ with
        | error e => exact hr₂
        | ok fl₂ =>
          cases fl₂ with
          | ret r =>
            obtain ⟨rfl, g, t, m, rfl, hS, hc, kp⟩ := hr₂
            repeat (any_goals (first | assumption | wp_step))
            exact fin _ _ _ hS hc kp
          | _ => exact hr₂.elim
    | _ => exact hr.elim
theorem sorted_setI {a : Addr} {S : Int → Bool} {n : Nat} {Q : Value → Shared → Prop} (R : SetR w s.heap a S n) (hand : A.handled = none)
    (fin : ∀ z p (out : Array Value) (m : Nat) (ns : List Int), (∀ b o, s.heap.get? b = some o → z.heap.get? b = some o) → z.gens = s.gens → z.os = s.os → s.heap.objs.size ≤ p → z.heap.get? p = some (seqObj "list" out m) →
      IntsAre out.toList ns → ns.Pairwise (· < ·) → (∀ k, k ∈ ns ↔ S k = true) → ns.length = n → n < scanBound → Q (.ref p) z) : wpAny (model P w) A (call (.builtin "sorted") [.ref a]) Q E s := by
  obtain ⟨o, es, ep, t, ho, hex, hd, g, nd, hm, hb, hf, hn, hr, hl⟩ := R
  refine Calls.call_function_entry kind_sorted plain_sorted entry_sorted (args_sorted1 _) ?_
  unfold Builtin.«sorted»
  refine wpAny_bind (m := checkCount "sorted" 1 1 _) (wpAny_pure ?_)
  refine wpAny_bind (collect_set (A := A.in1) hand ⟨o, ho, hex.1, hd⟩ hf hb hr hl fun s1 vs k1 hz g1 o1 pm => ?_)
  have lv : vs.length = n := by rw [pm.length_eq, List.length_map, Array.length_toList]; exact hn
  have hi : IntsAre vs (vs.map Builtin.Re.reRawOf) := L2.ints_of vs fun v hv => by
    obtain ⟨e, he, q⟩ := List.mem_map.mp (pm.mem_iff.mp hv)
    obtain ⟨k, tk, e1, _⟩ := g e he
    exact ⟨k, tk, q.symm.trans e1⟩
  have pk : (vs.map Builtin.Re.reRawOf).Perm (es.toList.map keyOf) := by have q := pm.map Builtin.Re.reRawOf; rw [List.map_map] at q; exact q
  have nb : n < scanBound := hn ▸ hb
  have small : vs.length ≤ sizeLine := by rw [lv, sizeLine_eq]; unfold scanBound at nb; omega
  refine wpAny_bind (wpAny_newList ?_ small)
  have ol : (s1.heap.push (seqObj "list" vs.toArray 0)).get? s1.heap.objs.size = some (seqObj "list" vs.toArray 0) := Heap.get?_push_size _ rfl
  refine wpAny_bind (wpAny_holding (wpAny_call_entry slot_list_sort ⟨_, ol, rfl⟩ entry_list_sort (SrtO.list_sort_ord SrtO.swo_int ol small (fun h2 => SrtO.ints_sortable hi h2) fun out h1 h2 => ⟨_, rfl, ?_⟩) (args_list_sort _)))
  obtain ⟨a1, a2, a3⟩ := SrtO.ints_out hi h1 h2
  obtain ⟨c, hc⟩ := sortedHeap_at (vs := vs) (out := out.toArray) ol
  have pn : (out.map SrtO.iv).Perm (es.toList.map keyOf) := a2.trans pk
  refine wpAny_pure ⟨_, rfl, fin _ s1.heap.objs.size out.toArray c _ (fun b u e => ?_) g1 o1 hz hc (by simpa using a1) (lt_of_le_nodup _ a3 (pn.nodup_iff.mpr nd)) (fun k => by rw [pn.mem_iff, ← hm k]) ?_ nb⟩
  · have q := k1 b u e
    have lt := Heap.lt_size q
    show (sortedHeap (s1.heap.push (seqObj "list" vs.toArray 0)) s1.heap.objs.size vs out.toArray).get? b = some u
    rw [sortedHeap_old (Nat.ne_of_lt lt) (by rw [size_push']; exact Nat.lt_succ_of_lt lt)]
    exact Heap.get?_push_of_some _ q
  · rw [pn.length_eq, List.length_map, Array.length_toList]; exact hn
end
/-- sorted(set(xs)) -/
def tSortSet (K : PySem.W.Frag) (ta : TE) : TE := fun σ H Q => ta σ H fun x H1 => ∃ (l : Addr) (ns : List Int), x = .ref l ∧ SqL K H1 l (ns.map V.int) ∧ ns.length + 1 < scanBound ∧ ∀ (out : List Int) (p : Addr), out.Pairwise (· < ·) → (∀ k, k ∈ out ↔ k ∈ ns) → H1 p = none → Q (.ref p) (upd H1 p (.lst (out.map V.int)))
theorem pe_sortSet {X : Cx} {a : Expr} {ta : TE} {p p2 q pos : Pos} (hc : X.calm = true) (hg : Gl X "sorted") (hm : X.mg "sorted" = none) (hg2 : Gl X "set") (hm2 : X.mg "set" = none) (ha : PE X a ta)
    (na : starEach [a] X.env = (false, eval a X.env) :: starEach [] X.env := by rfl) : PE X (.Call (.Name "sorted" p) [.Call (.Name "set" p2) [a] [] q] [] pos) (tSortSet X.K ta) := by
  refine ⟨fun pins s σ H Q I h => ?_⟩
  refine Call_ (ld_blt I hg hm boot_sorted ?_)
  refine PyProof.Rows.callWith_builtin1 (PyProof.Rows.args_cons ?_ rfl) rfl rfl
  refine Call_ (ld_blt I hg2 hm2 PyProof.Rows.boot_set ?_)
  refine PyProof.Rows.callWith_type1 (PyProof.Rows.args_cons (thn (ha.run pins s σ H _ I h) fun v s1 ⟨x, H1, I1, r1, q1⟩ => PyProof.Rows.args_nil ?_) na) na rfl
  obtain ⟨l, ns, rfl, hq, hl, q1⟩ := q1
  cases r1
  obtain ⟨its, r, pl, hz⟩ := I1.list hq
  refine call_setI ns (I1.ok.hd hc) pl.isList (by simpa using r.ints) hl fun h' tk m R hm kp => ?_
  refine PyProof.Rows.args_nil ?_
  have I2 : Inv X pins σ H1 { s1 with heap := h', toks := tk } := I1.kept fun b o e => kp b o e
  refine sorted_setI R (I2.ok.hd hc) fun z pp out c ns' k g o hp he hi pw mem len nb => ?_
  have hlen : (ns'.map V.int).length ≤ sizeLine := by rw [List.length_map, len, sizeLine_eq]; unfold scanBound at nb; omega
  have hn : H1 pp = none := I2.hok.fresh hp
  have J : Inv X pins σ (upd H1 pp (.lst (ns'.map V.int))) { s1 with heap := z.heap, gens := z.gens, drawn := z.drawn, toks := z.toks } :=
    I1.call (ch := []) (Un.laid (fun b u e => k b u (kp b u e)) (Nat.le_trans (Nat.le_of_lt R.lt) hp) hn) (I1.hok.laid (fun b u e => k b u (kp b u e)) (Nat.le_trans (Nat.le_of_lt R.lt) hp) ⟨hlen, out.toList, c, vals_of_ints hi, he⟩) (by rw [g]; exact I1.bare) (fun _ y => nomatch y)
  have e : z = { s1 with heap := z.heap, gens := z.gens, drawn := z.drawn, toks := z.toks } := by
    cases z; cases s1; cases o; rfl
  rw [e]
  exact ⟨.ref pp, _, J, rfl, q1 ns' pp pw (fun k => by rw [mem k]; simp) hn⟩
section
variable {X : Cx} {Y : En} {W : WX}
def mSortSet (m : ME) : ME := fun env S Q R => m env S (fun d S1 => ∃ ns : List Int, lstOf S1 d = some (ns.map .int) ∧ ns.length + 1 < scanBound ∧ ∀ out : List Int, out.Pairwise (· < ·) → (∀ k, k ∈ out ↔ k ∈ ns) → Q (.lst (out.map .int)) S1) R
theorem FSortSet {a : Expr} {m : ME} {p p2 q pos : Pos} (hc : X.calm = true) (hg : Gl X "sorted") (hm : X.mg "sorted" = none) (hg2 : Gl X "set") (hm2 : X.mg "set" = none) (ha : DB X Y W a m)
    (na : starEach [a] X.env = (false, eval a X.env) :: starEach [] X.env := by rfl) : DF X Y W (.Call (.Name "sorted" p) [.Call (.Name "set" p2) [a] [] q] [] pos) (mSortSet m) :=
  ⟨weakE (pe_sortSet hc hg hm hg2 hm2 ha.run na) fun σ H Q ⟨M, env, S, Qd, Rd, r, q, rx, k⟩ => ⟨M, env, S, _, Rd, r, q, rx, fun d S1 v M1 H1 ⟨ns, e1, hl, q1⟩ p1 o1 dn => by
    obtain ⟨a, vs, rfl, g, dl⟩ := lst_of o1 dn e1
    have hv := ints_den ns vs dl
    subst hv
    refine ⟨a, ns, rfl, SqL.of g, hl, fun out pp pw mem hp => ?_⟩
    obtain ⟨f1, f2, f3, f4⟩ := fresh_fin o1 hp (den_ints out)
    exact k _ S1 _ _ _ pp _ (q1 out pw mem) rfl (p1.trans f1) f2 (back_free p1.there hp) upd_same (.inr rfl) f3 f4⟩⟩
end
end DL

set_option Elab.async false
set_option linter.all false
set_option maxRecDepth 100000
set_option maxHeartbeats 3200000
/-! sorted(d), d a dict of ints, any number of them; set-up of dicts, fields, methods, new instances -/
namespace DL
open PySem PySem.Spec PyProof.Rows L2
section
variable {X : Cx}
theorem call_sortDI (hcalm : X.calm = true) : CallR X (.builtin "sorted") (fun xs H Q => ∃ (a : Addr) (kvs : List (Key × V)) (ks : List Int), xs = [.ref a] ∧ Rd H a (.dK kvs) ∧ kvs.map (·.1) = ks.map Sum.inl ∧
    ∀ (ys : List Int) (p : Addr), ys.Perm ks → ys.Pairwise (· ≤ ·) → H p = none → Q (.ref p) (upd H p (.lst (ys.map V.int)))) := by
  intro pins s σ H xs us Q I r ⟨a, kvs, ks, ex, hd, hks, q⟩
  subst ex
  obtain ⟨u, eu, rx⟩ := vals1 r
  subst eu; cases rx
  obtain ⟨z, lo, vs, rel, dd⟩ := dk_rd I.hok hd
  obtain ⟨ep, dat⟩ := dd.dictAt
  have keys : vs.map (·.1) = ks.map Sum.inl := rel.keys.symm.trans hks
  have len : vs.length = ks.length := by have e := congrArg List.length keys; rw [List.length_map, List.length_map] at e; exact e
  have small : vs.length ≤ sizeLine := by rw [← rel.length]; exact z
  refine Calls.call_function_entry PyProof.Rows.kind_sorted PyProof.Rows.plain_sorted PyProof.Rows.entry_sorted (PyProof.Rows.args_sorted1 _) ?_; unfold Builtin.«sorted»
  refine wpAny_bind (m := checkCount "sorted" 1 1 _) (wpAny_pure ?_)
  refine wpAny_bind (PySem.W.kdu_collect (A := X.A.in1) (PySem.W.kdl_dict (knd := mixKind X.prog X.w) (kvs := vs) (ep := ep) lo) (I.ok.hd hcalm) dat small fun g tk acc hk hacc => ?_)
  have al : acc.toList.length = ks.length := by rw [Array.length_toList, hacc.1, len]
  have hS : IntsAre acc.toList ks := ints_each al fun j v e => by
    obtain ⟨k, x, e1, e2⟩ := hacc.2 j v (by rw [← Array.getElem?_toList]; exact e)
    have e3 : (vs.map (·.1))[j]? = some k := by rw [List.getElem?_map, e1]; rfl
    rw [keys, List.getElem?_map] at e3
    cases e4 : ks[j]? with
    | none => rw [e4] at e3; cases e3
    | some y =>
      rw [e4] at e3; have e5 : Sum.inl y = k := Option.some.inj e3; subst e5
      rcases keyIs_shape (show keyIs (Sum.inl y) v = true from e2) with ⟨i, t, ek, ev⟩ | ⟨z, t, ek, ev⟩
      · cases ek; exact ⟨y, t, rfl, ev⟩
      · cases ek
  have I1 : Inv X pins σ H { s with heap := g, toks := tk } := I.kept hk
  have as : acc.toList.length ≤ sizeLine := by rw [al, ← len]; exact small
  refine wpAny_bind (wpAny_newList ?_ as)
  have ol : (g.push (seqObj "list" acc.toList.toArray 0)).get? g.objs.size = some (seqObj "list" acc.toList.toArray 0) := Heap.get?_push_size _ rfl
  show wpAny _ _ _ _ _ { s with heap := g.push (seqObj "list" acc.toList.toArray 0), toks := tk }
  refine wpAny_bind (wpAny_holding (wpAny_call_entry PyProof.Rows.slot_list_sort ⟨_, ol, rfl⟩ PyProof.Rows.entry_list_sort (SrtO.list_sort_ord (s := { s with heap := g.push (seqObj "list" acc.toList.toArray 0), toks := tk }) SrtO.swo_int ol as (fun h2 => SrtO.ints_sortable hS h2) fun out h1 h2 => ⟨_, rfl, ?_⟩) (PyProof.Rows.args_list_sort _)))
  obtain ⟨k1, k2, k3⟩ := SrtO.ints_out hS h1 h2
  obtain ⟨e', he'⟩ := PyProof.Rows.sortedHeap_at (vs := acc.toList) (out := out.toArray) ol
  have hlen : ((out.map SrtO.iv).map V.int).length ≤ sizeLine := by rw [List.length_map, k2.length_eq, ← len]; exact small
  refine wpAny_pure ⟨_, rfl, .ref g.objs.size, upd H g.objs.size (.lst ((out.map SrtO.iv).map V.int)), I1.laid (t' := tk) (fun b u e => ?_) (Nat.le_refl _) ⟨hlen, out, e', vals_of_ints k1, he'⟩, rfl, q _ _ k2 k3 (I1.hok.fresh (Nat.le_refl _))⟩
  have lt := Heap.lt_size e
  show (sortedHeap (g.push (seqObj "list" acc.toList.toArray 0)) g.objs.size acc.toList out.toArray).get? b = some u
  rw [sortedHeap_old (Nat.ne_of_lt lt) (by rw [size_push']; exact Nat.lt_succ_of_lt lt)]
  exact Heap.get?_push_of_some _ e
end
/-! ### dicts as data -/
def dGet {α : Type} (kvs : List (Key × α)) (k : Key) : Option α := (kvs.find? fun kv => decide (kv.1 = k)).map (·.2)
def dPut {α : Type} (kvs : List (Key × α)) (k : Key) (v : α) : List (Key × α) := if (kvs.any fun kv => decide (kv.1 = k)) = true then kvs.map (fun kv => if kv.1 = k then (kv.1, v) else kv) else kvs ++ [(k, v)]
section
variable {K : KC} {M : Addr → Prop} {H : Hp}
theorem DenK.get : ∀ {kvs : List (Key × D)} {us : List (Key × V)}, DenK K M H kvs us → ∀ k, (dGet kvs k = none ∧ valV us k = none) ∨ ∃ d v, dGet kvs k = some d ∧ valV us k = some v ∧ Den K M H d v
  | [], [], _, k => .inl ⟨rfl, rfl⟩
  | (x, d) :: kvs, (y, v) :: us, h, k => by
    simp only [DenK] at h
    obtain ⟨e, h1, h2⟩ := h
    subst e
    by_cases hk : x = k
    · exact .inr ⟨d, v, by simp [dGet, List.find?_cons, hk], valV_pos hk, h1⟩
    · have e1 : dGet ((x, d) :: kvs) k = dGet kvs k := by simp [dGet, List.find?_cons, hk]
      rw [e1, valV_neg hk]
      exact DenK.get h2 k
  | [], _ :: _, h, _ => by simp [DenK] at h
  | _ :: _, [], h, _ => by simp [DenK] at h
theorem DenK.len : ∀ {kvs : List (Key × D)} {us : List (Key × V)}, DenK K M H kvs us → kvs.length = us.length
  | [], [], _ => rfl
  | _ :: _, _ :: _, h => by simp only [DenK] at h; simp [DenK.len h.2.2]
  | [], _ :: _, h => by simp [DenK] at h
  | _ :: _, [], h => by simp [DenK] at h
theorem DenK.keys : ∀ {kvs : List (Key × D)} {us : List (Key × V)}, DenK K M H kvs us → us.map (·.1) = kvs.map (·.1)
  | [], [], _ => rfl
  | (x, d) :: _, (y, v) :: _, h => by simp only [DenK] at h; simp [DenK.keys h.2.2, h.1]
  | [], _ :: _, h => by simp [DenK] at h
  | _ :: _, [], h => by simp [DenK] at h
theorem DenK.app : ∀ {kvs : List (Key × D)} {us : List (Key × V)} {k : Key} {d : D} {v : V}, DenK K M H kvs us → Den K M H d v → DenK K M H (kvs ++ [(k, d)]) (us ++ [(k, v)])
  | [], [], _, _, _, _, h => by simp only [List.nil_append, DenK]; exact ⟨trivial, h, trivial⟩
  | (_, _) :: _, (_, _) :: _, _, _, _, h, h' => by
    simp only [DenK, List.cons_append] at h ⊢
    exact ⟨h.1, h.2.1, DenK.app h.2.2 h'⟩
  | [], _ :: _, _, _, _, h, _ => by simp [DenK] at h
  | _ :: _, [], _, _, _, h, _ => by simp [DenK] at h
theorem DenK.map : ∀ {kvs : List (Key × D)} {us : List (Key × V)} {k : Key} {d : D} {v : V}, DenK K M H kvs us → Den K M H d v → DenK K M H (kvs.map fun kv => if kv.1 = k then (kv.1, d) else kv) (us.map fun kv => if kv.1 = k then (kv.1, v) else kv)
  | [], [], _, _, _, _, _ => by simp [DenK]
  | (x, _) :: _, (y, _) :: _, k, _, _, h, h' => by
    simp only [DenK, List.map_cons] at h ⊢
    obtain ⟨e, h1, h2⟩ := h
    subst e
    by_cases hk : x = k
    · simp only [hk, if_true, DenK]
      exact ⟨trivial, h', DenK.map h2 h'⟩
    · simp only [hk, if_false, DenK]
      exact ⟨trivial, h1, DenK.map h2 h'⟩
  | [], _ :: _, _, _, _, h, _ => by simp [DenK] at h
  | _ :: _, [], _, _, _, h, _ => by simp [DenK] at h
theorem DenK.put {kvs : List (Key × D)} {us : List (Key × V)} {d : D} {v : V} (h : DenK K M H kvs us) (h' : Den K M H d v) (k : Key) : DenK K M H (dPut kvs k d) (putK us k v) := by
  have e : (us.any fun kv => decide (kv.1 = k)) = kvs.any fun kv => decide (kv.1 = k) := by
    have z : ∀ {α : Type} (l : List (Key × α)), (l.any fun kv => decide (kv.1 = k)) = (l.map (·.1)).any fun x => decide (x = k) := fun l => by rw [List.any_map]; rfl
    rw [z us, z kvs, h.keys]
  unfold dPut putK
  rw [e]
  split
  · exact h.map h'
  · exact h.app h'
end
end DL

set_option Elab.async false
set_option linter.all false
set_option maxRecDepth 100000
set_option maxHeartbeats 2000000
/-! isinstance, globals, dicts, fields, methods, new instances on data -/
namespace DL
open PySem PySem.Spec PyProof.Rows L2
/-! ### cells come and go -/
theorem new_cell {K : KC} {M : Addr → Prop} {H : Hp} {S : Store} {p : Addr} {o : HO} {c : Cell} (st : StOk K M H S) (hp : H p = none) (hc : CellOk K (orP M p) (upd H p o) p c) :
    Stp M H S (orP M p) (upd H p o) (S.upd p c) ∧ StOk K (orP M p) (upd H p o) (S.upd p c) ∧ S p = none := by
  have i : Imm M H (orP M p) (upd H p o) := fun a o nm e => by
    have hne : a ≠ p := ne_of_none e hp
    exact ⟨fun z => z.elim nm hne, by rw [upd_ne hne]; exact e⟩
  have hm := st.free hp
  have hs := st.freeS hp
  refine ⟨⟨i, fun a m e => ?_, fun a u e => ⟨u, by rw [upd_ne (ne_of_none e hp)]; exact e⟩⟩, upd_st st i (fun b c hb e => ⟨.inl (st.cell b c e).1, upd_ne hb⟩) (.inr rfl) hc fun a m => ?_, hs⟩
  · have hne : a ≠ p := fun z => hm (z ▸ m)
    exact ⟨.inl m, upd_ne hne, by simp only [Store.upd, if_neg hne]; exact e⟩
  · rcases m with m | m
    · obtain ⟨u, e⟩ := st.has a m
      exact ⟨u, by rw [upd_ne (ne_of_none e hp)]; exact e⟩
    · exact ⟨_, by rw [m]; exact upd_same⟩
theorem Stp.era {M : Addr → Prop} {H : Hp} {S : Store} (p : Addr) : Stp M H S M H (S.era p) := ⟨Imm.refl, fun a m e => ⟨m, rfl, by
  by_cases ha : a = p
  · simp [Store.era, ha]
  · simp only [Store.era, if_neg ha]; exact e⟩, fun a o e => ⟨o, e⟩⟩
/-- a cell is kept as it is from here on -/
theorem freeze_cell {K : KC} {M : Addr → Prop} {H : Hp} {S : Store} {p : Addr} {c : Cell} (st : StOk K M H S) (hp : S p = some c) :
    Stp M H S (andN M p) H (S.era p) ∧ StOk K (andN M p) H (S.era p) ∧ ¬ andN M p p ∧ Imm M H (andN M p) H := by
  have i2 : Imm M H (andN M p) H := fun a o nm e => ⟨fun z => nm z.1, e⟩
  refine ⟨⟨i2, fun a m e => ?_, fun a o e => ⟨o, e⟩⟩, ⟨fun a c' e => ?_, fun a m => st.has a m.1⟩, fun z => z.2 rfl, i2⟩
  · have hne : a ≠ p := fun z => by rw [z, hp] at e; cases e
    exact ⟨⟨m, hne⟩, rfl, by simp only [Store.era, if_neg hne]; exact e⟩
  · by_cases ha : a = p
    · subst ha; simp [Store.era] at e
    · simp only [Store.era, if_neg ha] at e
      obtain ⟨m, hc⟩ := st.cell a c' e
      exact ⟨⟨m, ha⟩, hc.mono i2 rfl⟩
/-- what a cell is as a tree -/
def Cell.d : Cell → Option D
  | .lst l => some (.lst l)
  | .ins C fs => some (.ins C fs)
  | .gen => none
  | .dik kvs => some (.dik kvs)
  | .dit kvs => some (.dit kvs)
theorem frozen {K : KC} {M M' : Addr → Prop} {H : Hp} {p : Addr} {c : Cell} {d : D} (hc : CellOk K M H p c) (e : c.d = some d) (i : Imm M H M' H) (nm : ¬ M' p) : Den K M' H d (.ref p) := by
  cases c with
  | gen => cases e
  | lst l => cases e; obtain ⟨vs, h1, h2⟩ := hc; simp only [Den]; exact ⟨p, vs, rfl, h1, nm, DenL.mono i _ _ h2⟩
  | ins C fs => cases e; obtain ⟨dx, vs, h1, h2⟩ := hc; simp only [Den]; exact ⟨p, dx, vs, rfl, h1, nm, DenF.mono i _ _ h2⟩
  | dik l => cases e; obtain ⟨vs, h1, h2⟩ := hc; simp only [Den]; exact ⟨p, vs, rfl, h1, nm, DenK.mono i _ _ h2⟩
  | dit l => cases e; obtain ⟨vs, h1, h2⟩ := hc; simp only [Den]; exact ⟨p, vs, rfl, h1, nm, DenT.mono i _ _ h2⟩
/-! ### fields as data -/
def putFD (f : Str) (v : D) : List (Str × D) → List (Str × D)
  | [] => [(f, v)]
  | (g, x) :: r => if g = f then (g, v) :: r else (g, x) :: putFD f v r
section
variable {K : KC} {M M' : Addr → Prop} {H : Hp}
theorem DenF.len : ∀ {fs : List (Str × D)} {us : List (Str × V)}, DenF K M H fs us → fs.length = us.length
  | [], [], _ => rfl
  | _ :: _, _ :: _, h => by simp only [DenF] at h; simp [DenF.len h.2.2]
  | [], _ :: _, h => by simp [DenF] at h
  | _ :: _, [], h => by simp [DenF] at h
theorem DenF.look : ∀ {fs : List (Str × D)} {us : List (Str × V)}, DenF K M H fs us → ∀ f, (fs.lookup f = none ∧ us.lookup f = none) ∨ ∃ d v, fs.lookup f = some d ∧ us.lookup f = some v ∧ Den K M H d v
  | [], [], _, _ => .inl ⟨rfl, rfl⟩
  | (x, d) :: fs, (y, v) :: us, h, f => by
    simp only [DenF] at h
    obtain ⟨e, h1, h2⟩ := h
    subst e
    by_cases hk : (f == x) = true
    · exact .inr ⟨d, v, by simp [List.lookup, hk], by simp [List.lookup, hk], h1⟩
    · rw [List.lookup_cons, List.lookup_cons]
      simp only [hk]
      exact DenF.look h2 f
  | [], _ :: _, h, _ => by simp [DenF] at h
  | _ :: _, [], h, _ => by simp [DenF] at h
theorem DenF.put : ∀ {fs : List (Str × D)} {us : List (Str × V)} {f : Str} {d : D} {v : V}, DenF K M H fs us → Den K M H d v → DenF K M H (putFD f d fs) (putF f v us)
  | [], [], _, _, _, _, h => by simp only [putFD, putF, DenF]; exact ⟨trivial, h, trivial⟩
  | (x, _) :: fs, (y, _) :: us, f, d, v, h, h' => by
    simp only [DenF] at h
    obtain ⟨e, h1, h2⟩ := h
    subst e
    unfold putFD putF
    by_cases hk : x = f
    · rw [if_pos hk, if_pos hk]; simp only [DenF]; exact ⟨trivial, h', h2⟩
    · rw [if_neg hk, if_neg hk]; simp only [DenF]; exact ⟨trivial, h1, DenF.put h2 h'⟩
  | [], _ :: _, _, _, _, h, _ => by simp [DenF] at h
  | _ :: _, [], _, _, _, h, _ => by simp [DenF] at h
/-- a field is seen otherwise -/
theorem DenF.see : ∀ {fs : List (Str × D)} {us : List (Str × V)} {f : Str} {d d' : D}, DenF K M H fs us → fs.lookup f = some d → Imm M H M' H → (∀ v, Den K M H d v → Den K M' H d' v) → DenF K M' H (putFD f d' fs) us
  | [], [], _, _, _, _, e, _, _ => by simp at e
  | (x, y) :: fs, (y', _) :: us, f, d, d', h, e, i, k => by
    simp only [DenF] at h
    obtain ⟨e0, h1, h2⟩ := h
    subst e0
    unfold putFD
    by_cases hk : x = f
    · rw [if_pos hk]
      subst hk
      rw [List.lookup_cons] at e
      simp only [beq_self_eq_true] at e
      cases e
      simp only [DenF]; exact ⟨trivial, k _ h1, DenF.mono i _ _ h2⟩
    · rw [if_neg hk]
      rw [List.lookup_cons] at e
      have hb : (f == x) = false := by simpa using fun z => hk z.symm
      simp only [hb] at e
      simp only [DenF]; exact ⟨trivial, Den.mono i _ _ h1, DenF.see h2 e i k⟩
  | [], _ :: _, _, _, _, h, _, _, _ => by simp [DenF] at h
  | _ :: _, [], _, _, _, h, _, _, _ => by simp [DenF] at h
end
/-- an instance, seen or in the store -/
def insOf (S : Store) : D → Option (Nat × List (Str × D))
  | .ins C fs => some (C, fs)
  | .obj a => match S a with
    | some (.ins C fs) => some (C, fs)
    | _ => none
  | _ => none
theorem ins_of {K : KC} {M : Addr → Prop} {H : Hp} {S : Store} {d : D} {v : V} {C : Nat} {fs : List (Str × D)} (st : StOk K M H S) (h : Den K M H d v) (e : insOf S d = some (C, fs)) : ∃ a dx us, v = .ref a ∧ H a = some (.ins (K.cl C) dx us) ∧ DenF K M H fs us := by
  cases d with
  | ins C' fs' => cases e; simp only [Den] at h; obtain ⟨a, dx, us, e1, e2, _, e3⟩ := h; exact ⟨a, dx, us, e1, e2, e3⟩
  | obj a =>
    simp only [insOf] at e
    cases hs : S a with
    | none => rw [hs] at e; cases e
    | some c =>
      rw [hs] at e
      cases c <;> simp only [reduceCtorEq, Option.some.injEq, Prod.mk.injEq] at e
      obtain ⟨rfl, rfl⟩ := e
      obtain ⟨_, dx, us, h1, h2⟩ := st.cell a _ hs
      simp only [Den] at h
      exact ⟨a, dx, us, h, h1, h2⟩
  | _ => cases e
def dikOf (S : Store) : D → Option (List (Key × D))
  | .dik kvs => some kvs
  | .obj a => match S a with
    | some (.dik kvs) => some kvs
    | _ => none
  | _ => none
theorem dik_of {K : KC} {M : Addr → Prop} {H : Hp} {S : Store} {d : D} {v : V} {kvs : List (Key × D)} (st : StOk K M H S) (h : Den K M H d v) (e : dikOf S d = some kvs) : ∃ a us, v = .ref a ∧ H a = some (.dK us) ∧ DenK K M H kvs us := by
  cases d with
  | dik kvs' => cases e; simp only [Den] at h; obtain ⟨a, us, e1, e2, _, e3⟩ := h; exact ⟨a, us, e1, e2, e3⟩
  | obj a =>
    simp only [dikOf] at e
    cases hs : S a with
    | none => rw [hs] at e; cases e
    | some c =>
      rw [hs] at e
      cases c <;> simp only [reduceCtorEq, Option.some.injEq] at e
      subst e
      obtain ⟨_, us, h1, h2⟩ := st.cell a _ hs
      simp only [Den] at h
      exact ⟨a, us, h, h1, h2⟩
  | _ => cases e
def keyD : D → Option Key
  | .int i => some (.inl i)
  | .str x => some (.inr x)
  | _ => none
theorem key_of {K : KC} {M : Addr → Prop} {H : Hp} {d : D} {v : V} {k : Key} (h : Den K M H d v) (e : keyD d = some k) : v = kV k := by
  cases d with
  | int i => cases e; simp only [Den] at h; rw [h]; rfl
  | str x => cases e; simp only [Den] at h; rw [h]; rfl
  | _ => cases e
section
variable {X : Cx} {Y : En} {W : WX}
/-! ### names of the module -/
theorem d_glob {d : D} {v : V} {x : Str} {u : Value} {pos : Pos} (hg : Gl X x) (hm : X.mg x = some u) (r : RelV v u) (hd : ∀ M H, Den (kc X Y) M H d v) (hdb : (x == ("__debug__" : Str)) = false := by decide) : DE X Y W (.Name x pos) (mC d) :=
  ⟨weakE (pe_glob hg hm r hdb) fun σ H Q ⟨M, env, S, Qd, Rd, r, q, rx, k⟩ => k _ S _ M H q Stp.refl r.st (hd M H)⟩
/-! ### isinstance -/
theorem DIsT {T : Str} {Ts : String} {e : Expr} {m : ME} {p p2 pos : Pos} (hg : Gl X "isinstance") (hm : X.mg "isinstance" = none) (hgT : Gl X T) (hmT : X.mg T = none) (hv : bootBuiltins T = some (.type Ts)) (hT : Ts ∈ ["bool", "int", "str", "list", "tuple", "dict"]) (he : DB X Y W e m)
    (hn : T ≠ "__name__" := by decide) (hdb : (T == ("__debug__" : Str)) = false := by decide) (hs : starEach [e, .Name T p2] X.env = (false, eval e X.env) :: starEach [.Name T p2] X.env := by rfl) (hs2 : starEach [.Name T p2] X.env = (false, eval (.Name T p2) X.env) :: starEach [] X.env := by rfl)
    (hpl : (backTo pos (starEach [.Name T p2] X.env)).any (·.1) = false := by rfl) : DE X Y W (.Call (.Name "isinstance" p) [e, .Name T p2] [] pos) (mIsT Ts m) :=
  ⟨weakE (pe_callB call_isi hg hm (by rfl) (pa_cons he.run (pa_cons (pe_bltn hgT hmT hv (v := .ty Ts) rfl hn hdb) pa_nil hs2) hs) (by decide) (by decide) hs hpl) fun σ H Q ⟨M, env, S, Qd, Rd, r, q, rx, k⟩ => ⟨M, env, S, _, Rd, r, q, rx, fun d S1 v M1 H1 ⟨t, b, e1, e2, q1⟩ p1 o1 dn =>
    ⟨v, .ty Ts, .type t, .type Ts, b, rfl, .ty Ts, ty_of o1 dn e1, kit_ty (isT_kit Ts hT t b e2), k _ S1 _ M1 H1 q1 p1 o1 (by simp [Den])⟩⟩⟩
/-! ### fields -/
def mFld (C : Nat) (f : Str) (m : ME) : ME := fun env S Q R => m env S (fun d S1 => ∃ fs v, insOf S1 d = some (C, fs) ∧ fs.lookup f = some v ∧ Q v S1) R
theorem DFld (C : Nat) {e : Expr} {f : Str} {m : ME} {pos : Pos} (c : Cls X.K (Y.cl C)) (n : NoAttr X.K (Y.cl C) f) (he : DE X Y W e m) (hb : attributeBase e f X.env (eval e X.env) = eval e X.env := by rfl) : DE X Y W (.Attribute e f pos) (mFld C f m) :=
  ⟨weakE (pe_fld he.run hb) fun σ H Q ⟨M, env, S, Qd, Rd, r, q, rx, k⟩ => ⟨M, env, S, _, Rd, r, q, rx, fun d S1 v M1 H1 ⟨fs, z, e1, e2, q1⟩ p1 o1 dn => by
    obtain ⟨a, dx, us, rfl, h1, h2⟩ := ins_of o1 dn e1
    rcases h2.look f with ⟨h3, _⟩ | ⟨d', u, h3, h4, h5⟩
    · rw [e2] at h3; cases h3
    · rw [e2] at h3; cases h3
      exact ⟨a, _, dx, us, u, rfl, h1, c, n, h4, k _ S1 _ M1 H1 q1 p1 o1 h5⟩⟩⟩
def mSetF (C : Nat) (f : Str) (mo mv : ME) : MS := fun E env S => mv env S (fun z S1 => mo env S1 (fun d S2 => ∃ a fs, d = .obj a ∧ S2 a = some (.ins C fs) ∧ fs.length < 1000 ∧ E.nx env (S2.upd a (.ins C (putFD f z fs)))) (fun c S2 => E.ex c env S2)) (fun c S1 => E.ex c env S1)
theorem SSetF (C : Nat) {o value : Expr} {f : Str} {mo mv : ME} {pos pos' : Pos} (c : Cls X.K (Y.cl C)) (n : NoAttr X.K (Y.cl C) f) (ho : DE X Y W o mo) (hv : DE X Y W value mv) (hs : swapsWith value (some (.Attribute o f pos')) pos.line X.env = pure false := by rfl) : DS X Y W (.Assign [.Attribute o f pos'] value pos) (mSetF C f mo mv) :=
  ⟨weakS (ps_fld ho.run hv.run hs) fun D σ H ⟨M, env, S, E, r, q, ee⟩ => ⟨M, env, S, _, _, r, q, ee.rx r, fun z S1 v M1 H1 q1 p1 o1 dn => ⟨M1, env, S1, _, _, r.step p1 o1, q1, (ee.later p1.imm).rx (r.step p1 o1), fun d S2 u M2 H2 ⟨a, fs, e1, e2, hl, q2⟩ p2 o2 dn2 => by
    subst e1
    simp only [Den] at dn2
    subst dn2
    obtain ⟨m2, dx, us, h1, h2⟩ := o2.cell a _ e2
    have dz := Den.mono p2.imm _ _ dn
    have im : Imm M2 H2 M2 (upd H2 a (.ins (Y.cl C) dx (putF f v us))) := fun b x nm e => ⟨nm, by rw [upd_ne (fun z => nm (by rw [z]; exact m2))]; exact e⟩
    obtain ⟨p3, o3⟩ := cell_write o2 e2 (c := .ins C (putFD f z fs)) ⟨dx, _, upd_same, DenF.mono im _ _ (h2.put dz)⟩
    exact ⟨a, _, dx, us, rfl, h1, c, n, by rw [← h2.len]; exact hl, ee.nx _ _ _ _ _ q2 (r.step ((p1.trans p2).trans p3) o3) ((p1.trans p2).trans p3).imm⟩⟩⟩⟩
/-- a ghost ahead of a block: the cell in field f of the instance in slot i is kept as it is from here on -/
def mFrzF (i : Nat) (f : Str) (m : MS) : MS := fun E env S => ∃ x C fs q c d, env[i]? = some (.val (.obj x)) ∧ S x = some (.ins C fs) ∧ fs.lookup f = some (.obj q) ∧ S q = some c ∧ c.d = some d ∧ x ≠ q ∧ m E env ((S.era q).upd x (.ins C (putFD f d fs)))
theorem SsFrzF (i : Nat) (f : Str) {ss : List Stmt} {m : MS} (h : DSs X Y W ss m) : DSs X Y W ss (mFrzF i f m) :=
  ⟨weakSs h.run fun D σ H ⟨M, env, S, E, r, ⟨x, C, fs, q, c, d, e1, e2, e3, e4, e5, ne, qq⟩, ee⟩ => by
    obtain ⟨p1, o1, nm, im⟩ := freeze_cell r.st e4
    have e2' : (S.era q) x = some (.ins C fs) := by simp only [Store.era, if_neg ne]; exact e2
    obtain ⟨mx, dx, us, h1, h2⟩ := r.st.cell x _ e2
    have hf := frozen (r.st.cell q _ e4).2 e5 im nm
    have o2 : StOk (kc X Y) (andN M q) H ((S.era q).upd x (.ins C (putFD f d fs))) := upd_st o1 Imm.refl (fun b c hb e => ⟨(o1.cell b c e).1, rfl⟩) ⟨mx, ne⟩ ⟨dx, us, h1, h2.see e3 im fun v hv => by simp only [Den] at hv; rw [hv]; exact hf⟩ o1.has
    have p2 : Stp (andN M q) H (S.era q) (andN M q) H ((S.era q).upd x (.ins C (putFD f d fs))) := ⟨Imm.refl, fun a m e => ⟨m, rfl, by
      have hne : a ≠ x := fun z => by rw [z, e2'] at e; cases e
      simp only [Store.upd, if_neg hne]; exact e⟩, fun a o e => ⟨o, e⟩⟩
    exact ⟨_, env, _, E, r.step (p1.trans p2) o2, qq, ee.later (p1.trans p2).imm⟩⟩
/-! ### dicts -/
def mNewD : ME := fun _ S Q _ => ∀ q, S q = none → Q (.obj q) (S.upd q (.dik []))
theorem DNewD {pos : Pos} : DE X Y W (.Dict [] [] pos) mNewD :=
  ⟨weakE pe_dnewK fun σ H Q ⟨M, env, S, Qd, Rd, r, q, rx, k⟩ p hp => by
    obtain ⟨p1, o1, s1⟩ := new_cell (o := .dK []) (c := .dik []) r.st hp ⟨[], upd_same, by simp [DenK]⟩
    exact k _ _ _ _ _ (q p s1) p1 o1 (by simp [Den])⟩
def mSetd (md mk mv : ME) : ME := fun env S Q R => md env S (fun d S1 => ∃ a kvs0, d = .obj a ∧ S1 a = some (.dik kvs0) ∧ mk env S1 (fun k S2 => mv env S2 (fun z S3 => ∃ kvs key, S3 a = some (.dik kvs) ∧ keyD k = some key ∧ kvs.length < sizeLine ∧
  (∀ v, dGet kvs key = some v → Q v S3) ∧ (dGet kvs key = none → Q z (S3.upd a (.dik (dPut kvs key z))))) R) R) R
theorem DSetd {o e f : Expr} {md mk mv : ME} {apos cpos : Pos} (ho : DE X Y W o md) (he : DE X Y W e mk) (hf : DE X Y W f mv) (m : M2 X o "setdefault" apos e f cpos) : DE X Y W (.Call (.Attribute o "setdefault" apos) [e, f] [] cpos) (mSetd md mk mv) :=
  ⟨weakE (pe_dsetd ho.run he.run hf.run m) fun σ H Q ⟨M, env, S, Qd, Rd, r, q, rx, kk⟩ => ⟨M, env, S, _, Rd, r, q, rx, fun d S1 v M1 H1 ⟨a, kvs0, e1, e2, q1⟩ p1 o1 dn => by
    subst e1
    simp only [Den] at dn
    obtain ⟨_, us0, h0, _⟩ := o1.cell a _ e2
    refine ⟨a, dn, .inl ⟨us0, .inl h0⟩, M1, env, S1, _, Rd, r.step p1 o1, q1, rx.step p1, fun k S2 u M2 H2 q2 p2 o2 dk => ⟨M2, env, S2, _, Rd, (r.step p1 o1).step p2 o2, q2, (rx.step p1).step p2, fun z S3 w M3 H3 ⟨kvs, key, e3, e4, hl, q3, q4⟩ p3 o3 dz => ?_⟩⟩
    obtain ⟨m3, us, h3, d3⟩ := o3.cell a _ e3
    refine ⟨us, key, h3, key_of dk e4, by rw [← d3.len]; exact hl, fun v' hv => ?_, fun hv => ?_⟩
    · rcases d3.get key with ⟨_, g2⟩ | ⟨d', v2, g1, g2, g3⟩
      · rw [hv] at g2; cases g2
      · rw [hv] at g2; cases g2
        exact kk _ S3 _ M3 H3 (q3 _ g1) ((p1.trans p2).trans p3) o3 g3
    · rcases d3.get key with ⟨g1, _⟩ | ⟨d', v2, g1, g2, g3⟩
      · have im : Imm M3 H3 M3 (upd H3 a (.dK (putK us key w))) := fun b x nm e => ⟨nm, by rw [upd_ne (fun z => nm (by rw [z]; exact m3))]; exact e⟩
        obtain ⟨p4, o4⟩ := cell_write o3 e3 (c := .dik (dPut kvs key z)) ⟨_, upd_same, DenK.mono im _ _ (d3.put dz key)⟩
        exact kk _ _ _ M3 _ (q4 g1) (((p1.trans p2).trans p3).trans p4) o4 (Den.mono im _ _ dz)
      · rw [hv] at g2; cases g2⟩⟩
def mDIn (neg : Bool) (mk md : ME) : ME := fun env S Q R => mk env S (fun k S1 => md env S1 (fun d S2 => ∃ kvs key, dikOf S2 d = some kvs ∧ keyD k = some key ∧ Q (.bl (if neg then !(dGet kvs key).isSome else (dGet kvs key).isSome)) S2) R) R
theorem din_i {neg : Bool} {mk md : ME} (σ : L2.St) (H : Hp) (Q : VK) (h : tD (kc X Y) Y W (mDIn neg mk md) σ H Q) : tD (kc X Y) Y W mk σ H fun y H1 => tD (kc X Y) Y W md σ H1 fun x H2 => ∃ a o, x = .ref a ∧ DGet H2 a y o ∧ Q (.bl (if neg then !o.isSome else o.isSome)) H2 := by
  obtain ⟨M, env, S, Qd, Rd, r, q, rx, kk⟩ := h
  refine ⟨M, env, S, _, Rd, r, q, rx, fun k S1 v M1 H1 q1 p1 o1 dk => ⟨M1, env, S1, _, Rd, r.step p1 o1, q1, rx.step p1, fun d S2 u M2 H2 ⟨kvs, key, e1, e2, q2⟩ p2 o2 dn => ?_⟩⟩
  obtain ⟨a, us, rfl, h1, h2⟩ := dik_of o2 dn e1
  have e3 := key_of dk e2
  subst e3
  refine ⟨a, _, rfl, DGet.k h1, ?_⟩
  have e4 : (valV us key).isSome = (dGet kvs key).isSome := by
    rcases h2.get key with ⟨g1, g2⟩ | ⟨d', v2, g1, g2, g3⟩
    · rw [g1, g2]; rfl
    · rw [g1, g2]; rfl
  rw [e4]
  exact kk _ S2 _ M2 H2 q2 (p1.trans p2) o2 (by simp [Den])
theorem DDIn {i o : Expr} {mk md : ME} {pos : Pos} (hu : X.A.units + 1 < cLine) (hi : DE X Y W i mk) (ho : DE X Y W o md) (h1 : behindInMarks .In o = false := by rfl) : DE X Y W (.Compare i [.In] [o] pos) (mDIn false mk md) :=
  ⟨weakE (pe_cmp (pc_din hu hi.run ho.run) h1) fun σ H Q h => din_i σ H Q h⟩
theorem DDNotIn {i o : Expr} {mk md : ME} {pos : Pos} (hu : X.A.units + 1 < cLine) (hi : DE X Y W i mk) (ho : DE X Y W o md) (h1 : behindInMarks .NotIn o = false := by rfl) : DE X Y W (.Compare i [.NotIn] [o] pos) (mDIn true mk md) :=
  ⟨weakE (pe_cmp (pc_dnotin hu hi.run ho.run) h1) fun σ H Q h => din_i σ H Q h⟩
def mDGet (md mk : ME) : ME := fun env S Q R => md env S (fun d S1 => mk env S1 (fun k S2 => ∃ kvs key v, dikOf S2 d = some kvs ∧ keyD k = some key ∧ dGet kvs key = some v ∧ Q v S2) R) R
theorem DDGet {i o : Expr} {mk md : ME} {pos : Pos} (hu : X.A.units + 1 < cLine) (ho : DE X Y W o md) (hi : DE X Y W i mk) (hs : NoSl i := by exact fun _ _ => rfl) : DE X Y W (.Subscript o i pos) (mDGet md mk) :=
  ⟨weakE (pe_dget hu ho.run hi.run hs) fun σ H Q ⟨M, env, S, Qd, Rd, r, q, rx, kk⟩ => ⟨M, env, S, _, Rd, r, q, rx, fun d S1 v M1 H1 q1 p1 o1 dn => ⟨M1, env, S1, _, Rd, r.step p1 o1, q1, rx.step p1, fun k S2 u M2 H2 ⟨kvs, key, z, e1, e2, e3, q2⟩ p2 o2 dk => by
    obtain ⟨a, us, rfl, h1, h2⟩ := dik_of o2 (Den.mono p2.imm _ _ dn) e1
    have e4 := key_of dk e2
    subst e4
    rcases h2.get key with ⟨g1, _⟩ | ⟨d', v2, g1, g2, g3⟩
    · rw [e3] at g1; cases g1
    · rw [e3] at g1; cases g1
      exact ⟨a, v2, rfl, by rw [← g2]; exact DGet.k h1, kk _ S2 _ M2 H2 q2 (p1.trans p2) o2 g3⟩⟩⟩⟩
/-- sorted(d), a dict of ints -/
def mSortD (m : ME) : ME := fun env S Q R => m env S (fun d S1 => ∃ kvs ks, dikOf S1 d = some kvs ∧ kvs.map (·.1) = ks.map Sum.inl ∧ ∀ ys : List Int, ys.Perm ks → ys.Pairwise (· ≤ ·) → Q (.lst (ys.map .int)) S1) R
theorem FSortD {e : Expr} {m : ME} {p pos : Pos} (hc : X.calm = true) (hg : Gl X "sorted") (hm : X.mg "sorted" = none) (he : DE X Y W e m) (hs : starEach [e] X.env = (false, eval e X.env) :: starEach [] X.env := by rfl) : DF X Y W (.Call (.Name "sorted" p) [e] [] pos) (mSortD m) :=
  ⟨weakE (pe_callB (call_sortDI hc) hg hm (by rfl) (pa_cons he.run pa_nil hs) (by decide) (by decide) hs (by rfl)) fun σ H Q ⟨M, env, S, Qd, Rd, r, q, rx, kk⟩ => ⟨M, env, S, _, Rd, r, q, rx, fun d S1 v M1 H1 ⟨kvs, ks, e1, e2, q1⟩ p1 o1 dn => by
    obtain ⟨a, us, rfl, h1, h2⟩ := dik_of o1 dn e1
    refine ⟨a, us, ks, rfl, .inl h1, h2.keys.trans e2, fun ys p pm pw hp => ?_⟩
    obtain ⟨f1, f2, f3, f4⟩ := fresh_fin o1 hp (den_ints ys)
    exact kk _ S1 _ _ _ p _ (q1 ys pm pw) rfl (p1.trans f1) f2 (back_free p1.there hp) upd_same (.inr rfl) f3 f4⟩⟩
end
end DL

set_option Elab.async false
set_option linter.all false
set_option maxRecDepth 100000
set_option maxHeartbeats 2000000
/-! own methods, new instances, calls without arguments; what an exception is wanted for may lean on the slots -/
namespace DL
open PySem PySem.Spec PyProof.Rows L2
section
variable {X : Cx} {CX : CXT} {k : Nat} {f C : Addr} {fd : FuncData} {ps : List Str} {sp : Sp} {E : L2.St → XK} {x m : Str} {p pos apos : Pos} {e o : Expr} {es : List Expr} {ta : TE} {t : TA} {pl : Sem Bool}
def tMethS (C : Addr) (m : Str) (sp : Sp) (E : L2.St → XK) (ta : TE) (t : TA) : TE := fun σ H Q => ta σ H fun x H1 => ∃ a dx fs, x = .ref a ∧ H1 a = some (.ins C dx fs) ∧ fs.lookup m = none ∧ t σ H1 fun vs H2 => sp (x :: vs) H2 Q (E σ)
theorem pe_methT (he : PE X o ta) (c : Cls X.K C) (hm : Meth X.K C m f) (F : FnOk X.prog X.w X.K X.mg X.base CX k f fd ps sp) (hr : Room k X.A) (hb : Binds X.K fd ps []) (hx : ∀ σ, PassesAt CX X σ (E σ)) (ha : PA X (e :: es) t)
    (hst : starEach (e :: es) X.env = (false, eval e X.env) :: starEach es X.env) (hpl : (backTo pos (starEach es X.env)).any (·.1) = false)
    (tree : eval (.Call (.Attribute o m apos) (e :: es) [] pos) X.env = (do let ov ← eval o X.env; standAt apos.atName; let (f, first) ← holding [ov] (getMethod ov m pl); callWith pos f first (backTo pos (starEach (e :: es) X.env)) (backToKw pos (keywordEach [] X.env)))) :
    PE X (.Call (.Attribute o m apos) (e :: es) [] pos) (tMethS C m sp E ta t) := by
  refine ⟨fun pins s σ H Q I h => PySem.W.methodCall_KW (pl := pl) (thn (he.run pins s σ H _ I h) fun u s1 ⟨x, H1, I1, rx, a, dx, fs, ex, ea, l, q⟩ => ?_) tree⟩
  subst ex
  obtain rfl : u = Value.ref a := rx
  exact getmeth_ok I1 ea c hm l (PySem.W.callWith_K (first := [.ref a]) (h₀ := X.base) I.ok.mod.kin hm.kp (thn (ha.run pos pins s1 σ H1 _ I1 q) fun us s2 ⟨vs, H2, I2, r, q2⟩ => ⟨I2.kIn, run_fnS (us := .ref a :: us) (vs := .ref a :: vs) F hr hb (hx σ) I2 (.cons rfl r) q2⟩) hst hpl)
theorem pe_methT0 (he : PE X o ta) (c : Cls X.K C) (hm : Meth X.K C m f) (F : FnOk X.prog X.w X.K X.mg X.base CX k f fd ps sp) (hr : Room k X.A) (hb : Binds X.K fd ps []) (hx : ∀ σ, PassesAt CX X σ (E σ))
    (tree : eval (.Call (.Attribute o m apos) [] [] pos) X.env = (do let ov ← eval o X.env; standAt apos.atName; let (f, first) ← holding [ov] (getMethod ov m pl); callWith pos f first (backTo pos (starEach [] X.env)) (backToKw pos (keywordEach [] X.env)))) :
    PE X (.Call (.Attribute o m apos) [] [] pos) (tMethS C m sp E ta tNil) := by
  refine ⟨fun pins s σ H Q I h => PySem.W.methodCall_KW (pl := pl) (thn (he.run pins s σ H _ I h) fun u s1 ⟨x, H1, I1, rx, a, dx, fs, ex, ea, l, q⟩ => ?_) tree⟩
  subst ex
  obtain rfl : u = Value.ref a := rx
  exact getmeth_ok I1 ea c hm l (PySem.W.callWith_K0 (first := [.ref a]) I1.kIn hm.kp (run_fnS (us := [.ref a]) (vs := [.ref a]) F hr hb (hx σ) I1 (.cons rfl .nil) q))
theorem pe_callT0 (F : FnOk X.prog X.w X.K X.mg X.base CX k f fd ps sp) (hr : Room k X.A) (hg : Gl X x) (hm : X.mg x = some (.ref f)) (hk : PySem.W.keepIn X.K (.ref f) = true) (hb : Binds X.K fd ps []) (hx : ∀ σ, PassesAt CX X σ (E σ)) (hdb : (x == ("__debug__" : Str)) = false := by decide) :
    PE X (.Call (.Name x p) [] [] pos) (tCallS sp E tNil) :=
  ⟨fun pins s σ H Q I h => wpAny_Call_Name_kw (ld_glob I hg hm (PySem.W.callWith_K0 I.kIn hk (run_fnS (us := []) F hr hb (hx σ) I .nil h)) hdb)⟩
/-- C(..) -/
def tMakeS (C : Addr) (sp : Sp) (E : L2.St → XK) (t : TA) : TE := fun σ H Q => t σ H fun vs H1 => ∀ x dx, H1 x = none → H1 dx = none → dx ≠ x → sp (.ref x :: vs) (upd (upd H1 dx (.own x)) x (.ins C dx [])) (fun v H2 => v = .non ∧ Q (.ref x) H2) (E σ)
theorem run_makeT {pins : List (Addr × Obj)} {σ : L2.St} {H : Hp} {s : Shared} {Q : VK} {us : List Value} {vs : List V} (M : Mk X.K C f) (F : FnOk X.prog X.w X.K X.mg X.base CX k f fd ps sp) (hr : Room (k + 1) X.A) (hb : Binds X.K fd ps []) (hx : PassesAt CX X σ (E σ)) (I : Inv X pins σ H s) (r : Vals vs us)
    (h : ∀ x dx, H x = none → H dx = none → dx ≠ x → sp (.ref x :: vs) (upd (upd H dx (.own x)) x (.ins C dx [])) (fun v H2 => v = .non ∧ Q (.ref x) H2) (E σ)) : wpAny (model X.prog X.w) X.A (call (.ref C) us) (EP X pins σ Q) X.xe s := by
  have q := h (s.heap.objs.size + 1) s.heap.objs.size (I.hok.fresh (Nat.le_succ _)) (I.hok.fresh (Nat.le_refl _)) (Nat.ne_of_lt (Nat.lt_succ_self _))
  have J := Inv.made (C := C) I
  have rv : Vals (V.ref (s.heap.objs.size + 1) :: vs) (Value.ref (s.heap.objs.size + 1) :: us) := .cons rfl r
  have len : (Value.ref (s.heap.objs.size + 1) :: us ++ []).length = ps.length := by have e := rv.length; rw [F.len _ _ _ _ q] at e; rw [List.append_nil]; exact e.symm
  have b := hb _ (Value.ref (s.heap.objs.size + 1) :: us) J.kIn len
  rw [List.append_nil] at b
  refine wpAny_call (make_map (f := f) I.kIn M.makes M.init (beq_iff_eq.mp M.fn) (codeAny_mono (F.run _ X.stack _ _ ⟨Value.ref (s.heap.objs.size + 1) :: us, []⟩ (Value.ref (s.heap.objs.size + 1) :: us) _ _ (E σ) (hr.make C us []) (J.env0.make C us []) b rv q) fun r s' hq' => ?_))
  cases r with
  | error e => exact hx pins _ _ e s' J hq'
  | ok fl => cases fl with
    | ret u =>
      obtain ⟨v, H', I3, rv, ev, q3⟩ := J.after hq'
      subst ev
      exact ⟨rv, ⟨V.ref (s.heap.objs.size + 1), H', I3, rfl, q3⟩⟩
    | next => exact hq'.elim
    | brk => exact hq'.elim
    | cont => exact hq'.elim
theorem pe_makeS (M : Mk X.K C f) (F : FnOk X.prog X.w X.K X.mg X.base CX k f fd ps sp) (hr : Room (k + 1) X.A) (hg : Gl X x) (hm : X.mg x = some (.ref C)) (hb : Binds X.K fd ps []) (hx : ∀ σ, PassesAt CX X σ (E σ)) (ha : PA X (e :: es) t) (hdb : (x == ("__debug__" : Str)) = false)
    (he : starEach (e :: es) X.env = (false, eval e X.env) :: starEach es X.env) (hpl : (backTo pos (starEach es X.env)).any (·.1) = false) : PE X (.Call (.Name x p) (e :: es) [] pos) (tMakeS C sp E t) :=
  ⟨fun pins s σ H Q I h => wpAny_Call_Name_kw (ld_glob I hg hm (PySem.W.callWith_K (h₀ := X.base) I.ok.mod.kin M.kp (thn (ha.run pos pins s σ H _ I h) fun us s1 ⟨vs, H1, I1, r, q⟩ => ⟨I1.kIn, run_makeT M F hr hb (hx σ) I1 r q⟩) he hpl) hdb)⟩
end
section
variable {X : Cx} {Y : En} {W : WX}
/-! ### on data -/
def mMeth (C : Nat) (n : Str) (f : DSpec) (mo : ME) (ma : MA) : ME := fun env S Q R => mo env S (fun d S1 => ∃ fs, insOf S1 d = some (C, fs) ∧ fs.lookup n = none ∧ ma env S1 (fun ds S2 => f (d :: ds) S2 Q R) R) R
theorem look_none {K : KC} {M : Addr → Prop} {H : Hp} {fs : List (Str × D)} {us : List (Str × V)} {f : Str} (h : DenF K M H fs us) (e : fs.lookup f = none) : us.lookup f = none := by
  rcases h.look f with ⟨_, g⟩ | ⟨_, _, g, _⟩
  · exact g
  · rw [e] at g; cases g
theorem DMeth (C : Nat) {n : Str} {f : DSpec} {a : Addr} {fd : FuncData} {ps : List Str} {k : Nat} {o e : Expr} {es : List Expr} {mo : ME} {ma : MA} {apos pos : Pos} {pl : Sem Bool} (c : Cls X.K (Y.cl C)) (hm : Meth X.K (Y.cl C) n a) (F : FnOk X.prog X.w X.K X.mg X.base (L2N.CX X.prog X.w) k a fd ps (spD (kc X Y) f)) (hr : Room k X.A) (hb : Binds X.K fd ps []) (tk : L2N.Takes X W)
    (ho : DE X Y W o mo) (ha : DA X Y W (e :: es) ma) (hst : starEach (e :: es) X.env = (false, eval e X.env) :: starEach es X.env := by rfl) (hpl : (backTo pos (starEach es X.env)).any (·.1) = false := by rfl)
    (tree : eval (.Call (.Attribute o n apos) (e :: es) [] pos) X.env = (do let ov ← eval o X.env; standAt apos.atName; let (f, first) ← holding [ov] (getMethod ov n pl); callWith pos f first (backTo pos (starEach (e :: es) X.env)) (backToKw pos (keywordEach [] X.env))) := by rfl) :
    DE X Y W (.Call (.Attribute o n apos) (e :: es) [] pos) (mMeth C n f mo ma) :=
  ⟨weakE (pe_methT ho.run c hm F hr hb (fun σ => L2N.passAt tk σ) ha.run hst hpl tree) fun σ H Q ⟨M, env, S, Qd, Rd, r, q, rx, kk⟩ => ⟨M, env, S, _, Rd, r, q, rx, fun d S1 v M1 H1 ⟨fs, e1, e2, q1⟩ p1 o1 dn => by
    obtain ⟨a, dx, us, rfl, h1, h2⟩ := ins_of o1 dn e1
    refine ⟨a, dx, us, rfl, h1, look_none h2 e2, M1, env, S1, _, Rd, r.step p1 o1, q1, rx.step p1, fun ds S2 vs M2 H2 q2 p2 o2 d2 => ?_⟩
    exact ⟨M2, S2, d :: ds, Qd, Rd, by simp only [DenL]; exact ⟨Den.mono p2.imm _ _ dn, d2⟩, o2, q2, fun d' S' v M' H' q3 p3 o3 d3 => kk d' S' v M' H' q3 ((p1.trans p2).trans p3) o3 d3, fun c S' M' H' q3 p3 o3 => rx c S' M' H' q3 ((p1.trans p2).trans p3) o3⟩⟩⟩
theorem DMeth0 (C : Nat) {n : Str} {f : DSpec} {a : Addr} {fd : FuncData} {ps : List Str} {k : Nat} {o : Expr} {mo : ME} {apos pos : Pos} {pl : Sem Bool} (c : Cls X.K (Y.cl C)) (hm : Meth X.K (Y.cl C) n a) (F : FnOk X.prog X.w X.K X.mg X.base (L2N.CX X.prog X.w) k a fd ps (spD (kc X Y) f)) (hr : Room k X.A) (hb : Binds X.K fd ps []) (tk : L2N.Takes X W)
    (ho : DE X Y W o mo) (tree : eval (.Call (.Attribute o n apos) [] [] pos) X.env = (do let ov ← eval o X.env; standAt apos.atName; let (f, first) ← holding [ov] (getMethod ov n pl); callWith pos f first (backTo pos (starEach [] X.env)) (backToKw pos (keywordEach [] X.env))) := by rfl) :
    DE X Y W (.Call (.Attribute o n apos) [] [] pos) (mMeth C n f mo mANil) :=
  ⟨weakE (pe_methT0 ho.run c hm F hr hb (fun σ => L2N.passAt tk σ) tree) fun σ H Q ⟨M, env, S, Qd, Rd, r, q, rx, kk⟩ => ⟨M, env, S, _, Rd, r, q, rx, fun d S1 v M1 H1 ⟨fs, e1, e2, q1⟩ p1 o1 dn => by
    obtain ⟨a, dx, us, rfl, h1, h2⟩ := ins_of o1 dn e1
    refine ⟨a, dx, us, rfl, h1, look_none h2 e2, ?_⟩
    exact ⟨M1, S1, [d], Qd, Rd, by simp only [DenL, and_true]; exact dn, o1, q1, fun d' S' v M' H' q3 p3 o3 d3 => kk d' S' v M' H' q3 (p1.trans p3) o3 d3, fun c S' M' H' q3 p3 o3 => rx c S' M' H' q3 (p1.trans p3) o3⟩⟩⟩
theorem DCall0 {f : DSpec} {a : Addr} {fd : FuncData} {ps : List Str} {k : Nat} {x : Str} {np pos : Pos} (F : FnOk X.prog X.w X.K X.mg X.base (L2N.CX X.prog X.w) k a fd ps (spD (kc X Y) f)) (hr : Room k X.A) (hg : Gl X x) (hm : X.mg x = some (.ref a)) (hk : PySem.W.keepIn X.K (.ref a) = true) (hb : Binds X.K fd ps []) (tk : L2N.Takes X W)
    (hdb : (x == ("__debug__" : Str)) = false := by decide) : DE X Y W (.Call (.Name x np) [] [] pos) (mCall f mANil) :=
  ⟨weakE (pe_callT0 F hr hg hm hk hb (fun σ => L2N.passAt tk σ) hdb) fun σ H Q ⟨M, env, S, Qd, Rd, r, q, rx, kk⟩ => ⟨M, S, [], Qd, Rd, by simp [DenL], r.st, q, kk, rx⟩⟩
/-- C(..): the instance is kept as __init__ leaves it -/
def mMake (C : Nat) (f : DSpec) (m : MA) : ME := fun env S Q R => m env S (fun ds S1 => ∀ x, S1 x = none → f (.obj x :: ds) (S1.upd x (.ins C [])) (fun d S2 => d = .non ∧ ∃ fs, S2 x = some (.ins C fs) ∧ Q (.ins C fs) (S2.era x)) (fun c S2 => R c (S2.era x))) R
/-- C(..): the instance may change later -/
def mMakeO (C : Nat) (f : DSpec) (m : MA) : ME := fun env S Q R => m env S (fun ds S1 => ∀ x, S1 x = none → f (.obj x :: ds) (S1.upd x (.ins C [])) (fun d S2 => d = .non ∧ Q (.obj x) S2) (fun c S2 => R c (S2.era x))) R
theorem make_start {K : KC} {C : Nat} {M : Addr → Prop} {H : Hp} {S : Store} {x dx : Addr} (st : StOk K M H S) (h1 : H x = none) (h2 : H dx = none) (ne : dx ≠ x) :
    Stp M H S (orP M x) (upd (upd H dx (.own x)) x (.ins (K.cl C) dx [])) (S.upd x (.ins C [])) ∧ StOk K (orP M x) (upd (upd H dx (.own x)) x (.ins (K.cl C) dx [])) (S.upd x (.ins C [])) ∧ S x = none := by
  have p0 : Stp M H S M (upd H dx (.own x)) S := Stp.alloc st h2
  have o0 : StOk K M (upd H dx (.own x)) S := st.alloc h2
  have hx : (upd H dx (.own x)) x = none := by rw [upd_ne (Ne.symm ne)]; exact h1
  obtain ⟨p1, o1, s1⟩ := new_cell (o := .ins (K.cl C) dx []) (c := .ins C []) o0 hx ⟨dx, [], upd_same, by simp [DenF]⟩
  exact ⟨p0.trans p1, o1, s1⟩
theorem DMake (C : Nat) {f : DSpec} {a : Addr} {fd : FuncData} {ps : List Str} {k : Nat} {x : Str} {e : Expr} {es : List Expr} {m : MA} {np pos : Pos} (Mk0 : Mk X.K (Y.cl C) a) (F : FnOk X.prog X.w X.K X.mg X.base (L2N.CX X.prog X.w) k a fd ps (spD (kc X Y) f)) (hr : Room (k + 1) X.A) (hg : Gl X x) (hm : X.mg x = some (.ref (Y.cl C))) (hb : Binds X.K fd ps []) (tk : L2N.Takes X W)
    (ha : DA X Y W (e :: es) m) (hdb : (x == ("__debug__" : Str)) = false := by decide) (he : starEach (e :: es) X.env = (false, eval e X.env) :: starEach es X.env := by rfl) (hpl : (backTo pos (starEach es X.env)).any (·.1) = false := by rfl) : DE X Y W (.Call (.Name x np) (e :: es) [] pos) (mMake C f m) :=
  ⟨weakE (pe_makeS Mk0 F hr hg hm hb (fun σ => L2N.passAt tk σ) ha.run hdb he hpl) fun σ H Q ⟨M, env, S, Qd, Rd, r, q, rx, kk⟩ => ⟨M, env, S, _, Rd, r, q, rx, fun ds S1 vs M1 H1 q1 p1 o1 dn x dx h1 h2 ne => by
    obtain ⟨p2, o2, s2⟩ := make_start (C := C) o1 h1 h2 ne
    refine ⟨_, _, .obj x :: ds, _, _, by simp only [DenL]; exact ⟨by simp [Den], DenL.mono p2.imm _ _ dn⟩, o2, q1 x s2, fun d S' v M' H' ⟨e1, fs, e2, q3⟩ p3 o3 d3 => ?_, fun c S' M' H' q3 p3 o3 => rx c _ M' H' q3 (((p1.trans p2).trans p3).trans (Stp.era x)) (era_st o3)⟩
    subst e1
    simp only [Den] at d3
    obtain ⟨p4, o4, nm, im⟩ := freeze_cell o3 e2
    exact ⟨d3, kk _ _ _ _ H' q3 (((p1.trans p2).trans p3).trans p4) o4 (frozen (o3.cell x _ e2).2 rfl im nm)⟩⟩⟩
theorem DMakeO (C : Nat) {f : DSpec} {a : Addr} {fd : FuncData} {ps : List Str} {k : Nat} {x : Str} {e : Expr} {es : List Expr} {m : MA} {np pos : Pos} (Mk0 : Mk X.K (Y.cl C) a) (F : FnOk X.prog X.w X.K X.mg X.base (L2N.CX X.prog X.w) k a fd ps (spD (kc X Y) f)) (hr : Room (k + 1) X.A) (hg : Gl X x) (hm : X.mg x = some (.ref (Y.cl C))) (hb : Binds X.K fd ps []) (tk : L2N.Takes X W)
    (ha : DA X Y W (e :: es) m) (hdb : (x == ("__debug__" : Str)) = false := by decide) (he : starEach (e :: es) X.env = (false, eval e X.env) :: starEach es X.env := by rfl) (hpl : (backTo pos (starEach es X.env)).any (·.1) = false := by rfl) : DE X Y W (.Call (.Name x np) (e :: es) [] pos) (mMakeO C f m) :=
  ⟨weakE (pe_makeS Mk0 F hr hg hm hb (fun σ => L2N.passAt tk σ) ha.run hdb he hpl) fun σ H Q ⟨M, env, S, Qd, Rd, r, q, rx, kk⟩ => ⟨M, env, S, _, Rd, r, q, rx, fun ds S1 vs M1 H1 q1 p1 o1 dn x dx h1 h2 ne => by
    obtain ⟨p2, o2, s2⟩ := make_start (C := C) o1 h1 h2 ne
    refine ⟨_, _, .obj x :: ds, _, _, by simp only [DenL]; exact ⟨by simp [Den], DenL.mono p2.imm _ _ dn⟩, o2, q1 x s2, fun d S' v M' H' ⟨e1, q3⟩ p3 o3 d3 => ?_, fun c S' M' H' q3 p3 o3 => rx c _ M' H' q3 (((p1.trans p2).trans p3).trans (Stp.era x)) (era_st o3)⟩
    subst e1
    simp only [Den] at d3
    exact ⟨d3, kk _ _ _ _ H' q3 ((p1.trans p2).trans p3) o3 (by simp [Den])⟩⟩⟩
end
end DL

set_option Elab.async false
set_option linter.all false
set_option maxRecDepth 100000
set_option maxHeartbeats 2000000
/-! lists as cells, a, b = x, y with own lists, xs[::-1] -/
namespace DL
open PySem PySem.Spec PyProof.Rows L2
theorem Stp.cell {K : KC} {M M' : Addr → Prop} {H H' : Hp} {S S' : Store} {p : Addr} {c : Cell} (pp : Stp M H S M' H' S') (st : StOk K M H S) (hp : H p = none) : Stp M H S M' H' (S'.upd p c) := ⟨pp.imm, fun a m e => by
  obtain ⟨f1, f2, f3⟩ := pp.fr a m e
  have hne : a ≠ p := fun z => by obtain ⟨o, h⟩ := st.has a m; rw [z, hp] at h; cases h
  exact ⟨f1, f2, by simp only [Store.upd, if_neg hne]; exact f3⟩, pp.there⟩
section
variable {X : Cx} {Y : En} {W : WX}
/-- a new list, known by its address -/
def mCell (m : ME) : ME := fun env S Q R => m env S (fun d S1 => ∃ l, d = .lst l ∧ ∀ p, S1 p = none → Q (.obj p) (S1.upd p (.lst l))) R
theorem DF.c {x : Expr} {m : ME} (h : DF X Y W x m) : DE X Y W x (mCell m) :=
  ⟨weakE h.run fun σ H Q ⟨M, env, S, Qd, Rd, r, q, rx, k⟩ => ⟨M, env, S, _, Rd, r, q, rx, fun d S' M' H' l p vs ⟨l', e0, q1⟩ e1 p1 o1 hp e m1 hs dn => by
    rw [e1] at e0; cases e0
    exact k _ _ _ M' H' (q1 p hs) (p1.cell r.st hp) (upd_st o1 Imm.refl (fun b c hb e => ⟨(o1.cell b c e).1, rfl⟩) m1 ⟨vs, e, dn⟩ o1.has) (by simp [Den])⟩⟩
/-- x.append(e), x a list in the store -/
def mAppO (m me : ME) : MS := fun E env S => m env S (fun d S1 => ∃ a l0, d = .obj a ∧ S1 a = some (.lst l0) ∧ me env S1 (fun z S2 => ∃ l, S2 a = some (.lst l) ∧ l.length < sizeLine ∧ E.nx env (S2.upd a (.lst (l ++ [z])))) (fun c S2 => E.ex c env S2)) (fun c S1 => E.ex c env S1)
theorem SAppO {o e : Expr} {m me : ME} {pos apos cpos : Pos} (ho : DE X Y W o m) (he : DE X Y W e me) (hst : starEach [e] X.env = (false, eval e X.env) :: starEach [] X.env := by rfl) (hpl : (backTo cpos (starEach [] X.env)).any (·.1) = false := by rfl)
    (hbase : attributeBase o "append" X.env (eval o X.env) = eval o X.env := by rfl) (hline : (apos.endLine == cpos.line) = true := by rfl)
    (hfew : ((backTo cpos (starEach [e] X.env)).all (fun x => !x.1) && (backToKw cpos (keywordEach [] X.env)).all (fun x => x.1.isSome) && decide ([e].length + ([] : List Keyword).length + (if ([] : List Keyword).isEmpty then 0 else 1) < 30)) = true := by rfl)
    (hs : swapsWith (.Call (.Attribute o "append" apos) [e] [] cpos) none pos.line X.env = pure false := by rfl) : DS X Y W (.Expr (.Call (.Attribute o "append" apos) [e] [] cpos) pos) (mAppO m me) :=
  ⟨weakS (ps_expr (pe_bm PySem.F.plainAttrs_list PySem.F.slot_list_append PySem.F.type_list_append mt_append ho.run (pa_cons he.run pa_nil hst) hbase hfew hline hst hpl) hs) fun D σ H ⟨M, env, S, E, r, q, ee⟩ => ⟨M, env, S, _, _, r, q, ee.rx r, fun d S1 v M1 H1 ⟨a, l0, e1, e2, q1⟩ p1 o1 dn => by
    subst e1
    simp only [Den] at dn
    subst dn
    obtain ⟨_, vs0, h0, _⟩ := o1.cell a _ e2
    refine ⟨.inl ⟨rfl, vs0, .inl (.inl h0)⟩, M1, env, S1, _, _, r.step p1 o1, q1, (ee.later p1.imm).rx (r.step p1 o1), fun z S2 w M2 H2 ⟨l, e3, hl, q2⟩ p2 o2 dz => ?_⟩
    obtain ⟨m2, vs, h2, d2⟩ := o2.cell a _ e3
    refine ⟨a, vs, w, rfl, rfl, h2, by rw [← d2.length]; exact hl, ?_⟩
    have im : Imm M2 H2 M2 (upd H2 a (.lst (vs ++ [w]))) := fun b x nm e => ⟨nm, by rw [upd_ne (fun z => nm (by rw [z]; exact m2))]; exact e⟩
    obtain ⟨p3, o3⟩ := cell_write o2 e3 (c := .lst (l ++ [z])) ⟨_, upd_same, DenL.mono im _ _ (d2.append (by simp only [DenL, and_true]; exact dz))⟩
    exact ee.nx _ _ _ _ _ q2 (r.step ((p1.trans p2).trans p3) o3) ((p1.trans p2).trans p3).imm⟩⟩
/-- xs[::-1] -/
theorem FRevS {e : Expr} {m : ME} {k : Nat} {p1 p2 p3 pos : Pos} (he : DE X Y W e m) : DF X Y W (.Subscript e (.Slice none none (some (.UnaryOp .USub (.Constant (.int 1) k p1) p2)) p3) pos) (mRevL m) :=
  ⟨weakE (pe_revL he.run) fun σ H Q ⟨M, env, S, Qd, Rd, r, q, rx, k⟩ => ⟨M, env, S, _, Rd, r, q, rx, fun d S1 v M1 H1 ⟨l, e1, q1⟩ p1 o1 dn => by
    obtain ⟨a, vs, rfl, g, dl⟩ := lst_of o1 (.inl dn) e1
    refine ⟨a, vs, rfl, SqL.of g, fun p hp => ?_⟩
    obtain ⟨f1, f2, f3, f4⟩ := fresh_fin o1 hp dl.reverse
    exact k _ S1 _ _ _ p _ q1 rfl (p1.trans f1) f2 (back_free p1.there hp) upd_same (.inr rfl) f3 f4⟩⟩
/-! ### values to be stored in names at once: trees and new lists -/
abbrev MK := Env → Store → (List Sl → Store → Prop) → RE → Prop
/-- ss are the values vs, got since H -/
def SlL (K : KC) (M' : Addr → Prop) (H' : Hp) (S' : Store) : Hp → List Sl → List V → Prop
  | _, [], [] => True
  | H, .val d :: ss, v :: vs => Den K M' H' d v ∧ ∃ H1, (∀ a, H1 a = none → H a = none) ∧ SlL K M' H' S' H1 ss vs
  | H, .own l :: ss, v :: vs => (∃ p ws, v = .ref p ∧ H p = none ∧ H' p = some (.lst ws) ∧ M' p ∧ S' p = none ∧ DenL K M' H' l ws ∧ ∃ H1, (∀ a, H1 a = none → H a = none ∧ a ≠ p) ∧ SlL K M' H' S' H1 ss vs)
  | _, _, _ => False
def tDAK (K : KC) (Y : En) (W : WX) (m : MK) : TA := fun σ H Q => ∃ M env S Qd Rd, Rep K Y M σ H env S ∧ m env S Qd Rd ∧ RX K W M σ H S Rd ∧
  ∀ ss S' vs M' H', Qd ss S' → Stp M H S M' H' S' → StOk K M' H' S' → SlL K M' H' S' H ss vs → Q vs H'
structure DAK (X : Cx) (Y : En) (W : WX) (xs : List Expr) (m : MK) : Prop where
  run : PA X xs (tDAK (kc X Y) Y W m)
def mKNil : MK := fun _ S Q _ => Q [] S
def mKVal (m : ME) (n : MK) : MK := fun env S Q R => m env S (fun d S1 => n env S1 (fun ss S2 => Q (.val d :: ss) S2) R) R
def mKOwn (m : ME) (n : MK) : MK := fun env S Q R => m env S (fun d S1 => ∃ l, d = .lst l ∧ n env S1 (fun ss S2 => Q (.own l :: ss) S2) R) R
theorem KNil : DAK X Y W [] mKNil := ⟨weakA pa_nil fun σ H Q ⟨M, env, S, Qd, Rd, r, q, rx, k⟩ => k _ S _ M H q Stp.refl r.st (by simp [SlL])⟩
theorem KVal {e : Expr} {es : List Expr} {m : ME} {n : MK} (he : DE X Y W e m) (ha : DAK X Y W es n) (hs : starEach (e :: es) X.env = (false, eval e X.env) :: starEach es X.env := by rfl) : DAK X Y W (e :: es) (mKVal m n) :=
  ⟨weakA (pa_cons he.run ha.run hs) fun σ H Q ⟨M, env, S, Qd, Rd, r, q, rx, k⟩ => ⟨M, env, S, _, Rd, r, q, rx, fun d S1 v M1 H1 q1 p1 o1 dn1 => ⟨M1, env, S1, _, Rd, r.step p1 o1, q1, rx.step p1, fun ss S2 vs M2 H2 q2 p2 o2 dn2 =>
    k _ S2 _ M2 H2 q2 (p1.trans p2) o2 (by simp only [SlL]; exact ⟨Den.mono p2.imm _ _ dn1, H1, fun a h => back_free p1.there h, dn2⟩)⟩⟩⟩
theorem KOwn {e : Expr} {es : List Expr} {m : ME} {n : MK} (he : DF X Y W e m) (ha : DAK X Y W es n) (hs : starEach (e :: es) X.env = (false, eval e X.env) :: starEach es X.env := by rfl) : DAK X Y W (e :: es) (mKOwn m n) :=
  ⟨weakA (pa_cons he.run ha.run hs) fun σ H Q ⟨M, env, S, Qd, Rd, r, q, rx, k⟩ => ⟨M, env, S, _, Rd, r, q, rx, fun d S1 M1 H1 l p ws ⟨l', e0, q1⟩ e1 p1 o1 hp h1 m1 s1 dn1 => by
    rw [e1] at e0; cases e0
    refine ⟨M1, env, S1, _, Rd, r.step p1 o1, q1, rx.step p1, fun ss S2 vs M2 H2 q2 p2 o2 dn2 => ?_⟩
    obtain ⟨f1, f2, f3⟩ := p2.fr p m1 s1
    exact k _ S2 _ M2 H2 q2 (p1.trans p2) o2 (by simp only [SlL]; exact ⟨p, ws, rfl, hp, f2.trans h1, f1, f3, DenL.mono p2.imm _ _ dn1, H1, fun a h => ⟨back_free p1.there h, fun z => by rw [z, h1] at h; cases h⟩, dn2⟩)⟩⟩
end
theorem Rep.setNew {K : KC} {Y : En} {M : Addr → Prop} {σ : L2.St} {H : Hp} {env : Env} {S : Store} {l : List D} {p : Addr} {vs : List V} (r : Rep K Y M σ H env S)
    (hY : Y.H p = none) (e0 : H p = some (.lst vs)) (hm : M p) (hs : S p = none) (dn : DenL K M H l vs) (old : ∀ (j : Nat) l' q, env[j]? = some (.own l') → σ[j]? = some (some (.ref q)) → q ≠ p) (i : Nat) : Rep K Y M (σ.set i (some (.ref p))) H (env.set i (.own l)) S := by
  refine ⟨by rw [List.length_set, List.length_set]; exact r.len, fun j e h => ?_, fun j l' h => ?_, fun j j' l1 l2 q h h' e e' => ?_, r.st, r.stp⟩
  · by_cases hj : i = j
    · subst hj
      by_cases hl : i < env.length
      · rw [List.getElem?_set_self hl] at h; cases h
      · rw [List.getElem?_eq_none (by rw [List.length_set]; omega)] at h; cases h
    · rw [List.getElem?_set_ne hj] at h
      obtain ⟨u, e1, d1⟩ := r.val j e h
      exact ⟨u, by rw [List.getElem?_set_ne hj]; exact e1, d1⟩
  · by_cases hj : i = j
    · subst hj
      by_cases hl : i < env.length
      · rw [List.getElem?_set_self hl] at h
        cases h
        exact ⟨p, vs, by rw [List.getElem?_set_self (by rw [r.len]; exact hl)], e0, hm, hs, hY, dn⟩
      · rw [List.getElem?_eq_none (by rw [List.length_set]; omega)] at h; cases h
    · rw [List.getElem?_set_ne hj] at h
      obtain ⟨q, ws, e1, q1⟩ := r.own j l' h
      exact ⟨q, ws, by rw [List.getElem?_set_ne hj]; exact e1, q1⟩
  · by_cases hj : i = j
    · by_cases hj' : i = j'
      · exact hj.symm.trans hj'
      · subst hj
        by_cases hl : i < env.length
        · rw [List.getElem?_set_self (by rw [r.len]; exact hl)] at e
          rw [List.getElem?_set_ne hj'] at h' e'
          have : q = p := by injection (Option.some.inj (Option.some.inj e)) with z; exact z.symm
          exact absurd this (old j' l2 q h' e')
        · rw [List.getElem?_eq_none (by rw [List.length_set]; omega)] at h; cases h
    · by_cases hj' : i = j'
      · subst hj'
        by_cases hl : i < env.length
        · rw [List.getElem?_set_self (by rw [r.len]; exact hl)] at e'
          rw [List.getElem?_set_ne hj] at h e
          have : q = p := by injection (Option.some.inj (Option.some.inj e')) with z; exact z.symm
          exact absurd this (old j l1 q h e)
        · rw [List.getElem?_eq_none (by rw [List.length_set]; omega)] at h'; cases h'
      · rw [List.getElem?_set_ne hj] at h e
        rw [List.getElem?_set_ne hj'] at h' e'
        exact r.inj j j' l1 l2 q h h' e e'
def setV : L2.St → List Nat → List V → L2.St
  | σ, i :: is, v :: vs => setV (σ.set i (some v)) is vs
  | σ, _, _ => σ
def setE : Env → List Nat → List Sl → Env
  | env, i :: is, s :: ss => setE (env.set i s) is ss
  | env, _, _ => env
theorem own_set {σ : L2.St} {env : Env} {i : Nat} {s : Sl} {v : V} (len : σ.length = env.length) {j : Nat} {l : List D} {q : Addr} (h : (env.set i s)[j]? = some (.own l)) (e : (σ.set i (some v))[j]? = some (some (.ref q))) : (s = .own l ∧ v = .ref q) ∨ (env[j]? = some (.own l) ∧ σ[j]? = some (some (.ref q))) := by
  by_cases hj : i = j
  · subst hj
    by_cases hl : i < env.length
    · rw [List.getElem?_set_self hl] at h
      rw [List.getElem?_set_self (by rw [len]; exact hl)] at e
      exact .inl ⟨Option.some.inj h, Option.some.inj (Option.some.inj e)⟩
    · rw [List.getElem?_eq_none (by rw [List.length_set]; omega)] at h; cases h
  · rw [List.getElem?_set_ne hj] at h e
    exact .inr ⟨h, e⟩
theorem Rep.setAll {K : KC} {Y : En} {M : Addr → Prop} {H : Hp} {S : Store} : ∀ (is : List Nat) (ss : List Sl) (vs : List V) (H0 : Hp) (σ : L2.St) (env : Env), Rep K Y M σ H env S → SlL K M H S H0 ss vs → (∀ a, H0 a = none → Y.H a = none) → (∀ (j : Nat) (l : List D) (q : Addr), env[j]? = some (Sl.own l) → σ[j]? = some (some (V.ref q)) → H0 q ≠ none) →
    Rep K Y M (setV σ is vs) H (setE env is ss) S
  | [], _, _, _, σ, env, r, _, _, _ => by cases ‹List V› <;> cases ‹List Sl› <;> simpa [setV, setE] using r
  | i :: is, [], [], _, σ, env, r, _, _, _ => by simpa [setV, setE] using r
  | i :: is, .val d :: ss, v :: vs, H0, σ, env, r, h, y, o => by
    simp only [SlL] at h
    obtain ⟨dn, H1, back, h⟩ := h
    refine Rep.setAll is ss vs H1 _ _ (r.set dn i) h (fun a e => y a (back a e)) fun j l q e1 e2 z => ?_
    rcases own_set r.len e1 e2 with ⟨e, _⟩ | ⟨e1, e2⟩
    · cases e
    · exact o j l q e1 e2 (back q z)
  | i :: is, .own l0 :: ss, v :: vs, H0, σ, env, r, h, y, o => by
    simp only [SlL] at h
    obtain ⟨p, ws, rfl, hp, e0, m, s, dn, H1, back, h⟩ := h
    refine Rep.setAll is ss vs H1 _ _ (r.setNew (y p hp) e0 m s dn (fun j l' q e1 e2 z => o j l' q e1 e2 (by rw [z]; exact hp)) i) h (fun a e => y a (back a e).1) fun j l q e1 e2 z => ?_
    rcases own_set r.len e1 e2 with ⟨_, e⟩ | ⟨e1, e2⟩
    · cases e
      exact (back _ z).2 rfl
    · exact o j l q e1 e2 (back q z).1
  | _ :: _, .no :: _, _, _, _, _, _, h, _, _ => by cases ‹List V› <;> simp [SlL] at h
  | _ :: _, .val _ :: _, [], _, _, _, _, h, _, _ => by simp [SlL] at h
  | _ :: _, .own _ :: _, [], _, _, _, _, h, _, _ => by simp [SlL] at h
  | _ :: _, [], _ :: _, _, _, _, _, h, _, _ => by simp [SlL] at h
theorem SlL.len {K : KC} {M : Addr → Prop} {H : Hp} {S : Store} : ∀ {ss : List Sl} {vs : List V} {H0 : Hp}, SlL K M H S H0 ss vs → vs.length = ss.length
  | [], [], _, _ => rfl
  | .val d :: ss, v :: vs, H0, h => by simp only [SlL] at h; obtain ⟨_, _, _, h⟩ := h; simp [SlL.len h]
  | .own d :: ss, v :: vs, H0, h => by simp only [SlL] at h; obtain ⟨_, _, _, _, _, _, _, _, _, _, h⟩ := h; simp [SlL.len h]
  | .no :: _, _, _, h => by cases ‹List V› <;> simp [SlL] at h
  | .val _ :: _, [], _, h => by simp [SlL] at h
  | .own _ :: _, [], _, h => by simp [SlL] at h
  | [], _ :: _, _, h => by simp [SlL] at h
section
variable {X : Cx} {Y : En} {W : WX}
/-- a, b, .. = x, y, ..: names -/
def mParK (is : List Nat) (m : MK) : MS := fun E env S => m env S (fun ss S1 => ss.length = is.length ∧ E.nx (setE env is ss) S1) (fun c S1 => E.ex c env S1)
theorem par_i {is : List Nat} {m : MK} {D : Ends} {σ : L2.St} {H : Hp} (h : tDS (kc X Y) Y W (mParK is m) D σ H) : tDAK (kc X Y) Y W m σ H fun vs H1 => vs.length = is.length ∧ D.nx (setV σ is vs) H1 := by
  obtain ⟨M, env, S, E, r, q, ee⟩ := h
  refine ⟨M, env, S, _, _, r, q, ee.rx r, fun ss S' vs M' H' ⟨hl, q1⟩ p1 o1 sl => ⟨sl.len.trans hl, ee.nx _ _ _ _ _ q1 (Rep.setAll is ss vs H σ env (r.step p1 o1) sl (fun a e => back_free r.stp.there e) fun j l q e1 e2 z => ?_) p1.imm⟩⟩
  obtain ⟨p, ws, e3, h1, _⟩ := r.own j l e1
  rw [e3] at e2
  cases e2
  rw [z] at h1; cases h1
theorem SPar2 (i j : Nat) {x y : Str} {a b : Expr} {m : MK} {px py pt pos : Pos} {kt k2 : Nat} {pt2 : Pos} (hc : X.calm = true) (ha : DAK X Y W [a, b] m) (hN : X.N.Nodup) (hi : X.N[i]? = some x := by rfl) (hj : X.N[j]? = some y := by rfl) (hij : i ≠ j := by decide)
    (hx : X.env.scope.names.lookup x = some .local := by rfl) (hy : X.env.scope.names.lookup y = some .local := by rfl)
    (hw : swappedStores [.Tuple [.Name x px, .Name y py] kt pt] (.Tuple [a, b] k2 pt2) X.env = pure (some [x, y]) := by rfl)
    (hs : swapsWithSole [.Tuple [.Name x px, .Name y py] kt pt] (.Tuple [a, b] k2 pt2) pos.line X.env = pure false := by rfl) :
    DS X Y W (.Assign [.Tuple [.Name x px, .Name y py] kt pt] (.Tuple [a, b] k2 pt2) pos) (mParK [i, j] m) :=
  ⟨weakS (ps_par hc hN hi hj hij hx hy ha.run hw hs) fun D σ H h => by
    obtain ⟨M, env, S, Qd, Rd, r, q, rx, k⟩ := par_i h
    refine ⟨M, env, S, Qd, Rd, r, q, rx, fun ss S' vs M' H' q1 p1 o1 sl => ?_⟩
    obtain ⟨hl, q2⟩ := k ss S' vs M' H' q1 p1 o1 sl
    match vs, hl, q2 with
    | [v, w], _, q2 => exact ⟨v, w, rfl, q2⟩⟩
theorem SPar3 (i j l : Nat) {x y z : Str} {a b c : Expr} {m : MK} {px py pz pt pos : Pos} {kt k2 : Nat} {pt2 : Pos} (hc : X.calm = true) (ha : DAK X Y W [a, b, c] m) (hN : X.N.Nodup) (hi : X.N[i]? = some x := by rfl) (hj : X.N[j]? = some y := by rfl) (hl : X.N[l]? = some z := by rfl) (hij : i ≠ j := by decide) (hil : i ≠ l := by decide) (hjl : j ≠ l := by decide)
    (hx : X.env.scope.names.lookup x = some .local := by rfl) (hy : X.env.scope.names.lookup y = some .local := by rfl) (hz : X.env.scope.names.lookup z = some .local := by rfl)
    (hw : swappedStores [.Tuple [.Name x px, .Name y py, .Name z pz] kt pt] (.Tuple [a, b, c] k2 pt2) X.env = pure (some [x, y, z]) := by rfl)
    (hs : swapsWithSole [.Tuple [.Name x px, .Name y py, .Name z pz] kt pt] (.Tuple [a, b, c] k2 pt2) pos.line X.env = pure false := by rfl) :
    DS X Y W (.Assign [.Tuple [.Name x px, .Name y py, .Name z pz] kt pt] (.Tuple [a, b, c] k2 pt2) pos) (mParK [i, j, l] m) :=
  ⟨weakS (ps_par3 hc hN hi hj hl hij hil hjl hx hy hz ha.run hw hs) fun D σ H h => by
    obtain ⟨M, env, S, Qd, Rd, r, q, rx, k⟩ := par_i h
    refine ⟨M, env, S, Qd, Rd, r, q, rx, fun ss S' vs M' H' q1 p1 o1 sl => ?_⟩
    obtain ⟨hl, q2⟩ := k ss S' vs M' H' q1 p1 o1 sl
    match vs, hl, q2 with
    | [u, v, w], _, q2 => exact ⟨u, v, w, rfl, q2⟩⟩
end
end DL

set_option Elab.async false
set_option linter.all false
set_option maxRecDepth 100000
set_option maxHeartbeats 2000000
/-! bundles: a def of the text; a def with its promise; a class; an exception class; calls by bundles -/
namespace DL
open PySem PySem.Spec PyProof.Rows L2
structure DefOk (K : PySem.W.Frag) (mg : Str → Option Value) (x : Str) (st : Stmt) (ps : List Str) : Prop where
  ex : ∃ f fd, Fun K x x st f fd ∧ Binds K fd ps [] ∧ mg x = some (.ref f)
structure MethOk (K : PySem.W.Frag) (C : Addr) (x qual : Str) (st : Stmt) (ps : List Str) : Prop where
  ex : ∃ f fd, Fun K x qual st f fd ∧ Binds K fd ps [] ∧ Meth K C x f
structure InitOk (K : PySem.W.Frag) (mg : Str → Option Value) (C : Addr) (c qual : Str) (st : Stmt) (ps : List Str) : Prop where
  ex : ∃ f fd, Fun K "__init__" qual st f fd ∧ Binds K fd ps [] ∧ Mk K C f ∧ mg c = some (.ref C)
/-- an exception class without own __init__ -/
structure ExcK (K : PySem.W.Frag) (mg : Str → Option Value) (x : Str) (C : Addr) : Prop where
  q : PySem.W.excIn K C [.type "ValueError", .type "Exception", .type "BaseException", .type "object"] "ValueError.__new__" = true
  g : mg x = some (.ref C)
  k : PySem.W.keepIn K (.ref C) = true
  b : PySem.W.subIn K (.ref C) (.type "BaseException") = some true
  t : PySem.W.typeIn K (.ref C) = some (.type "type")
/-- with a promise -/
structure CK (P : Program) (w : World) (K : PySem.W.Frag) (mg : Str → Option Value) (base : Heap) (cl : Nat → Addr) (k : Nat) (x : Str) (sp : DSpec) : Prop where
  ex : ∃ f fd ps, FnOk P w K mg base (L2N.CX P w) k f fd ps (spD ⟨K, cl⟩ sp) ∧ Binds K fd ps [] ∧ mg x = some (.ref f) ∧ PySem.W.keepIn K (.ref f) = true
structure MK1 (P : Program) (w : World) (K : PySem.W.Frag) (mg : Str → Option Value) (base : Heap) (cl : Nat → Addr) (k : Nat) (C : Nat) (x : Str) (sp : DSpec) : Prop where
  ex : ∃ f fd ps, FnOk P w K mg base (L2N.CX P w) k f fd ps (spD ⟨K, cl⟩ sp) ∧ Binds K fd ps [] ∧ Meth K (cl C) x f
structure IK (P : Program) (w : World) (K : PySem.W.Frag) (mg : Str → Option Value) (base : Heap) (cl : Nat → Addr) (k : Nat) (C : Nat) (x : Str) (sp : DSpec) : Prop where
  ex : ∃ f fd ps, FnOk P w K mg base (L2N.CX P w) k f fd ps (spD ⟨K, cl⟩ sp) ∧ Binds K fd ps [] ∧ Mk K (cl C) f ∧ mg x = some (.ref (cl C))
section
variable {P : Program} {w : World} {K : PySem.W.Frag} {cl : Nat → Addr} {mg : Str → Option Value} {base : Heap}
/-- how a body is walked -/
abbrev Body (P : Program) (w : World) (K : PySem.W.Frag) (cl : Nat → Addr) (mg : Str → Option Value) (base : Heap) (qual : Str) (st : Stmt) (N : List Str) (k : Nat) (m : MS) : Prop :=
  ∀ (f : Addr) (cdv : Value) (A : Around) (outer : List PySem.Env) (s : Shared) (H : Hp) (E : XK) (M : Addr → Prop) (Hh : Hp) (Sh : Store), Room k (A.deeper (envOfC qual (defScope st) s.heap.objs.size f cdv)) →
    DSs (cxOf (L2N.CX P w) P w K mg base N qual (defScope st) f cdv A outer s H E) ⟨cl, M, Hh, Sh⟩ (fun cls d _ H => E cls d H) (defBody st) m
theorem CK.mk' {x : Str} {st : Stmt} {N ps : List Str} {k : Nat} {sp : DSpec} {m : MS} (F : DefOk K mg x st ps) (S : FnScope N ps (defScope st)) (hb : Body P w K cl mg base x st N k m)
    (hm : ∀ ds S Q R, sp ds S Q R → ds.length = ps.length ∧ m (endsD Q R) (startE N ds) S) : CK P w K mg base cl (k + 1) x sp := by
  obtain ⟨f, fd, F, b, g⟩ := F.ex
  exact ⟨f, fd, ps, fnD F S (hb f) hm, b, g, F.kp⟩
theorem MK1.mk' {C : Nat} {x qual : Str} {st : Stmt} {N ps : List Str} {k : Nat} {sp : DSpec} {m : MS} (F : MethOk K (cl C) x qual st ps) (S : FnScope N ps (defScope st)) (hb : Body P w K cl mg base qual st N k m)
    (hm : ∀ ds S Q R, sp ds S Q R → ds.length = ps.length ∧ m (endsD Q R) (startE N ds) S) : MK1 P w K mg base cl (k + 1) C x sp := by
  obtain ⟨f, fd, F, b, g⟩ := F.ex
  exact ⟨f, fd, ps, fnD F S (hb f) hm, b, g⟩
theorem IK.mk' {C : Nat} {x qual : Str} {st : Stmt} {N ps : List Str} {k : Nat} {sp : DSpec} {m : MS} (F : InitOk K mg (cl C) x qual st ps) (S : FnScope N ps (defScope st)) (hb : Body P w K cl mg base qual st N k m)
    (hm : ∀ ds S Q R, sp ds S Q R → ds.length = ps.length ∧ m (endsD Q R) (startE N ds) S) : IK P w K mg base cl (k + 1) C x sp := by
  obtain ⟨f, fd, F, b, g, e⟩ := F.ex
  exact ⟨f, fd, ps, fnD F S (hb f) hm, b, g, e⟩
theorem CK.imp {x : Str} {k : Nat} {sp sp' : DSpec} (F : CK P w K mg base cl k x sp) (h : ∀ ds S Q R, sp' ds S Q R → sp ds S Q R) : CK P w K mg base cl k x sp' := by
  obtain ⟨f, fd, ps, F, b, g, e⟩ := F.ex
  exact ⟨f, fd, ps, spD_imp F h, b, g, e⟩
end
section
variable {X : Cx} {Y : En} {W : WX}
theorem ECall {f : DSpec} {k : Nat} {x : Str} {e : Expr} {es : List Expr} {m : MA} {np pos : Pos} (F : CK X.prog X.w X.K X.mg X.base Y.cl k x f) (hr : Room k X.A) (hg : Gl X x) (tk : L2N.Takes X W) (ha : DA X Y W (e :: es) m)
    (hdb : (x == ("__debug__" : Str)) = false := by decide) (he : starEach (e :: es) X.env = (false, eval e X.env) :: starEach es X.env := by rfl) (hpl : (backTo pos (starEach es X.env)).any (·.1) = false := by rfl) : DE X Y W (.Call (.Name x np) (e :: es) [] pos) (mCall f m) := by
  obtain ⟨a, fd, ps, F, hb, hm, hk⟩ := F.ex
  exact DCall F hr hg hm hk hb tk ha hdb he hpl
theorem ECall0 {f : DSpec} {k : Nat} {x : Str} {np pos : Pos} (F : CK X.prog X.w X.K X.mg X.base Y.cl k x f) (hr : Room k X.A) (hg : Gl X x) (tk : L2N.Takes X W) (hdb : (x == ("__debug__" : Str)) = false := by decide) : DE X Y W (.Call (.Name x np) [] [] pos) (mCall f mANil) := by
  obtain ⟨a, fd, ps, F, hb, hm, hk⟩ := F.ex
  exact DCall0 F hr hg hm hk hb tk hdb
theorem EMeth {C : Nat} {n : Str} {f : DSpec} {k : Nat} {o e : Expr} {es : List Expr} {mo : ME} {ma : MA} {apos pos : Pos} {pl : Sem Bool} (c : Cls X.K (Y.cl C)) (F : MK1 X.prog X.w X.K X.mg X.base Y.cl k C n f) (hr : Room k X.A) (tk : L2N.Takes X W)
    (ho : DE X Y W o mo) (ha : DA X Y W (e :: es) ma) (hst : starEach (e :: es) X.env = (false, eval e X.env) :: starEach es X.env := by rfl) (hpl : (backTo pos (starEach es X.env)).any (·.1) = false := by rfl)
    (tree : eval (.Call (.Attribute o n apos) (e :: es) [] pos) X.env = (do let ov ← eval o X.env; standAt apos.atName; let (f, first) ← holding [ov] (getMethod ov n pl); callWith pos f first (backTo pos (starEach (e :: es) X.env)) (backToKw pos (keywordEach [] X.env))) := by rfl) :
    DE X Y W (.Call (.Attribute o n apos) (e :: es) [] pos) (mMeth C n f mo ma) := by
  obtain ⟨a, fd, ps, F, hb, hm⟩ := F.ex
  exact DMeth C c hm F hr hb tk ho ha hst hpl tree
theorem EMeth0 {C : Nat} {n : Str} {f : DSpec} {k : Nat} {o : Expr} {mo : ME} {apos pos : Pos} {pl : Sem Bool} (c : Cls X.K (Y.cl C)) (F : MK1 X.prog X.w X.K X.mg X.base Y.cl k C n f) (hr : Room k X.A) (tk : L2N.Takes X W)
    (ho : DE X Y W o mo) (tree : eval (.Call (.Attribute o n apos) [] [] pos) X.env = (do let ov ← eval o X.env; standAt apos.atName; let (f, first) ← holding [ov] (getMethod ov n pl); callWith pos f first (backTo pos (starEach [] X.env)) (backToKw pos (keywordEach [] X.env))) := by rfl) :
    DE X Y W (.Call (.Attribute o n apos) [] [] pos) (mMeth C n f mo mANil) := by
  obtain ⟨a, fd, ps, F, hb, hm⟩ := F.ex
  exact DMeth0 C c hm F hr hb tk ho tree
theorem EMake {C : Nat} {f : DSpec} {k : Nat} {x : Str} {e : Expr} {es : List Expr} {m : MA} {np pos : Pos} (F : IK X.prog X.w X.K X.mg X.base Y.cl k C x f) (hr : Room (k + 1) X.A) (hg : Gl X x) (tk : L2N.Takes X W)
    (ha : DA X Y W (e :: es) m) (hdb : (x == ("__debug__" : Str)) = false := by decide) (he : starEach (e :: es) X.env = (false, eval e X.env) :: starEach es X.env := by rfl) (hpl : (backTo pos (starEach es X.env)).any (·.1) = false := by rfl) : DE X Y W (.Call (.Name x np) (e :: es) [] pos) (mMake C f m) := by
  obtain ⟨a, fd, ps, F, hb, hM, hm⟩ := F.ex
  exact DMake C hM F hr hg hm hb tk ha hdb he hpl
theorem SRaiseK {C : Nat} {x m : Str} {j : Nat} {p p2 pos pos' : Pos} (hc : X.calm = true) (tk : L2N.Takes X W) (T : ExcK X.K X.mg x (Y.cl C)) (hg : Gl X x) (hdb : (x == ("__debug__" : Str)) = false := by decide) :
    DS X Y W (.Raise (some (.Call (.Name x p) [.Constant (.str m) j p2] [] pos)) none pos') (mRaise C) :=
  SRaise (B := "ValueError") (newId := "ValueError.__new__") (initId := "ValueError.__init__") (bmB := [.type "ValueError", .type "Exception", .type "BaseException", .type "object"]) hc tk (L2N.pmk_own PySem.F.excBase_ValueError T.q T.g T.k (raises_own T.b T.t) hg hdb)
end
end DL

set_option Elab.async false
set_option linter.all false
set_option maxRecDepth 100000
set_option maxHeartbeats 2000000
/-! short names for printed terms -/
namespace DL
open PySem PySem.Spec PyProof.Rows L2
abbrev aAdd := oII T2 fun i j => .int (i + j)
abbrev aSub := oII T2 fun i j => .int (i - j)
abbrev aMul := oII CMul fun i j => .int (i * j)
abbrev aDiv := oII CDiv fun i j => .int (i / j)
abbrev aMod := oII (fun _ j => 0 < j) fun i j => .int (i % j)
abbrev aPow := oII CPow fun i j => .int (i ^ j.toNat)
abbrev aAnd := oII T2 fun i j => .int (Builtin.bitAnd i j)
abbrev cLt := oII T2 fun i j => .bl (decide (i < j))
abbrev cLe := oII T2 fun i j => .bl (decide (i ≤ j))
abbrev cGt := oII T2 fun i j => .bl (decide (j < i))
abbrev cGe := oII T2 fun i j => .bl (decide (j ≤ i))
abbrev oAbs := oInt1 (fun _ => True) fun i => .int (if i < 0 then -i else i)
abbrev oMax2 := oInt2 fun i j => .int (if j > i then j else i)
abbrev oMin2 := oInt2 fun i j => .int (if j < i then j else i)
abbrev oMax1 := oInts (fun ns => 0 < ns.length) fun ns Q => ∀ m, m ∈ ns → (∀ y, y ∈ ns → y ≤ m) → Q (.int m)
abbrev oMin1 := oInts (fun ns => 0 < ns.length) fun ns Q => ∀ m, m ∈ ns → (∀ y, y ∈ ns → m ≤ y) → Q (.int m)
abbrev oSum := oInts (fun _ => True) fun ns Q => Q (.int ns.sum)
def mFro (m : ME) : ME := fun env S Q R => m env S (fun d S' => (∃ l, d = .lst l) ∧ Q d S') R
theorem hu64 {A : Around} {k : Nat} (hr : Room k A) : A.units + 64 < cLine := by have := hr.un; omega
theorem gTp_ex {g : GDs} {d : D} {env : Env} {k : Env → Prop} (h : gTp g d env k) (hg : ∀ l env k, g l env k → ∃ e, k e) : ∃ e, k e := by
  cases d <;> simp only [gTp] at h
  exact hg _ _ _ h
/-- a constant of the module -/
structure ConstOk (K : PySem.W.Frag) (mg : Str → Option Value) (cl : Nat → Addr) (x : Str) (d : D) : Prop where
  ex : ∃ u v, mg x = some u ∧ RelV v u ∧ ∀ M H, Den ⟨K, cl⟩ M H d v
theorem ConstOk.int {K : PySem.W.Frag} {mg : Str → Option Value} {cl : Nat → Addr} {x : Str} {i : Int} {t : Tok} (h : mg x = some (.int i t)) : ConstOk K mg cl x (.int i) := ⟨⟨_, .int i, h, ⟨t, rfl⟩, fun M H => by simp [Den]⟩⟩
theorem vals_sq {K : KC} {M : Addr → Prop} {H : Hp} : ∀ {ns : List Int}, DenL K M H (ns.map .int) (ns.map V.int)
  | [] => by simp [DenL]
  | n :: ns => by simp only [List.map_cons, DenL, Den]; exact ⟨trivial, vals_sq⟩
/-- a tuple of ints that stands in the written part -/
theorem ConstOk.tupI {K : PySem.W.Frag} {mg : Str → Option Value} {cl : Nat → Addr} {x : Str} {a : Addr} {ns : List Int} (h : mg x = some (.ref a)) (sq : ∀ H, SqT K H a (ns.map V.int)) : ConstOk K mg cl x (.tup (ns.map .int)) :=
  ⟨⟨_, .ref a, h, rfl, fun M H => by simp only [Den]; exact ⟨a, _, rfl, .inr sq, vals_sq⟩⟩⟩
section
variable {X : Cx} {Y : En} {W : WX}
theorem ConstOk.e {x : Str} {d : D} {pos : Pos} (h : ConstOk X.K X.mg Y.cl x d) (hg : Gl X x := by rfl) (hdb : (x == ("__debug__" : Str)) = false := by decide) : DE X Y W (.Name x pos) (mC d) := by
  obtain ⟨u, v, h1, h2, h3⟩ := h.ex
  exact d_glob hg h1 h2 h3 hdb
end
/-- a def that tells an error's word; x the class that is caught -/
structure WordK (P : Program) (w : World) (K : PySem.W.Frag) (mg : Str → Option Value) (base : Heap) (cl : Nat → Addr) (k : Nat) (f x : Str) (wd : Nat → Option Str) : Prop where
  ex : ∃ fa fd ps c, Words P w K mg base cl k fa fd ps wd ∧ mg f = some (.ref fa) ∧ PySem.W.keepIn K (.ref fa) = true ∧ Binds K fd ps [] ∧ mg x = some c ∧ ∀ C z, wd C = some z → PySem.W.exmOne K (.ref (cl C)) c = some true
section
variable {X : Cx} {Y : En} {W : WX}
theorem STryW_ {n x fx : Str} {i k : Nat} {wd : Nat → Option Str} {body : List Stmt} {m : MS} {np fp vp cp rp pos pos' : Pos}
    (hs : X.stack = X.env :: X.outer) (hf : X.env.frame = some X.env.locals) (hN : X.N.Nodup) (hi : X.N[i]? = some n) (hln : X.env.kindOf n = some .local) (tk : L2N.Takes X W) (F : WordK X.prog X.w X.K X.mg X.base Y.cl k fx x wd) (hr : Room k X.A) (hg : Gl X fx) (hgx : Gl X x)
    (hbd : ∀ (W : WX) (pn : List (Addr × Obj)) (xe : Value → Shared → Prop), L2N.Takes (X.tr pn xe) W → PassesOwn (model X.prog X.w) X.A X.env xe → DSs (X.tr pn xe) Y W body m)
    (hdx : (x == ("__debug__" : Str)) = false := by decide) (hdb : (fx == ("__debug__" : Str)) = false := by decide) (hd1 : (n == ("__debug__" : Str)) = false := by decide) (hd2 : (n == ("__classdict__" : Str)) = false := by decide)
    (he : starEach [.Name n vp] X.env = (false, eval (.Name n vp) X.env) :: starEach [] X.env := by rfl) (hpl : (backTo cp (starEach [] X.env)).any (·.1) = false := by rfl) :
    DS X Y W (.Try body [.ExceptHandler (some (.Name x np)) (some n) [.Return (some (.Call (.Name fx fp) [.Name n vp] [] cp)) rp] pos'] [] [] pos) (mTryW wd m) := by
  obtain ⟨fa, fd, ps, c, Wd, g1, g2, g3, g4, g5⟩ := F.ex
  exact STryW hs hf hN hi hln ⟨hgx, hdx, .inl g4⟩ tk Wd hr hg g1 g2 g3 g5 hbd hdb hd1 hd2 he hpl
end
section
variable {X : Cx} {Y : En} {W : WX}
theorem tst_b {m : ME} {t : TE} (h : ∀ σ H Q, tD (kc X Y) Y W m σ H Q → t σ H Q) : ∀ σ H Q, tDT (kc X Y) Y W (mTst m) σ H Q → tB t σ H Q := fun σ H Q ⟨M, env, S, Qd, Rd, r, q, rx, k⟩ =>
  h σ H _ ⟨M, env, S, _, Rd, r, q, rx, fun d S1 v M1 H1 ⟨kk, e, q1⟩ p1 o1 dn => by
    subst e
    simp only [Den] at dn
    exact ⟨kk, dn, k kk S1 M1 H1 q1 p1 o1⟩⟩
theorem TDIn {i o : Expr} {mk md : ME} {pos : Pos} (hu : X.A.units + 1 < cLine) (hi : DE X Y W i mk) (ho : DE X Y W o md) (h1 : behindInMarks .In o = false := by rfl) : DT X Y W (.Compare i [.In] [o] pos) (mTst (mDIn false mk md)) :=
  ⟨weakT (pt_cmp (pc_din hu hi.run ho.run) h1) (tst_b fun σ H Q h => din_i σ H Q h)⟩
theorem TDNotIn {i o : Expr} {mk md : ME} {pos : Pos} (hu : X.A.units + 1 < cLine) (hi : DE X Y W i mk) (ho : DE X Y W o md) (h1 : behindInMarks .NotIn o = false := by rfl) : DT X Y W (.Compare i [.NotIn] [o] pos) (mTst (mDIn true mk md)) :=
  ⟨weakT (pt_cmp (pc_dnotin hu hi.run ho.run) h1) (tst_b fun σ H Q h => din_i σ H Q h)⟩
end
end DL

set_option Elab.async false
set_option linter.all false
set_option maxRecDepth 100000
set_option maxHeartbeats 2000000
/-! reading m-terms -/
namespace DL
open PySem PySem.Spec PyProof.Rows L2
theorem seqOf_lst {S : Store} {l : List D} : seqOf S (.lst l) = some l := rfl
theorem seqOf_tup {S : Store} {l : List D} : seqOf S (.tup l) = some l := rfl
theorem seqOf_fz {S : Store} {l : List D} : seqOf S (.fz l) = some l := rfl
theorem lenOf_lst {S : Store} {l : List D} : lenOf S (.lst l) = some l.length := rfl
theorem lenOf_tup {S : Store} {l : List D} : lenOf S (.tup l) = some l.length := rfl
theorem lenOf_seq {S : Store} {d : D} {l : List D} (h : seqOf S d = some l) : lenOf S d = some l.length := by
  cases d <;> first | (simp [seqOf] at h; done) | (simp only [lenOf, h]; rfl)
theorem itOf_lst {S : Store} {l : List D} : itOf S (.lst l) = some l := rfl
theorem itOf_seq {S : Store} {d : D} {l : List D} (h : itOf S d = some l) : seqOf S d = some l := by
  cases d <;> first | (simp [itOf] at h; done) | exact h
theorem itOf_lstOf {S : Store} {d : D} {l : List D} (h : lstOf S d = some l) : itOf S d = some l := by
  cases d <;> first | (simp [lstOf] at h; done) | exact h
theorem oII_ii {C : Int → Int → Prop} {g : Int → Int → D} {i j : Int} {S : Store} {Q : D → Prop} : oII C g (.int i) (.int j) S Q ↔ (C i j ∧ Q (g i j)) := Iff.rfl
theorem wWhile {c : MT} {body : MS} {E : DEnds} {env : Env} {S : Store} (I : Nat → Env → Store → Prop) (n : Nat) (h0 : I n env S)
    (turn : ∀ n env S, I n env S → c env S (fun b S1 => if b = true then body { E with nx := fun env' S' => ∃ n', n' < n ∧ I n' env' S', ct := fun env' S' => ∃ n', n' < n ∧ I n' env' S', bk := E.nx } env S1 else E.nx env S1) (fun x S1 => E.ex x env S1)) : mWhile c body E env S := ⟨I, ⟨n, h0⟩, turn⟩
theorem atI_get {α : Type} {l : List α} {i : Nat} : atI l (i : Int) = l[i]? := by
  unfold atI
  by_cases h : i < l.length
  · have e : ixN l.length (i : Int) = some i := by unfold ixN; simp; omega
    rw [e]; rfl
  · have e : ixN l.length (i : Int) = none := by unfold ixN; simp; omega
    rw [e, List.getElem?_eq_none (by omega)]; rfl
/-! ### comprehensions that leave the store as it is -/
theorem wComp_rel {g : GD} {e : ME} {P : Store → Prop} {env : Env} {S : Store} {Q : List D → Store → Prop} (A : D → D → Prop) (hP : P S) : ∀ (ds acc : List D), (∀ d ∈ ds, ∀ Ke : QE, (∀ y, A d y → Ke y S) → g d env fun env1 => e env1 S Ke fun _ _ => False) → acc.length + ds.length ≤ sizeLine →
    (∀ ys : List D, ys.length = ds.length → (∀ (i : Nat) d y, ds[i]? = some d → ys[i]? = some y → A d y) → Q (acc ++ ys) S) → wComp g mYes e P ds acc env S Q
  | [], acc, _, _, q => ⟨hP, by simpa using q [] rfl (fun i d y h => by simp at h)⟩
  | d :: ds, acc, h, hl, q => by
    refine ⟨hP, ?_⟩
    simp only [mYes, if_true]
    refine h d List.mem_cons_self _ fun y hy => ⟨by simp at hl; omega, ?_⟩
    refine wComp_rel A hP ds (acc ++ [y]) (fun d' hd => h d' (List.mem_cons_of_mem _ hd)) (by simp at hl ⊢; omega) fun ys l1 l2 => ?_
    rw [List.append_assoc]
    refine q (y :: ys) (by simp [l1]) fun i d' y' e1 e2 => ?_
    cases i with
    | zero => simp at e1 e2; subst e1 e2; exact hy
    | succ i => exact l2 i d' y' (by simpa using e1) (by simpa using e2)
theorem wComp_map {g : GD} {e : ME} {P : Store → Prop} {env : Env} {S : Store} {Q : List D → Store → Prop} (f : D → D) (hP : P S) : ∀ (ds acc : List D), (∀ d ∈ ds, ∀ Ke : QE, Ke (f d) S → g d env fun env1 => e env1 S Ke fun _ _ => False) → acc.length + ds.length ≤ sizeLine →
    Q (acc ++ ds.map f) S → wComp g mYes e P ds acc env S Q
  | [], acc, _, _, q => ⟨hP, by simpa using q⟩
  | d :: ds, acc, h, hl, q => by
    refine ⟨hP, ?_⟩
    simp only [mYes, if_true]
    refine h d List.mem_cons_self _ ⟨by simp at hl; omega, ?_⟩
    exact wComp_map f hP ds (acc ++ [f d]) (fun d' hd => h d' (List.mem_cons_of_mem _ hd)) (by simp at hl ⊢; omega) (by simpa using q)
theorem wComp_filter {g : GD} {t : MT} {e : ME} {P : Store → Prop} {env : Env} {S : Store} {Q : List D → Store → Prop} (p : D → Bool) (f : D → D) (hP : P S) : ∀ (ds acc : List D),
    (∀ d ∈ ds, ∀ (Ke : QE) (Kn : Store → Prop), (if p d = true then Ke (f d) S else Kn S) → g d env fun env1 => t env1 S (fun b S1 => if b = true then e env1 S1 Ke (fun _ _ => False) else Kn S1) fun _ _ => False) → acc.length + ds.length ≤ sizeLine →
    Q (acc ++ (ds.filter p).map f) S → wComp g t e P ds acc env S Q
  | [], acc, _, _, q => ⟨hP, by simpa using q⟩
  | d :: ds, acc, h, hl, q => by
    refine ⟨hP, h d List.mem_cons_self _ (fun S1 => wComp g t e P ds acc env S1 Q) ?_⟩
    have h' := fun d' (hd : d' ∈ ds) => h d' (List.mem_cons_of_mem _ hd)
    cases hp : p d with
    | true =>
      rw [List.filter_cons_of_pos hp, List.map_cons] at q
      rw [if_pos rfl]
      exact ⟨by simp at hl; omega, wComp_filter p f hP ds (acc ++ [f d]) h' (by simp at hl ⊢; omega) (by simpa using q)⟩
    | false =>
      rw [List.filter_cons_of_neg (by simp [hp])] at q
      rw [if_neg (by simp)]
      exact wComp_filter p f hP ds acc h' (by simp at hl ⊢; omega) q
theorem small4 {n : Nat} (h : n ≤ 1000000) : n ≤ sizeLine := by rw [sizeLine_eq]; omega
theorem small5 {n : Nat} (h : n ≤ 1000000) : n < sizeLine := by rw [sizeLine_eq]; omega
theorem upd_same' {S : Store} {a : Addr} {c : Cell} : S.upd a c a = some c := by simp [Store.upd]
theorem upd_other {S : Store} {a b : Addr} {c : Cell} (h : b ≠ a) : S.upd a c b = S b := by simp [Store.upd, h]
theorem era_other {S : Store} {a b : Addr} (h : b ≠ a) : S.era a b = S b := by simp [Store.era, h]
theorem upd_upd' {S : Store} {a : Addr} {c c' : Cell} : (S.upd a c).upd a c' = S.upd a c' := by
  funext b
  by_cases h : b = a
  · subst h; simp [Store.upd]
  · simp [Store.upd, h]
theorem upd_era {S : Store} {a : Addr} {c : Cell} (h : S a = none) : (S.upd a c).era a = S := by
  funext b
  by_cases hb : b = a
  · subst hb; simp [Store.era, h]
  · simp [Store.era, Store.upd, hb]
theorem itOf_upd {S : Store} {a : Addr} {c : Cell} {d : D} {l : List D} (h : itOf S d = some l) (hn : ∀ l', S a ≠ some (.lst l')) : itOf (S.upd a c) d = some l := by
  cases d with
  | obj b =>
    have hb : b ≠ a := fun z => by
      subst z
      simp only [itOf] at h
      cases hs : S b with
      | none => simp [hs] at h
      | some c => cases c <;> first | exact hn _ hs | simp [hs] at h
    simp only [itOf] at h ⊢
    rw [upd_other hb]; exact h
  | _ => exact h
theorem upd_comm {S : Store} {a b : Addr} {c c' : Cell} (h : a ≠ b) : (S.upd a c).upd b c' = (S.upd b c').upd a c := by
  funext z
  by_cases h1 : z = a
  · subst h1; simp [Store.upd, h]
  · by_cases h2 : z = b
    · subst h2; simp [Store.upd, h1]
    · simp [Store.upd, h1, h2]
theorem insOf_ins {S : Store} {C : Nat} {fs : List (Str × D)} : insOf S (.ins C fs) = some (C, fs) := rfl
theorem insOf_obj {S : Store} {a : Addr} {C : Nat} {fs : List (Str × D)} (h : S a = some (.ins C fs)) : insOf S (.obj a) = some (C, fs) := by simp only [insOf, h]
theorem dikOf_dik {S : Store} {kvs : List (Key × D)} : dikOf S (.dik kvs) = some kvs := rfl
end DL

set_option Elab.async false
set_option linter.all false
set_option maxRecDepth 100000
set_option maxHeartbeats 2000000
/-! equality on data, for reading; drawn numbers as a bundle -/
namespace DL
open PySem PySem.Spec PyProof.Rows L2
theorem eq_ii {i j : Int} {S : Store} {Q : D → Prop} : oEq (.int i) (.int j) S Q ↔ Q (.bl (decide (i = j))) := by
  have e : D.eqd (.int i) (.int j) = decide (i = j) := by
    show PyData.eqv (.int i) (.int j) = _
    by_cases h : i = j <;> simp [PyData.eqv, h]
  simp [oEq, shd, e]
theorem ne_ii {i j : Int} {S : Store} {Q : D → Prop} : oNe (.int i) (.int j) S Q ↔ Q (.bl (!decide (i = j))) := by
  have e : D.eqd (.int i) (.int j) = decide (i = j) := by
    show PyData.eqv (.int i) (.int j) = _
    by_cases h : i = j <;> simp [PyData.eqv, h]
  simp [oNe, shd, e]
theorem eq_bb {i j : Bool} {S : Store} {Q : D → Prop} : oEq (.bl i) (.bl j) S Q ↔ Q (.bl (i == j)) := by
  have e : D.eqd (.bl i) (.bl j) = (i == j) := by
    show PyData.eqv (.bool i) (.bool j) = _
    simp [PyData.eqv]
  simp [oEq, shd, e]
theorem ne_bb {i j : Bool} {S : Store} {Q : D → Prop} : oNe (.bl i) (.bl j) S Q ↔ Q (.bl (!(i == j))) := by
  have e : D.eqd (.bl i) (.bl j) = (i == j) := by
    show PyData.eqv (.bool i) (.bool j) = _
    simp [PyData.eqv]
  simp [oNe, shd, e]
theorem eq_ss {i j : Str} {S : Store} {Q : D → Prop} : oEq (.str i) (.str j) S Q ↔ (PyData.strOk i = true ∧ PyData.strOk j = true ∧ Q (.bl (i == j))) := by
  have e : D.eqd (.str i) (.str j) = (i == j) := by
    show PyData.eqv (.str i) (.str j) = _
    simp [PyData.eqv]
  simp [oEq, shd, e]
theorem ne_ss {i j : Str} {S : Store} {Q : D → Prop} : oNe (.str i) (.str j) S Q ↔ (PyData.strOk i = true ∧ PyData.strOk j = true ∧ Q (.bl (!(i == j)))) := by
  have e : D.eqd (.str i) (.str j) = (i == j) := by
    show PyData.eqv (.str i) (.str j) = _
    simp [PyData.eqv]
  simp [oNe, shd, e]
/-- with the empty list -/
theorem eqd_nil {l : List D} : D.eqd (.lst l) (.lst []) = l.isEmpty := by
  cases l <;> simp [D.eqd, D.py, D.pyL, PyData.eqv, PyData.eqvAll]
theorem eq_nil {l : List D} {S : Store} {Q : D → Prop} : oEq (.lst l) (.lst []) S Q ↔ (l.all (shd 7) = true ∧ Q (.bl l.isEmpty)) := by simp [oEq, shd, eqd_nil]
theorem ne_nil {l : List D} {S : Store} {Q : D → Prop} : oNe (.lst l) (.lst []) S Q ↔ (l.all (shd 7) = true ∧ Q (.bl (!l.isEmpty))) := by simp [oNe, shd, eqd_nil]
mutual
theorem eqv_self : ∀ d : D, D.okd d = true → PyData.eqv (D.py d) (D.py d) = true
  | .non, _ => by simp [D.py, PyData.eqv]
  | .bl b, _ => by simp [D.py, PyData.eqv]
  | .int i, _ => by simp [D.py, PyData.eqv]
  | .str x, _ => by simp [D.py, PyData.eqv]
  | .lst l, h => by simp only [D.py, PyData.eqv]; exact eqvAll_self l (by simpa [D.okd] using h)
  | .fz l, h => by simp only [D.py, PyData.eqv]; exact eqvAll_self l (by simpa [D.okd] using h)
  | .tup l, h => by simp only [D.py, PyData.eqv]; exact eqvAll_self l (by simpa [D.okd] using h)
  | .ins _ _, h => by simp [D.okd] at h
  | .dik _, h => by simp [D.okd] at h
  | .dit _, h => by simp [D.okd] at h
  | .obj _, h => by simp [D.okd] at h
theorem eqvAll_self : ∀ l : List D, D.okdL l = true → PyData.eqvAll (D.pyL l) (D.pyL l) = true
  | [], _ => by simp [D.pyL, PyData.eqvAll]
  | d :: l, h => by
    simp [D.okdL] at h
    simp [D.pyL, PyData.eqvAll, eqv_self d h.1, eqvAll_self l h.2]
end
theorem eqd_self {n : Nat} {d : D} (h : shd n d = true) : D.eqd d d = true := eqv_self d (okd_shd n d h)
theorem upd_id {S : Store} {a : Addr} {c : Cell} (h : S a = some c) : S.upd a c = S := by
  funext b
  by_cases hb : b = a
  · subst hb; simp [Store.upd, h]
  · simp [Store.upd, hb]
/-- a number drawn from the cell -/
def spTake : DSpec := fun ds S Q _ => ∃ p b, ds = [.obj p, .int b] ∧ S p = some .gen ∧ 0 < b ∧ ∀ k, 0 ≤ k → k < b → Q (.int k) S
def spTake0 : DSpec := fun ds S Q _ => ∃ (p : Addr) (b : Int) (ns : List Int), ds = [.obj p, .int b] ∧ S p = some (.lst (ns.map .int)) ∧ 0 < b ∧ (∀ n ∈ ns, 0 ≤ n) ∧ ∀ (k : Int) (ns' : List Int), 0 ≤ k → k < b → (∀ n ∈ ns', 0 ≤ n) → Q (.int k) (S.upd p (.lst (ns'.map .int)))
theorem CK.take {P : Program} {w : World} {K : PySem.W.Frag} {cl : Nat → Addr} {mg : Str → Option Value} {base : Heap} {x : Str} {k : Nat} (F : CK P w K mg base cl k x spTake0) : CK P w K mg base cl k x spTake := by
  obtain ⟨f, fd, ps, F, b, g, e⟩ := F.ex
  refine ⟨f, fd, ps, F.imp fun vs H Q E ⟨M, S, ds, Qd, Rd, dn, st, ⟨p, bb, e1, hg, hb, hq⟩, kq, ke⟩ => ?_, b, g, e⟩
  exact spD_gen (p := p) (ds := ds) (k := fun i => 0 ≤ i ∧ i < bb) (fun ns S Q R nn hs hk => ⟨p, bb, ns, e1, hs, hb, nn, fun k ns' h1 h2 h3 => hk k ns' ⟨h1, h2⟩ h3⟩) ⟨M, S, Qd, Rd, dn, st, ⟨hg, fun i hi => hq i hi.1 hi.2⟩, kq, ke⟩
theorem take_ii {p : Addr} {b : Int} {S : Store} {Q : QE} {R : RE} : spTake [.obj p, .int b] S Q R ↔ (S p = some .gen ∧ 0 < b ∧ ∀ k, 0 ≤ k → k < b → Q (.int k) S) := by
  constructor
  · rintro ⟨p', b', e, h1, h2, h3⟩
    simp at e
    obtain ⟨rfl, rfl⟩ := e
    exact ⟨h1, h2, h3⟩
  · rintro ⟨h1, h2, h3⟩
    exact ⟨p, b, rfl, h1, h2, h3⟩
theorem atI_ints {l : List Int} {k : Int} (h0 : 0 ≤ k) (h1 : k < l.length) : ∃ v ∈ l, atI (l.map D.int) k = some (.int v) := by
  obtain ⟨n, rfl⟩ : ∃ n : Nat, k = n := ⟨k.toNat, by omega⟩
  have hn : n < l.length := by omega
  exact ⟨l[n], List.getElem_mem hn, L2.atI_nat (by rw [List.getElem?_map, List.getElem?_eq_getElem hn]; rfl)⟩
theorem abs_i {i : Int} {S : Store} {Q : D → Prop} : oInt1 (fun _ => True) (fun i => .int (if i < 0 then -i else i)) [.int i] S Q ↔ Q (.int (if i < 0 then -i else i)) :=
  ⟨fun ⟨j, e, _, h⟩ => by cases e; exact h, fun h => ⟨i, rfl, trivial, h⟩⟩
theorem int2_ii {g : Int → Int → D} {i j : Int} {S : Store} {Q : D → Prop} : oInt2 g [.int i, .int j] S Q ↔ Q (g i j) :=
  ⟨fun ⟨a, b, e, h⟩ => by cases e; exact h, fun h => ⟨i, j, rfl, h⟩⟩
theorem int_i {i : Int} {S : Store} {Q : D → Prop} : oIntOf [.int i] S Q ↔ Q (.int i) :=
  ⟨fun h => by rcases h with ⟨j, e, h⟩ | ⟨b, e, h⟩ <;> cases e; exact h, fun h => .inl ⟨i, rfl, h⟩⟩
theorem cut_take {l : List D} {k : Nat} : cutD l none (some (k : Int)) = l.take k := by
  unfold cutD
  rw [HT.sIx_none, HT.sIx_nat, List.drop_zero, Nat.sub_zero]
  by_cases h : k ≤ l.length
  · rw [Nat.min_eq_left h]
  · rw [Nat.min_eq_right (by omega), List.take_length, List.take_of_length_le (by omega)]
theorem cut_drop {l : List D} {k : Nat} : cutD l (some (k : Int)) none = l.drop k := by
  unfold cutD
  rw [HT.sIx_none, HT.sIx_nat]
  by_cases h : k ≤ l.length
  · rw [Nat.min_eq_left h, List.take_of_length_le (by rw [List.length_drop]; exact Nat.le_refl _)]
  · rw [Nat.min_eq_right (by omega), List.drop_eq_nil_of_le (Nat.le_refl _), List.drop_eq_nil_of_le (by omega)]; simp
theorem cut_mid {l : List D} {k j : Nat} (h1 : k ≤ j) (h2 : j ≤ l.length) : cutD l (some (k : Int)) (some (j : Int)) = (l.drop k).take (j - k) := by
  unfold cutD
  rw [HT.sIx_nat, HT.sIx_nat, Nat.min_eq_left h2, Nat.min_eq_left (by omega)]
end DL

set_option Elab.async false
set_option linter.all false
set_option maxRecDepth 100000
set_option maxHeartbeats 4000000
namespace K01
open PySem PySem.Spec PyProof.Rows L2 DL
def top (i : Nat) : Stmt := PySem.Challenge.pw_allscripts_k01_whole_class_tables_of_man.main.body.getD i (.Pass ⟨0, 0, 0, 0⟩)
abbrev c_LAST_SIGN : D := .int 1114111
abbrev c_MOST_CLASSES : D := .int 64
abbrev c_GAP : D := .tup ([55296, 57344].map .int)
/-! ### what each def promises -/
abbrev R3 := Int × Int × Int
def tr (r : R3) : D := .tup [.int r.1, .int r.2.1, .int r.2.2]
abbrev dI (ns : List Int) : List D := ns.map .int
abbrev dR (rs : List R3) : List D := rs.map tr
def isSign (i : Int) : Bool := decide ((0 ≤ i ∧ i < 55296) ∨ (57344 ≤ i ∧ i ≤ 1114111))
def okR : Int → List R3 → Bool
  | _, [] => true
  | b, r :: rs => isSign r.1 && isSign r.2.1 && decide (r.1 ≤ r.2.1) && decide (b < r.1) && okR r.2.1 rs
/-- the class of a sign, by going through all -/
def cls : List R3 → Int → Int
  | [], _ => 0
  | r :: rs, s => if r.1 ≤ s ∧ s ≤ r.2.1 then r.2.2 else cls rs s
def cutsL (rs : List R3) : List Int := 0 :: 57344 :: rs.flatMap fun r => [r.1, r.2.1 + 1]
def addS (rs : List R3) (kvs : List (Key × D)) (s : Int) : List (Key × D) := if isSign s = true then (if (dGet kvs (.inl (cls rs s))).isSome = true then kvs else dPut kvs (.inl (cls rs s)) (.int s)) else kvs
def samples (rs : List R3) (out : List Int) : List (Key × D) := out.foldl (addS rs) []
/-- the cuts, ascending -/
structure Cuts (rs : List R3) (out : List Int) : Prop where
  up : out.Pairwise (· < ·)
  mem : ∀ k, k ∈ out ↔ k ∈ cutsL rs
def tblF (c : Int) (rs : List R3) (out : List Int) : List (Str × D) := [("count", .int c), ("ranges", .tup (dR rs)), ("_samples", .dik (samples rs out))]
def tbl (c : Int) (rs : List R3) (out : List Int) : D := .ins 6 (tblF c rs out)
def sp_is_sign : DSpec := fun ds S Q _ => ∃ i, ds = [.int i] ∧ Q (.bl (isSign i)) S
def sp_check_text : DSpec := fun ds S Q R => ∃ d ns, ds = [d] ∧ itOf S d = some (dI ns) ∧ if ns.all isSign = true then Q .non S else R 1 S
def sp_check_ranges : DSpec := fun ds S Q R => ∃ d rs, ds = [d] ∧ itOf S d = some (dR rs) ∧ if okR (-1) rs = true then Q .non S else R 3 S
def sp_look_up : DSpec := fun ds S Q _ => ∃ d rs s, ds = [d, .int s, .int 0] ∧ seqOf S d = some (dR rs) ∧ rs.length ≤ 1000 ∧ okR (-1) rs = true ∧ Q (.int (cls rs s)) S
def sp_cuts : DSpec := fun ds S Q _ => ∃ d rs, ds = [d] ∧ itOf S d = some (dR rs) ∧ rs.length ≤ 1000 ∧ Q (.lst ((cutsL rs).map .int)) S
def okV (c : Int) : List R3 → Bool
  | [] => true
  | r :: rs => decide (0 ≤ r.2.2) && decide (r.2.2 < c) && okV c rs
def okC (c : Int) (rs : List R3) : Bool := decide (1 ≤ c) && decide (c ≤ 64) && okV c rs
def sp_ClassTable_init : DSpec := fun ds S Q R => ∃ x d c rs, ds = [.obj x, .int c, d] ∧ S x = some (.ins 6 []) ∧ itOf S d = some (dR rs) ∧ rs.length ≤ 1000 ∧
  if okC c rs = true then (if okR (-1) rs = true then ∀ out, Cuts rs out → Q .non (S.upd x (.ins 6 (tblF c rs out))) else R 3 S) else R 1 S
def sp_ClassTable_class_of : DSpec := fun ds S Q R => ∃ c rs out s, ds = [tbl c rs out, .int s] ∧ rs.length ≤ 1000 ∧ okR (-1) rs = true ∧ if isSign s = true then Q (.int (cls rs s)) S else R 1 S
def sp_ClassTable_row : DSpec := fun ds S Q R => ∃ c rs out d ns, ds = [tbl c rs out, d] ∧ itOf S d = some (dI ns) ∧ ns.length ≤ 1000 ∧ rs.length ≤ 1000 ∧ okR (-1) rs = true ∧ if ns.all isSign = true then Q (.lst (ns.map fun s => .int (cls rs s))) S else R 1 S
def sp_ClassTable_present : DSpec := fun ds S Q _ => ∃ c rs out, ds = [tbl c rs out] ∧ ∀ (ys : List Int) (p : Addr), ys.Pairwise (· ≤ ·) → ((samples rs out).map (·.1)).Perm (ys.map .inl) → S p = none → Q (.obj p) (S.upd p (.lst (dI ys)))
def sp_ClassTable_sample : DSpec := fun ds S Q R => ∃ c rs out n, ds = [tbl c rs out, .int n] ∧ if n < 0 ∨ c ≤ n then R 1 S else match dGet (samples rs out) (.inl n) with
  | none => R 4 S
  | some v => Q v S
def sp__law_draws : DSpec := fun ds S Q _ => ∃ d ns, ds = [d] ∧ itOf S d = some (dI ns) ∧ seqOf S d = some (dI ns) ∧ ns.length ≤ 63 ∧ (∀ z ∈ ns, Builtin.Int.intBits z ≤ 1048576) ∧ ∀ p, S p = none → Q (.obj p) (S.upd p .gen)
/-- alike, at most n deep -/
def Al : Nat → Store → D → D → Prop
  | 0, _, _, _ => False
  | n + 1, S, f, d => (f = d ∧ (d = .non ∨ (∃ b, d = .bl b) ∨ (∃ i, d = .int i) ∨ ∃ x, d = .str x ∧ PyData.strOk x = true)) ∨
    (∃ l l', d = .lst l' ∧ (f = .lst l ∨ ∃ a, f = .obj a ∧ S a = some (.lst l)) ∧ l.length = l'.length ∧ l.length ≤ 1000 ∧ ∀ (i : Nat) x y, l[i]? = some x → l'[i]? = some y → Al n S x y) ∨
    ∃ l l', d = .tup l' ∧ f = .tup l ∧ l.length = l'.length ∧ l.length ≤ 1000 ∧ ∀ (i : Nat) x y, l[i]? = some x → l'[i]? = some y → Al n S x y
def sp__law_alike (n : Nat) : DSpec := fun ds S Q _ => ∃ f d, ds = [f, d] ∧ Al n S f d ∧ Q (.bl true) S
def sp__law_ranges : DSpec := fun ds S Q _ => ∃ p c m, ds = [.obj p, .int c, .int m] ∧ S p = some .gen ∧ 0 < c ∧ 0 ≤ m ∧ m ≤ 1000 ∧ ∀ rs : List R3, okR (-1) rs = true → (∀ r ∈ rs, 0 ≤ r.2.2 ∧ r.2.2 < c) → (rs.length : Int) ≤ m → Q (.lst (dR rs)) S
def sp__law_class : DSpec := fun ds S Q _ => ∃ d rs s, ds = [d, .int s] ∧ itOf S d = some (dR rs) ∧ Q (.int (cls rs s)) S
/-- the least sign of a class, or none -/
def Least (rs : List R3) (n : Int) (r : Option Int) : Prop := (∀ s, isSign s = true → cls rs s = n → ∃ z, r = some z ∧ z ≤ s) ∧ ∀ z, r = some z → isSign z = true ∧ cls rs z = n
def optD : Option Int → D
  | none => .non
  | some i => .int i
def sp__law_least : DSpec := fun ds S Q _ => ∃ d rs n, ds = [d, .int n] ∧ itOf S d = some (dR rs) ∧ rs.length ≤ 1000 ∧ okR (-1) rs = true ∧ ∀ r, Least rs n r → Q (optD r) S
def wd__law_word : Nat → Option Str
  | 1 => some "range"
  | 3 => some "refused"
  | 4 => some "none"
  | _ => none
def sp__law_told : DSpec := fun ds S Q _ =>
  (∃ c d rs, ds = [.int 0, .int c, d] ∧ itOf S d = some (dR rs) ∧ rs.length ≤ 1000 ∧ (okC c rs = true → okR (-1) rs = false) ∧ Q (.str (if okC c rs = true then "refused" else "range")) S) ∨
  (∃ c rs out n, ds = [.int 1, tbl c rs out, .int n] ∧ if n < 0 ∨ c ≤ n then Q (.str "range") S else match dGet (samples rs out) (.inl n) with
    | none => Q (.str "none") S
    | some v => Q v S) ∨
  (∃ c rs out s, ds = [.int 2, tbl c rs out, .int s] ∧ rs.length ≤ 1000 ∧ okR (-1) rs = true ∧ isSign s = false ∧ Q (.str "range") S) ∨
  ∃ c rs out d ns, ds = [.int 3, tbl c rs out, d] ∧ itOf S d = some (dI ns) ∧ ns.length ≤ 1000 ∧ rs.length ≤ 1000 ∧ okR (-1) rs = true ∧ ns.all isSign = false ∧ Q (.str "range") S
def sp_law : DSpec := fun ds S Q _ => ∃ d ns, ds = [d] ∧ itOf S d = some (dI ns) ∧ seqOf S d = some (dI ns) ∧ ns.length ≤ 63 ∧ (∀ z ∈ ns, Builtin.Int.intBits z ≤ 1048576) ∧ (∀ a, S a = none) ∧ ∀ S', Q (.bl true) S'
/-! ### the text -/
-- is_sign: slots 0 value
abbrev s_is_sign : Stmt := top 9
def m_is_sign : MS :=
  (mSeq (mIfS (mOr (mNot (mTru (mIsT "int" (mVar 0)))) (mTru (mIsT "bool" (mVar 0))))
   (mRet (mC (.bl false)))
   mNext)
  (mRet (mOrV (mChain cLe cLt (mC (.int 0)) (mVar 0) (mC (.int 55296))) (mChain cLe cLe (mC (.int 57344)) (mVar 0) (mC c_LAST_SIGN)))))
-- check_text: slots 0 text, 1 sign
abbrev s_check_text : Stmt := top 10
def m_check_text_L1 : MS :=
  (mIfS (mNot (mTru (mCall sp_is_sign (mACons (mVar 1) mANil))))
    (mRaise 1)
    mNext)
def m_check_text : MS :=
  (mFor (mIt (mVar 0)) (gNm 1)
   m_check_text_L1)
-- check_ranges: slots 0 ranges, 1 before, 2 first, 3 last, 4 _
abbrev s_check_ranges : Stmt := top 14
def m_check_ranges_L1 : MS :=
  (mSeq (mIfS (mOr (mNot (mTru (mCall sp_is_sign (mACons (mVar 2) mANil)))) (mOr (mNot (mTru (mCall sp_is_sign (mACons (mVar 3) mANil)))) (mOr (mTst (mOp cGt (mVar 2) (mVar 3))) (mTst (mOp cLe (mVar 2) (mVar 1))))))
    (mRaise 3)
    mNext)
   (mSet 1 (mVar 3)))
def m_check_ranges : MS :=
  (mSeq (mSet 1 (mNeg (mC (.int 1))))
  (mFor (mIt (mVar 0)) (gTp (gC1 (gNm 2) (gC1 (gNm 3) (gC1 (gNm 4) gN0))))
   m_check_ranges_L1))
-- look_up: slots 0 ranges, 1 sign, 2 other, 3 low, 4 high, 5 middle
abbrev s_look_up : Stmt := top 15
def m_look_up_L1 : MS :=
  (mSeq (mSet 5 (mOp aDiv (mOp aAdd (mVar 3) (mVar 4)) (mC (.int 2))))
   (mIfS (mTst (mOp cLt (mOp oIx (mOp oIx (mVar 0) (mVar 5)) (mC (.int 1))) (mVar 1)))
    (mSet 3 (mOp aAdd (mVar 5) (mC (.int 1))))
    (mSet 4 (mVar 5))))
def m_look_up_L1t : MT :=
  (mTst (mOp cLt (mVar 3) (mVar 4)))
def m_look_up_R1 : MS :=
  (mSeq (mIfS (mAnd (mTst (mOp cLt (mVar 3) (mCB oLen (mACons (mVar 0) mANil)))) (mTst (mOp cLe (mOp oIx (mOp oIx (mVar 0) (mVar 3)) (mC (.int 0))) (mVar 1))))
   (mRet (mOp oIx (mOp oIx (mVar 0) (mVar 3)) (mC (.int 2))))
   mNext)
  (mRet (mVar 2)))
def m_look_up : MS :=
  (mSeq (mSet 3 (mC (.int 0)))
  (mSeq (mSet 4 (mCB oLen (mACons (mVar 0) mANil)))
  (mSeq (mWhile m_look_up_L1t
   m_look_up_L1)
  m_look_up_R1)))
-- cuts: slots 0 ranges, 1 found, 2 first, 3 last, 4 _
abbrev s_cuts : Stmt := top 16
def m_cuts_L1 : MS :=
  (mSeq (mApp 1 (mVar 2))
   (mApp 1 (mOp aAdd (mVar 3) (mC (.int 1)))))
def m_cuts_R1 : MS :=
  (mFrz 1 (mRet (mVar 1)))
def m_cuts : MS :=
  (mSeq (mSetO 1 (mLst (mACons (mC (.int 0)) (mACons (mOp oIx (mC c_GAP) (mC (.int 1))) mANil))))
  (mSeq (mFor (mIt (mVar 0)) (gTp (gC1 (gNm 2) (gC1 (gNm 3) (gC1 (gNm 4) gN0))))
   m_cuts_L1)
  m_cuts_R1))
-- ClassTable_init: slots 0 self, 1 count, 2 ranges, 3 _, 4 number, 5 one, 6 sign
abbrev s_ClassTable_init : Stmt := inClass (top 17) 0
def m_ClassTable_init_L1 : MS :=
  (mIfS (mOr (mTst (mOp cLt (mVar 4) (mC (.int 0)))) (mTst (mOp cGe (mVar 4) (mVar 1))))
    (mRaise 1)
    mNext)
def m_ClassTable_init_C1e : ME :=
  (mCB oTupleOf (mACons (mVar 5) mANil))
def m_ClassTable_init_L2 : MS :=
  (mIfS (mTru (mCall sp_is_sign (mACons (mVar 6) mANil)))
    (mDrop (mSetd (mFld 6 "_samples" (mVar 0)) (mCall sp_look_up (mACons (mFld 6 "ranges" (mVar 0)) (mACons (mVar 6) (mACons (mC (.int 0)) mANil)))) (mVar 6)))
    mNext)
def m_ClassTable_init_R1 : MS :=
  (mSeq (mDrop (mCall sp_check_ranges (mACons (mVar 2) mANil)))
  (mSeq (mSetF 6 "count" (mVar 0) (mVar 1))
  (mSeq (mSetF 6 "ranges" (mVar 0) (mCB oTupleOf (mACons (mComp [5] (mIt (mVar 2)) (gNm 5) mYes m_ClassTable_init_C1e) mANil)))
  (mSeq (mSetF 6 "_samples" (mVar 0) mNewD)
  (mSeq (mFor (mIt (mFro (mSortSet (mCall sp_cuts (mACons (mVar 2) mANil))))) (gNm 6)
   m_ClassTable_init_L2) (mFrzF 0 "_samples" mNext))))))
def m_ClassTable_init : MS :=
  (mSeq (mIfS (mOr (mTst (mOp cLt (mVar 1) (mC (.int 1)))) (mTst (mOp cGt (mVar 1) (mC c_MOST_CLASSES))))
   (mRaise 1)
   mNext)
  (mSeq (mFor (mIt (mVar 2)) (gTp (gC1 (gNm 3) (gC1 (gNm 3) (gC1 (gNm 4) gN0))))
   m_ClassTable_init_L1)
  m_ClassTable_init_R1))
-- ClassTable_class_of: slots 0 self, 1 sign
abbrev s_ClassTable_class_of : Stmt := inClass (top 17) 1
def m_ClassTable_class_of : MS :=
  (mSeq (mDrop (mCall sp_check_text (mACons (mLst (mACons (mVar 1) mANil)) mANil)))
  (mRet (mCall sp_look_up (mACons (mFld 6 "ranges" (mVar 0)) (mACons (mVar 1) (mACons (mC (.int 0)) mANil))))))
-- ClassTable_row: slots 0 self, 1 text, 2 sign
abbrev s_ClassTable_row : Stmt := inClass (top 17) 2
def m_ClassTable_row_C1e : ME :=
  (mCall sp_look_up (mACons (mFld 6 "ranges" (mVar 0)) (mACons (mVar 2) (mACons (mC (.int 0)) mANil))))
def m_ClassTable_row : MS :=
  (mSeq (mDrop (mCall sp_check_text (mACons (mVar 1) mANil)))
  (mRet (mComp [2] (mIt (mVar 1)) (gNm 2) mYes m_ClassTable_row_C1e)))
-- ClassTable_present: slots 0 self
abbrev s_ClassTable_present : Stmt := inClass (top 17) 3
def m_ClassTable_present : MS :=
  (mRet (mCell (mSortD (mFld 6 "_samples" (mVar 0)))))
-- ClassTable_sample: slots 0 self, 1 number
abbrev s_ClassTable_sample : Stmt := inClass (top 17) 4
def m_ClassTable_sample : MS :=
  (mSeq (mIfS (mOr (mTst (mOp cLt (mVar 1) (mC (.int 0)))) (mTst (mOp cGe (mVar 1) (mFld 6 "count" (mVar 0)))))
   (mRaise 1)
   mNext)
  (mSeq (mIfS (mTst (mDIn true (mVar 1) (mFld 6 "_samples" (mVar 0))))
   (mRaise 4)
   mNext)
  (mRet (mDGet (mFld 6 "_samples" (mVar 0)) (mVar 1)))))
-- _law_draws: slots 0 script, 1 draws, 2 cell, 3 number, 4 first, 5 k, 6 seed
abbrev s__law_draws : Stmt := top 19
def m__law_draws_L1 : MS :=
  (mIfS (mTst (mOp cGt (mVar 3) (mC (.int 0))))
     (mSeq (mApp 1 (mOp aMod (mCB oIntOf (mACons (mVar 3) mANil)) (mC (.int 997))))
     (mSet 3 (mOp aDiv (mVar 3) (mC (.int 997)))))
     mNext)
def m__law_draws_L2 : MS :=
  (mSeq (mSet 3 (mCB oAbs (mACons (mVar 2) mANil)))
   (mSeq (mIfS (mTst (mOp cLt (mVar 3) (mOp aPow (mC (.int 10)) (mC (.int 18)))))
    (mSeq (mSet 4 (mOp aMod (mCB oIntOf (mACons (mOp aAdd (mOp aMul (mVar 3) (mC (.int 48271))) (mC (.int 11))) mANil)) (mC (.int 2147483647))))
    (mSeq (mApp 1 (mOp aMod (mCB oIntOf (mACons (mOp aAdd (mOp aMul (mVar 4) (mC (.int 69621))) (mVar 3)) mANil)) (mC (.int 2147483629))))
    (mSeq (mApp 1 (mOp aMod (mCB oIntOf (mACons (mOp aAdd (mVar 4) (mOp aDiv (mVar 3) (mC (.int 7)))) mANil)) (mC (.int 1000003))))
    (mSet 3 (mC (.int 0))))))
    mNext)
   (mFor (mRng1 (mACons (mC (.int 60)) mANil)) (gNm 5)
    m__law_draws_L1)))
def m__law_draws_L3 : MS :=
  (mSeq (mSet 6 (mOp aMod (mCB oIntOf (mACons (mOp aAdd (mOp aMul (mVar 6) (mC (.int 48271))) (mC (.int 69621))) mANil)) (mC (.int 2147483647))))
   (mApp 1 (mOp aDiv (mVar 6) (mC (.int 5)))))
def m__law_draws_R1 : MS :=
  (mRetG (mRevL (mOwn 1)))
def m__law_draws_R2 : MS :=
  (mSeq (mSet 6 (mC (.int 1)))
  (mSeq (mIfS (mTst (mOp cGt (mCB oLen (mACons (mVar 0) mANil)) (mC (.int 0))))
   (mSet 6 (mOp aAdd (mC (.int 1)) (mCB oAbs (mACons (mOp oIx (mVar 0) (mC (.int 0))) mANil))))
   mNext)
  (mSeq (mFor (mRng1 (mACons (mC (.int 900)) mANil)) (gNm 5)
   m__law_draws_L3)
  m__law_draws_R1)))
def m__law_draws : MS :=
  (mSeq (mSetO 1 (mLst mANil))
  (mSeq (mFor (mIt (mVar 0)) (gNm 2)
   m__law_draws_L2)
  m__law_draws_R2))
-- _law_take: slots 0 draws, 1 bound
abbrev s__law_take : Stmt := top 20
def m__law_take : MS :=
  (mSeq (mIfS (mTst (mOp oEq (mCB oLen (mACons (mVar 0) mANil)) (mC (.int 0))))
   (mRet (mC (.int 0)))
   mNext)
  (mRet (mOp aMod (mCB oIntOf (mACons (mPopO (mVar 0)) mANil)) (mVar 1))))
-- _law_alike: slots 0 found, 1 due, 2 k
abbrev s__law_alike : Stmt := top 21
def m__law_alike_C1e (n : Nat) : ME :=
  (mVar 2)
def m__law_alike_C1t (n : Nat) : MT :=
  (mNot (mTru (mCall (sp__law_alike n) (mACons (mOp oIx (mVar 0) (mVar 2)) (mACons (mOp oIx (mVar 1) (mVar 2)) mANil)))))
def m__law_alike (n : Nat) : MS :=
  (mSeq (mIfS (mOr (mTru (mIsT "list" (mVar 1))) (mTru (mIsT "tuple" (mVar 1))))
   (mSeq (mIfS (mOr (mTst (mOp oNe (mIsT "list" (mVar 0)) (mIsT "list" (mVar 1)))) (mTst (mOp oNe (mIsT "tuple" (mVar 0)) (mIsT "tuple" (mVar 1)))))
    (mRet (mC (.bl false)))
    mNext)
   (mRet (mAndV (mOp oEq (mCB oLen (mACons (mVar 0) mANil)) (mCB oLen (mACons (mVar 1) mANil))) (mOp oEq (mComp [2] (mRng1 (mACons (mCB oLen (mACons (mVar 1) mANil)) mANil)) (gNm 2) (m__law_alike_C1t n) (m__law_alike_C1e n)) (mLst mANil)))))
   mNext)
  (mSeq (mIfS (mTst (mOp oIs (mVar 1) (mC .non)))
   (mRet (mOp oIs (mVar 0) (mC .non)))
   mNext)
  (mSeq (mIfS (mOr (mTru (mIsT "bool" (mVar 1))) (mTru (mIsT "bool" (mVar 0))))
   (mRet (mAndV (mIsT "bool" (mVar 0)) (mAndV (mIsT "bool" (mVar 1)) (mOp oEq (mVar 0) (mVar 1)))))
   mNext)
  (mSeq (mIfS (mTru (mIsT "int" (mVar 1)))
   (mRet (mAndV (mIsT "int" (mVar 0)) (mOp oEq (mVar 0) (mVar 1))))
   mNext)
  (mRet (mAndV (mIsT "str" (mVar 0)) (mOp oEq (mVar 0) (mVar 1))))))))
-- _law_ranges: slots 0 draws, 1 count, 2 many, 3 found, 4 first, 5 turn, 6 last, 7 number
abbrev s__law_ranges : Stmt := top 22
def m__law_ranges_L1 : MS :=
  (mSeq (mSet 6 (mOp aAdd (mVar 4) (mCall spTake (mACons (mVar 0) (mACons (mOp oIx (mLst (mACons (mC (.int 1)) (mACons (mC (.int 3)) (mACons (mC (.int 40)) (mACons (mC (.int 700)) mANil))))) (mCall spTake (mACons (mVar 0) (mACons (mC (.int 4)) mANil)))) mANil)))))
   (mSeq (mIfS (mTst (mOp cLt (mVar 6) (mC (.int 1114112))))
    (mApp 3 (mTup (mACons (mVar 4) (mACons (mVar 6) (mACons (mCall spTake (mACons (mVar 0) (mACons (mVar 1) mANil))) mANil)))))
    mNext)
   (mSeq (mSet 4 (mOp aAdd (mOp aAdd (mVar 6) (mC (.int 1))) (mCall spTake (mACons (mVar 0) (mACons (mOp oIx (mLst (mACons (mC (.int 1)) (mACons (mC (.int 2)) (mACons (mC (.int 50)) (mACons (mC (.int 4000)) mANil))))) (mCall spTake (mACons (mVar 0) (mACons (mC (.int 4)) mANil)))) mANil)))))
   (mIfS (mTst (mChain cLe cLe (mC (.int 55296)) (mVar 4) (mC (.int 57343))))
    (mSet 4 (mC (.int 57344)))
    mNext))))
def m__law_ranges_C1e : ME :=
  (mTup (mACons (mVar 4) (mACons (mIf (mTst (mOp cLt (mVar 4) (mC (.int 55296)))) (mCB oMin2 (mACons (mVar 6) (mACons (mC (.int 55295)) mANil))) (mVar 6)) (mACons (mVar 7) mANil))))
def m__law_ranges_R1 : MS :=
  (mFrz 3 (mRet (mComp [4, 6, 7] (mIt (mVar 3)) (gTp (gC1 (gNm 4) (gC1 (gNm 6) (gC1 (gNm 7) gN0)))) mYes m__law_ranges_C1e)))
def m__law_ranges : MS :=
  (mSeq (mParK [3, 4] (mKOwn (mLst mANil) (mKVal (mCall spTake (mACons (mVar 0) (mACons (mC (.int 200)) mANil))) mKNil)))
  (mSeq (mFor (mRng1 (mACons (mVar 2) mANil)) (gNm 5)
   m__law_ranges_L1)
  m__law_ranges_R1))
-- _law_class: slots 0 ranges, 1 sign, 2 first, 3 last, 4 number
abbrev s__law_class : Stmt := top 23
def m__law_class_L1 : MS :=
  (mIfS (mTst (mChain cLe cLe (mVar 2) (mVar 1) (mVar 3)))
    (mRet (mVar 4))
    mNext)
def m__law_class_R1 : MS :=
  (mRet (mC (.int 0)))
def m__law_class : MS :=
  (mSeq (mFor (mIt (mVar 0)) (gTp (gC1 (gNm 2) (gC1 (gNm 3) (gC1 (gNm 4) gN0))))
   m__law_class_L1)
  m__law_class_R1)
-- _law_least: slots 0 ranges, 1 number, 2 found, 3 first, 4 last, 5 kind, 6 sign
abbrev s__law_least : Stmt := top 25
def m__law_least_C1e : ME :=
  (mIf (mTst (mChain cLe cLe (mC (.int 55296)) (mVar 3) (mC (.int 57343)))) (mCB oMax2 (mACons (mVar 3) (mACons (mC (.int 57344)) mANil))) (mVar 3))
def m__law_least_C1t : MT :=
  (mAnd (mTst (mOp oEq (mVar 5) (mVar 1))) (mNot (mAnd (mTst (mOp cLe (mC (.int 55296)) (mVar 3))) (mTst (mOp cLe (mVar 4) (mC (.int 57343)))))))
def m__law_least_L1 : MS :=
  (mIfS (mAnd (mTst (mChain cLe cLe (mVar 3) (mVar 6) (mVar 4))) (mTst (mOp cLe (mVar 6) (mC (.int 1114111)))))
     (mSeq (mSet 6 (mOp aAdd (mVar 4) (mC (.int 1))))
     (mIfS (mTst (mChain cLe cLe (mC (.int 55296)) (mVar 6) (mC (.int 57343))))
      (mSet 6 (mC (.int 57344)))
      mNext))
     mNext)
def m__law_least_L2 : MS :=
  (mIfS (mTst (mChain cLe cLe (mVar 3) (mVar 6) (mVar 4)))
     (mSet 6 (mOp aAdd (mVar 4) (mC (.int 1))))
     mNext)
def m__law_least_R1 : MS :=
  (mSet 2 (mOp oCatL (mVar 2) (mIf (mTst (mOp cLe (mVar 6) (mC (.int 1114111)))) (mLst (mACons (mVar 6) mANil)) (mLst mANil))))
def m__law_least_R2 : MS :=
  (mSeq (mFor (mIt (mVar 0)) (gTp (gC1 (gNm 3) (gC1 (gNm 4) (gC1 (gNm 5) gN0))))
    m__law_least_L2)
   m__law_least_R1)
def m__law_least_R3 : MS :=
  (mRet (mIf (mTst (mOp oNe (mVar 2) (mLst mANil))) (mCB oMin1 (mACons (mVar 2) mANil)) (mC .non)))
def m__law_least : MS :=
  (mSeq (mSet 2 (mComp [3, 4, 5] (mIt (mVar 0)) (gTp (gC1 (gNm 3) (gC1 (gNm 4) (gC1 (gNm 5) gN0)))) m__law_least_C1t m__law_least_C1e))
  (mSeq (mIfS (mTst (mOp oEq (mVar 1) (mC (.int 0))))
   (mSeq (mSet 6 (mC (.int 0)))
   (mSeq (mFor (mIt (mVar 0)) (gTp (gC1 (gNm 3) (gC1 (gNm 4) (gC1 (gNm 5) gN0))))
    m__law_least_L1)
   m__law_least_R2))
   mNext)
  m__law_least_R3))
-- _law_told: slots 0 which, 1 one, 2 other, 3 table, 4 e
abbrev s__law_told : Stmt := top 26
def m__law_told : MS :=
  (mTryW wd__law_word
   (mSeq (mIfS (mTst (mOp oEq (mVar 0) (mC (.int 0))))
    (mSeq (mSet 3 (mMake 6 sp_ClassTable_init (mACons (mVar 1) (mACons (mVar 2) mANil))))
    (mRet (mTup (mACons (mFld 6 "count" (mVar 3)) (mACons (mFld 6 "ranges" (mVar 3)) mANil)))))
    mNext)
   (mRet (mIf (mTst (mOp oEq (mVar 0) (mC (.int 1)))) (mMeth 6 "sample" sp_ClassTable_sample (mVar 1) (mACons (mVar 2) mANil)) (mIf (mTst (mOp oEq (mVar 0) (mC (.int 2)))) (mMeth 6 "class_of" sp_ClassTable_class_of (mVar 1) (mACons (mVar 2) mANil)) (mMeth 6 "row" sp_ClassTable_row (mVar 1) (mACons (mVar 2) mANil)))))))
-- law: slots 0 script, 1 draws, 2 count, 3 ranges, 4 way, 5 cut, 6 own, 7 table, 8 edges, 9 first, 10 last, 11 number, 12 signs, 13 sign, 14 some, 15 k, 16 due, 17 least, 18 present, 19 told, 20 one, 21 other, 22 at, 23 bad, 24 value
abbrev s_law : Stmt := top 27
def m_law_C1e : ME :=
  (mVar 9)
def m_law_C2e : ME :=
  (mVar 10)
def m_law_C3e : ME :=
  (mOp aAdd (mVar 10) (mC (.int 1)))
def m_law_C4e : ME :=
  (mVar 13)
def m_law_C4t : MT :=
  (mAnd (mNot (mTst (mChain cLe cLe (mC (.int 55296)) (mVar 13) (mC (.int 57343))))) (mTst (mOp cLe (mVar 13) (mC (.int 1114111)))))
def m_law_C5e : ME :=
  (mOp oIx (mVar 12) (mCall spTake (mACons (mVar 1) (mACons (mCB oLen (mACons (mVar 12) mANil)) mANil))))
def m_law_C6e : ME :=
  (mCall spTake (mACons (mVar 1) (mACons (mC (.int 55296)) mANil)))
def m_law_C7e : ME :=
  (mCall sp__law_class (mACons (mVar 3) (mACons (mVar 13) mANil)))
def m_law_C8e : ME :=
  (mMeth 6 "class_of" sp_ClassTable_class_of (mVar 7) (mACons (mVar 13) mANil))
def m_law_C9e : ME :=
  (mCall sp__law_least (mACons (mVar 3) (mACons (mVar 11) mANil)))
def m_law_C10e : ME :=
  (mVar 11)
def m_law_C10t : MT :=
  (mTst (mOp oIsNot (mOp oIx (mVar 17) (mVar 11)) (mC .non)))
def m_law_C11e : ME :=
  (mIf (mTst (mOp oIsNot (mVar 20) (mC .non))) (mVar 20) (mC (.str "none")))
def m_law_C12e : ME :=
  (mCall sp__law_told (mACons (mC (.int 1)) (mACons (mVar 7) (mACons (mVar 11) mANil))))
def m_law_C13e : ME :=
  (mCall sp__law_told (mACons (mC (.int 1)) (mACons (mVar 7) (mACons (mVar 11) mANil))))
def m_law_C14e : ME :=
  (mCall sp__law_told (mACons (mC (.int 2)) (mACons (mVar 7) (mACons (mVar 13) mANil))))
def m_law_C15e : ME :=
  (mCall sp__law_told (mACons (mC (.int 0)) (mACons (mVar 20) (mACons (mVar 21) mANil))))
def m_law_C16e : ME :=
  (mVar 24)
def m_law_C16t : MT :=
  (mTst (mOp oNe (mCall sp__law_told (mACons (mC (.int 0)) (mACons (mVar 2) (mACons (mVar 24) mANil)))) (mC (.str "refused"))))
def m_law_B10 : MS :=
  (mSeq (mSet 22 (mCall spTake (mACons (mVar 1) (mACons (mCB oMax2 (mACons (mCB oLen (mACons (mVar 3) mANil)) (mACons (mC (.int 1)) mANil))) mANil))))
  (mSeq (mSet 23 (mLst (mACons (mLst (mACons (mTup (mACons (mC (.int 5)) (mACons (mC (.int 4)) (mACons (mC (.int 0)) mANil)))) mANil)) (mACons (mLst (mACons (mTup (mACons (mC (.int 5)) (mACons (mC (.int 9)) (mACons (mC (.int 0)) mANil)))) (mACons (mTup (mACons (mC (.int 9)) (mACons (mC (.int 10)) (mACons (mC (.int 0)) mANil)))) mANil))) (mACons (mLst (mACons (mTup (mACons (mC (.int 5)) (mACons (mC (.int 9)) (mACons (mC (.int 0)) mANil)))) (mACons (mTup (mACons (mC (.int 1)) (mACons (mC (.int 2)) (mACons (mC (.int 0)) mANil)))) mANil))) (mACons (mLst (mACons (mTup (mACons (mNeg (mC (.int 1))) (mACons (mC (.int 3)) (mACons (mC (.int 0)) mANil)))) mANil)) (mACons (mLst (mACons (mTup (mACons (mC (.int 1114100)) (mACons (mC (.int 1114112)) (mACons (mC (.int 0)) mANil)))) mANil)) (mACons (mLst (mACons (mTup (mACons (mC (.int 55296)) (mACons (mC (.int 60000)) (mACons (mC (.int 0)) mANil)))) mANil)) (mACons (mLst (mACons (mTup (mACons (mC (.int 3)) (mACons (mC (.int 56000)) (mACons (mC (.int 0)) mANil)))) mANil)) mANil)))))))))
  (mSeq (mIfS (mTst (mOp cGt (mCB oLen (mACons (mVar 3) mANil)) (mC (.int 1))))
   (mSet 23 (mOp oCatL (mVar 23) (mLst (mACons (mFro (mRevL (mVar 3))) (mACons (mOp oCatL (mOp oCatL (mSliceL (mVar 3) mNoP (mPart (mVar 22))) (mSliceL (mVar 3) (mPart (mVar 22)) (mPart (mOp aAdd (mVar 22) (mC (.int 1)))))) (mSliceL (mVar 3) (mPart (mVar 22)) mNoP)) mANil)))))
   mNext)
  (mRet (mOp oEq (mComp [24] (mIt (mVar 23)) (gNm 24) m_law_C16t m_law_C16e) (mLst mANil))))))
def m_law_B9 : MS :=
  (mSeq (mIfS (mTst (mOp oNe (mComp [20, 21] (mIt (mLst (mACons (mTup (mACons (mC (.int 0)) (mACons (mLst mANil) mANil))) (mACons (mTup (mACons (mC (.int 65)) (mACons (mLst mANil) mANil))) (mACons (mTup (mACons (mVar 2) (mACons (mLst (mACons (mTup (mACons (mC (.int 5)) (mACons (mC (.int 4)) (mACons (mVar 2) mANil)))) mANil)) mANil))) (mACons (mTup (mACons (mVar 2) (mACons (mLst (mACons (mTup (mACons (mC (.int 5)) (mACons (mC (.int 6)) (mACons (mNeg (mC (.int 1))) mANil)))) mANil)) mANil))) mANil)))))) (gTp (gC1 (gNm 20) (gC1 (gNm 21) gN0))) mYes m_law_C15e) (mOp oRep (mLst (mACons (mC (.str "range")) mANil)) (mC (.int 4)))))
   (mRet (mC (.bl false)))
   mNext)
  m_law_B10)
def m_law_B8 : MS :=
  (mSeq (mIfS (mTst (mOp oNe (mOp oCatL (mOp oCatL (mComp [11] (mIt (mLst (mACons (mNeg (mC (.int 1))) (mACons (mVar 2) mANil)))) (gNm 11) mYes m_law_C13e) (mComp [13] (mIt (mLst (mACons (mNeg (mC (.int 1))) (mACons (mC (.int 55296)) (mACons (mC (.int 57343)) (mACons (mC (.int 1114112)) mANil)))))) (gNm 13) mYes m_law_C14e)) (mLst (mACons (mCall sp__law_told (mACons (mC (.int 3)) (mACons (mVar 7) (mACons (mLst (mACons (mC (.int 65)) (mACons (mC (.int 56000)) mANil))) mANil)))) mANil))) (mOp oRep (mLst (mACons (mC (.str "range")) mANil)) (mC (.int 7)))))
   (mRet (mC (.bl false)))
   mNext)
  m_law_B9)
def m_law_B7 : MS :=
  (mSeq (mAppO (mVar 19) (mC (.int 5)))
  (mSeq (mIfS (mNot (mTru (mCall (sp__law_alike 5) (mACons (mMeth 6 "present" sp_ClassTable_present (mVar 7) mANil) (mACons (mVar 18) mANil)))))
   (mRet (mC (.bl false)))
   mNext)
  m_law_B8))
def m_law_B6 : MS :=
  (mSeq (mSet 19 (mMeth 6 "present" sp_ClassTable_present (mVar 7) mANil))
  (mSeq (mIfS (mOr (mNot (mTru (mCall (sp__law_alike 5) (mACons (mVar 19) (mACons (mVar 18) mANil))))) (mNot (mTru (mCall (sp__law_alike 5) (mACons (mComp [11] (mRng1 (mACons (mVar 2) mANil)) (gNm 11) mYes m_law_C12e) (mACons (mComp [20] (mIt (mVar 17)) (gNm 20) mYes m_law_C11e) mANil))))))
   (mRet (mC (.bl false)))
   mNext)
  m_law_B7))
def m_law_B5 : MS :=
  (mSeq (mSet 17 (mComp [11] (mRng1 (mACons (mVar 2) mANil)) (gNm 11) mYes m_law_C9e))
  (mSeq (mSet 18 (mComp [11] (mRng1 (mACons (mVar 2) mANil)) (gNm 11) m_law_C10t m_law_C10e))
  m_law_B6))
def m_law_B4 : MS :=
  (mSeq (mSet 16 (mComp [13] (mIt (mVar 14)) (gNm 13) mYes m_law_C7e))
  (mSeq (mIfS (mNot (mTru (mCall (sp__law_alike 5) (mACons (mLst (mACons (mMeth 6 "row" sp_ClassTable_row (mVar 7) (mACons (mVar 14) mANil)) (mACons (mComp [13] (mIt (mVar 14)) (gNm 13) mYes m_law_C8e) mANil))) (mACons (mLst (mACons (mVar 16) (mACons (mVar 16) mANil))) mANil)))))
   (mRet (mC (.bl false)))
   mNext)
  m_law_B5))
def m_law_B3 : MS :=
  (mSeq (mSet 14 (mOp oCatL (mComp [15] (mRng1 (mACons (mC (.int 40)) mANil)) (gNm 15) mYes m_law_C5e) (mComp [15] (mRng1 (mACons (mC (.int 10)) mANil)) (gNm 15) mYes m_law_C6e)))
  m_law_B4)
def m_law_B2 : MS :=
  (mSeq (mSet 8 (mOp oCatL (mOp oCatL (mOp oCatL (mLst (mACons (mC (.int 0)) (mACons (mC (.int 1114111)) (mACons (mC (.int 55295)) (mACons (mC (.int 57344)) mANil))))) (mComp [9, 10, 11] (mIt (mVar 3)) (gTp (gC1 (gNm 9) (gC1 (gNm 10) (gC1 (gNm 11) gN0)))) mYes m_law_C1e)) (mComp [9, 10, 11] (mIt (mVar 3)) (gTp (gC1 (gNm 9) (gC1 (gNm 10) (gC1 (gNm 11) gN0)))) mYes m_law_C2e)) (mComp [9, 10, 11] (mIt (mVar 3)) (gTp (gC1 (gNm 9) (gC1 (gNm 10) (gC1 (gNm 11) gN0)))) mYes m_law_C3e)))
  (mSeq (mSet 12 (mComp [13] (mIt (mVar 8)) (gNm 13) m_law_C4t m_law_C4e))
  m_law_B3))
def m_law_B1 : MS :=
  (mSeq (mSet 6 (mCell (mCF oListOf (mACons (mVar 3) mANil))))
  (mSeq (mSet 7 (mMake 6 sp_ClassTable_init (mACons (mVar 2) (mACons (mVar 6) mANil))))
  (mSeq (mAppO (mVar 6) (mC .non))
  (mSeq (mIfS (mNot (mTru (mCall (sp__law_alike 5) (mACons (mLst (mACons (mFld 6 "count" (mVar 7)) (mACons (mFld 6 "ranges" (mVar 7)) mANil))) (mACons (mLst (mACons (mVar 2) (mACons (mCB oTupleOf (mACons (mVar 3) mANil)) mANil))) mANil)))))
   (mRet (mC (.bl false)))
   mNext)
  m_law_B2))))
def m_law : MS :=
  (mSeq (mSet 1 (mCall sp__law_draws (mACons (mVar 0) mANil)))
  (mSeq (mSet 2 (mOp oIx (mLst (mACons (mC (.int 1)) (mACons (mC (.int 2)) (mACons (mC (.int 7)) (mACons (mC (.int 40)) (mACons (mC (.int 64)) mANil)))))) (mCall spTake (mACons (mVar 1) (mACons (mC (.int 5)) mANil)))))
  (mSeq (mSet 3 (mCall sp__law_ranges (mACons (mVar 1) (mACons (mVar 2) (mACons (mOp oIx (mLst (mACons (mC (.int 0)) (mACons (mC (.int 1)) (mACons (mC (.int 5)) (mACons (mC (.int 64)) (mACons (mC (.int 65)) (mACons (mC (.int 300)) mANil))))))) (mCall spTake (mACons (mVar 1) (mACons (mC (.int 6)) mANil)))) mANil)))))
  (mSeq (mSet 4 (mCall spTake (mACons (mVar 1) (mACons (mC (.int 4)) mANil))))
  (mSeq (mIfS (mAnd (mTst (mOp oEq (mVar 4) (mC (.int 0)))) (mTst (mOp oEq (mVar 3) (mLst mANil))))
   (mSeq (mSet 5 (mOp aAdd (mC (.int 1)) (mCall spTake (mACons (mVar 1) (mACons (mC (.int 50000)) mANil)))))
   (mSet 3 (mLst (mACons (mTup (mACons (mC (.int 0)) (mACons (mVar 5) (mACons (mOp aSub (mVar 2) (mC (.int 1))) mANil)))) (mACons (mTup (mACons (mOp aAdd (mVar 5) (mC (.int 1))) (mACons (mC (.int 60000)) (mACons (mCall spTake (mACons (mVar 1) (mACons (mVar 2) mANil))) mANil)))) (mACons (mTup (mACons (mC (.int 60001)) (mACons (mC (.int 1114111)) (mACons (mOp aDiv (mVar 2) (mC (.int 2))) mANil)))) mANil))))))
   mNext)
  m_law_B1)))))
abbrev s__law_word : Stmt := top 24
structure Txt (K : PySem.W.Frag) (mg : Str → Option Value) (cl : Nat → Addr) : Prop where
  b_abs : mg "abs" = none
  b_bool : mg "bool" = none
  b_int : mg "int" = none
  b_isinstance : mg "isinstance" = none
  b_len : mg "len" = none
  b_list : mg "list" = none
  b_max : mg "max" = none
  b_min : mg "min" = none
  b_range : mg "range" = none
  b_reversed : mg "reversed" = none
  b_set : mg "set" = none
  b_sorted : mg "sorted" = none
  b_str : mg "str" = none
  b_tuple : mg "tuple" = none
  c_GAP : ConstOk K mg cl "GAP" c_GAP
  c_LAST_SIGN : ConstOk K mg cl "LAST_SIGN" c_LAST_SIGN
  c_MOST_CLASSES : ConstOk K mg cl "MOST_CLASSES" c_MOST_CLASSES
  f_is_sign : DefOk K mg "is_sign" s_is_sign ["value"]
  f_check_text : DefOk K mg "check_text" s_check_text ["text"]
  f_check_ranges : DefOk K mg "check_ranges" s_check_ranges ["ranges"]
  f_look_up : DefOk K mg "look_up" s_look_up ["ranges", "sign", "other"]
  f_cuts : DefOk K mg "cuts" s_cuts ["ranges"]
  f_ClassTable_init : InitOk K mg (cl 6) "ClassTable" "ClassTable.__init__" s_ClassTable_init ["self", "count", "ranges"]
  f_ClassTable_class_of : MethOk K (cl 6) "class_of" "ClassTable.class_of" s_ClassTable_class_of ["self", "sign"]
  f_ClassTable_row : MethOk K (cl 6) "row" "ClassTable.row" s_ClassTable_row ["self", "text"]
  f_ClassTable_present : MethOk K (cl 6) "present" "ClassTable.present" s_ClassTable_present ["self"]
  f_ClassTable_sample : MethOk K (cl 6) "sample" "ClassTable.sample" s_ClassTable_sample ["self", "number"]
  f__law_draws : DefOk K mg "_law_draws" s__law_draws ["script"]
  f__law_take : DefOk K mg "_law_take" s__law_take ["draws", "bound"]
  f__law_alike : DefOk K mg "_law_alike" s__law_alike ["found", "due"]
  f__law_ranges : DefOk K mg "_law_ranges" s__law_ranges ["draws", "count", "many"]
  f__law_class : DefOk K mg "_law_class" s__law_class ["ranges", "sign"]
  f__law_least : DefOk K mg "_law_least" s__law_least ["ranges", "number"]
  f__law_told : DefOk K mg "_law_told" s__law_told ["which", "one", "other"]
  f_law : DefOk K mg "law" s_law ["script"]
  f__law_word : DefOk K mg "_law_word" s__law_word ["e"]
  x_OutOfRange : ExcK K mg "OutOfRange" (cl 1)
  x_Refused : ExcK K mg "Refused" (cl 3)
  x_NotThere : ExcK K mg "NotThere" (cl 4)
  cls_ClassTable : Cls K (cl 6)
  na_ClassTable_count : NoAttr K (cl 6) "count"
  na_ClassTable_ranges : NoAttr K (cl 6) "ranges"
  na_ClassTable_samples : NoAttr K (cl 6) "_samples"
end K01


set_option Elab.async false
set_option linter.all false
set_option maxRecDepth 100000
set_option maxHeartbeats 4000000
namespace K01
open PySem PySem.Spec PyProof.Rows L2 DL
section
variable {P : Program} {w : World} {K : PySem.W.Frag} {cl : Nat → Addr} {mg : Str → Option Value} {base : Heap}
theorem sc_is_sign : FnScope ["value"] ["value"] (defScope s_is_sign) := ⟨rfl, rfl, rfl, by decide +kernel, rfl, by decide +kernel, by decide +kernel⟩
theorem body_is_sign (T : Txt K mg cl) : Body P w K cl mg base "is_sign" s_is_sign ["value"] 1 (m_is_sign) := fun f cdv A outer s H E M Hh Sh hr =>
  have tk := L2N.takes_of (X := cxOf (L2N.CX P w) P w K mg base ["value"] "is_sign" (defScope s_is_sign) f cdv A outer s H E) (E₁ := _) rfl rfl rfl rfl
  (SsCons (SIf (DW.t (WOr (TNot (TTru (DE.b (DIsT (Ts := "int") (by rfl) T.b_isinstance (by rfl) T.b_int (by rfl) (by decide) (DE.b (d_var 0)))))) (WOr1 (TTru (DE.b (DIsT (Ts := "bool") (by rfl) T.b_isinstance (by rfl) T.b_bool (by rfl) (by decide) (DE.b (d_var 0))))))))
   (SsOne (SRet d_bl))
   SsNil)
  (SsOne (SRet (DOr (DChain o_le o_lt (DE.b d_int) (DE.b (d_var 0)) (DE.b d_int)) (DOne (DChain o_le o_le (DE.b d_int) (DE.b (d_var 0)) (DE.b (ConstOk.e T.c_LAST_SIGN))))))))
theorem sc_check_text : FnScope ["text", "sign"] ["text"] (defScope s_check_text) := ⟨rfl, rfl, rfl, by decide +kernel, rfl, by decide +kernel, by decide +kernel⟩
theorem body_check_text (T : Txt K mg cl) (ok_is_sign : CK P w K mg base cl 2 "is_sign" sp_is_sign) : Body P w K cl mg base "check_text" s_check_text ["text", "sign"] 2 (m_check_text) := fun f cdv A outer s H E M Hh Sh hr =>
  have tk := L2N.takes_of (X := cxOf (L2N.CX P w) P w K mg base ["text", "sign"] "check_text" (defScope s_check_text) f cdv A outer s H E) (E₁ := _) rfl rfl rfl rfl
  (SsOne (SFor (passes_of rfl) (by rfl) (IList (d_var 0)) (GNm 1 sc_check_text.nd)
   (SsOne (SIf (TNot (TTru (DE.b (ECall ok_is_sign (hr.mono (by omega)) (by rfl) tk (ACons (d_var 1) ANil)))))
    (SsOne (SRaiseK (by rfl) tk T.x_OutOfRange (by rfl)))
    SsNil))))
theorem sc_check_ranges : FnScope ["ranges", "before", "first", "last", "_"] ["ranges"] (defScope s_check_ranges) := ⟨rfl, rfl, rfl, by decide +kernel, rfl, by decide +kernel, by decide +kernel⟩
theorem body_check_ranges (T : Txt K mg cl) (ok_is_sign : CK P w K mg base cl 2 "is_sign" sp_is_sign) : Body P w K cl mg base "check_ranges" s_check_ranges ["ranges", "before", "first", "last", "_"] 2 (m_check_ranges) := fun f cdv A outer s H E M Hh Sh hr =>
  have tk := L2N.takes_of (X := cxOf (L2N.CX P w) P w K mg base ["ranges", "before", "first", "last", "_"] "check_ranges" (defScope s_check_ranges) f cdv A outer s H E) (E₁ := _) rfl rfl rfl rfl
  (SsCons (SSet 1 (DNeg d_int) sc_check_ranges.nd)
  (SsOne (SFor (passes_of rfl) (by rfl) (IList (d_var 0)) (GTp (by rfl) (GC1 (GNm 2 sc_check_ranges.nd) (GC1 (GNm 3 sc_check_ranges.nd) (GC1 (GNm 4 sc_check_ranges.nd) GN0))) (lenNm (lenNm (lenNm len0))))
   (SsCons (SIf (DW.t (WOr (TNot (TTru (DE.b (ECall ok_is_sign (hr.mono (by omega)) (by rfl) tk (ACons (d_var 2) ANil))))) (WOr (TNot (TTru (DE.b (ECall ok_is_sign (hr.mono (by omega)) (by rfl) tk (ACons (d_var 3) ANil))))) (WOr (TCmp o_gt (DE.b (d_var 2)) (DE.b (d_var 3)) (nomark _)) (WOr1 (TCmp o_le (DE.b (d_var 2)) (DE.b (d_var 1)) (nomark _)))))))
    (SsOne (SRaiseK (by rfl) tk T.x_Refused (by rfl)))
    SsNil)
   (SsOne (SSet 1 (d_var 3) sc_check_ranges.nd))))))
theorem sc_look_up : FnScope ["ranges", "sign", "other", "low", "high", "middle"] ["ranges", "sign", "other"] (defScope s_look_up) := ⟨rfl, rfl, rfl, by decide +kernel, rfl, by decide +kernel, by decide +kernel⟩
theorem body_look_up (T : Txt K mg cl) : Body P w K cl mg base "look_up" s_look_up ["ranges", "sign", "other", "low", "high", "middle"] 1 (m_look_up) := fun f cdv A outer s H E M Hh Sh hr =>
  have tk := L2N.takes_of (X := cxOf (L2N.CX P w) P w K mg base ["ranges", "sign", "other", "low", "high", "middle"] "look_up" (defScope s_look_up) f cdv A outer s H E) (E₁ := _) rfl rfl rfl rfl
  (SsCons (SSet 3 d_int sc_look_up.nd)
  (SsCons (SSet 4 (DCallB c_len (by rfl) T.b_len (by rfl) (BCons (DE.b (d_var 0)) BNil)) sc_look_up.nd)
  (SsCons (SWhile (passes_of rfl) (TCmp o_lt (DE.b (d_var 3)) (DE.b (d_var 4)) (nomark _))
   (SsCons (SSet 5 (DOp o_fdiv (DE.b (DOp o_addI (DE.b (d_var 3)) (DE.b (d_var 4)))) (DE.b d_int)) sc_look_up.nd)
   (SsOne (SIf (TCmp o_lt (DE.b (DIx o_ix (DE.b (DIx o_ix (DE.b (d_var 0)) (DE.b (d_var 5)))) (DE.b d_int))) (DE.b (d_var 1)) (nomark _))
    (SsOne (SSet 3 (DOp o_addI (DE.b (d_var 5)) (DE.b d_int)) sc_look_up.nd))
    (SsOne (SSet 4 (d_var 5) sc_look_up.nd))))))
  (SsCons (SIf (DW.t (WAnd (TCmp o_lt (DE.b (d_var 3)) (DE.b (DCallB c_len (by rfl) T.b_len (by rfl) (BCons (DE.b (d_var 0)) BNil))) (nomark _)) (WAnd1 (TCmp o_le (DE.b (DIx o_ix (DE.b (DIx o_ix (DE.b (d_var 0)) (DE.b (d_var 3)))) (DE.b d_int))) (DE.b (d_var 1)) (nomark _)))))
   (SsOne (SRet (DIx o_ix (DE.b (DIx o_ix (DE.b (d_var 0)) (DE.b (d_var 3)))) (DE.b d_int))))
   SsNil)
  (SsOne (SRet (d_var 2)))))))
theorem sc_cuts : FnScope ["ranges", "found", "first", "last", "_"] ["ranges"] (defScope s_cuts) := ⟨rfl, rfl, rfl, by decide +kernel, rfl, by decide +kernel, by decide +kernel⟩
theorem body_cuts (T : Txt K mg cl) : Body P w K cl mg base "cuts" s_cuts ["ranges", "found", "first", "last", "_"] 1 (m_cuts) := fun f cdv A outer s H E M Hh Sh hr =>
  have tk := L2N.takes_of (X := cxOf (L2N.CX P w) P w K mg base ["ranges", "found", "first", "last", "_"] "cuts" (defScope s_cuts) f cdv A outer s H E) (E₁ := _) rfl rfl rfl rfl
  (SsCons (SSetO 1 (FLst (ACons d_int (ACons (DIx o_ix (DE.b (ConstOk.e T.c_GAP)) (DE.b d_int)) ANil))) sc_cuts.nd)
  (SsCons (SFor (passes_of rfl) (by rfl) (IList (d_var 0)) (GTp (by rfl) (GC1 (GNm 2 sc_cuts.nd) (GC1 (GNm 3 sc_cuts.nd) (GC1 (GNm 4 sc_cuts.nd) GN0))) (lenNm (lenNm (lenNm len0))))
   (SsCons (SApp 1 (d_var 2))
   (SsOne (SApp 1 (DOp o_addI (DE.b (d_var 3)) (DE.b d_int))))))
  (SsFrz 1 (SsOne (SRet (d_var 1))))))
theorem sc_ClassTable_init : FnScope ["self", "count", "ranges", "_", "number", "one", "sign"] ["self", "count", "ranges"] (defScope s_ClassTable_init) := ⟨rfl, rfl, rfl, by decide +kernel, rfl, by decide +kernel, by decide +kernel⟩
theorem body_ClassTable_init (T : Txt K mg cl) (ok_check_ranges : CK P w K mg base cl 3 "check_ranges" sp_check_ranges) (ok_cuts : CK P w K mg base cl 2 "cuts" sp_cuts) (ok_is_sign : CK P w K mg base cl 2 "is_sign" sp_is_sign) (ok_look_up : CK P w K mg base cl 2 "look_up" sp_look_up) : Body P w K cl mg base "ClassTable.__init__" s_ClassTable_init ["self", "count", "ranges", "_", "number", "one", "sign"] 4 (m_ClassTable_init) := fun f cdv A outer s H E M Hh Sh hr =>
  have tk := L2N.takes_of (X := cxOf (L2N.CX P w) P w K mg base ["self", "count", "ranges", "_", "number", "one", "sign"] "ClassTable.__init__" (defScope s_ClassTable_init) f cdv A outer s H E) (E₁ := _) rfl rfl rfl rfl
  (SsCons (SIf (DW.t (WOr (TCmp o_lt (DE.b (d_var 1)) (DE.b d_int) (nomark _)) (WOr1 (TCmp o_gt (DE.b (d_var 1)) (DE.b (ConstOk.e T.c_MOST_CLASSES)) (nomark _)))))
   (SsOne (SRaiseK (by rfl) tk T.x_OutOfRange (by rfl)))
   SsNil)
  (SsCons (SFor (passes_of rfl) (by rfl) (IList (d_var 2)) (GTp (by rfl) (GC1 (GNm 3 sc_ClassTable_init.nd) (GC1 (GNm 3 sc_ClassTable_init.nd) (GC1 (GNm 4 sc_ClassTable_init.nd) GN0))) (lenNm (lenNm (lenNm len0))))
   (SsOne (SIf (DW.t (WOr (TCmp o_lt (DE.b (d_var 4)) (DE.b d_int) (nomark _)) (WOr1 (TCmp o_ge (DE.b (d_var 4)) (DE.b (d_var 1)) (nomark _)))))
    (SsOne (SRaiseK (by rfl) tk T.x_OutOfRange (by rfl)))
    SsNil)))
  (SsCons (SExpr (ECall ok_check_ranges (hr.mono (by omega)) (by rfl) tk (ACons (d_var 2) ANil)))
  (SsCons (SSetF 6 T.cls_ClassTable T.na_ClassTable_count (d_var 0) (d_var 1))
  (SsCons (SSetF 6 T.cls_ClassTable T.na_ClassTable_ranges (d_var 0) (DCallTy c_tuple (by rfl) T.b_tuple (by rfl) (BCons (DE.b (DComp (own := [("one", 5)]) (by rfl) sc_ClassTable_init.nd (IList (d_var 2)) (blkOk_by (own := [("one", 5)]) (N := ["self", "count", "ranges", "_", "number", "one", "sign"]) (sc := defScope s_ClassTable_init) (by decide +kernel)) (by decide) (fun _ _ _ _ _ => (GNm 5 sc_ClassTable_init.nd)) (fun _ _ _ _ _ => TsNil) (fun _ _ _ _ _ => (DCallTy c_tuple (by rfl) T.b_tuple (by rfl) (BCons (DE.b (d_var 5)) BNil))))) BNil)))
  (SsCons (SSetF 6 T.cls_ClassTable T.na_ClassTable_samples (d_var 0) DNewD)
  (SsCons (SFor (passes_of rfl) (by rfl) (IList (DF.d (FSortSet (by rfl) (by rfl) T.b_sorted (by rfl) T.b_set (DE.b (ECall ok_cuts (hr.mono (by omega)) (by rfl) tk (ACons (d_var 2) ANil)))))) (GNm 6 sc_ClassTable_init.nd)
   (SsOne (SIf (TTru (DE.b (ECall ok_is_sign (hr.mono (by omega)) (by rfl) tk (ACons (d_var 6) ANil))))
    (SsOne (SExpr (DSetd (DFld 6 T.cls_ClassTable T.na_ClassTable_samples (d_var 0)) (ECall ok_look_up (hr.mono (by omega)) (by rfl) tk (ACons (DFld 6 T.cls_ClassTable T.na_ClassTable_ranges (d_var 0)) (ACons (d_var 6) (ACons d_int ANil)))) (d_var 6) ⟨rfl, rfl, rfl, rfl⟩)))
    SsNil))) (SsFrzF 0 "_samples" SsNil))))))))
theorem sc_ClassTable_class_of : FnScope ["self", "sign"] ["self", "sign"] (defScope s_ClassTable_class_of) := ⟨rfl, rfl, rfl, by decide +kernel, rfl, by decide +kernel, by decide +kernel⟩
theorem body_ClassTable_class_of (T : Txt K mg cl) (ok_check_text : CK P w K mg base cl 3 "check_text" sp_check_text) (ok_look_up : CK P w K mg base cl 2 "look_up" sp_look_up) : Body P w K cl mg base "ClassTable.class_of" s_ClassTable_class_of ["self", "sign"] 4 (m_ClassTable_class_of) := fun f cdv A outer s H E M Hh Sh hr =>
  have tk := L2N.takes_of (X := cxOf (L2N.CX P w) P w K mg base ["self", "sign"] "ClassTable.class_of" (defScope s_ClassTable_class_of) f cdv A outer s H E) (E₁ := _) rfl rfl rfl rfl
  (SsCons (SExpr (ECall ok_check_text (hr.mono (by omega)) (by rfl) tk (ACons (DLst (ACons (d_var 1) ANil)) ANil)))
  (SsOne (SRet (ECall ok_look_up (hr.mono (by omega)) (by rfl) tk (ACons (DFld 6 T.cls_ClassTable T.na_ClassTable_ranges (d_var 0)) (ACons (d_var 1) (ACons d_int ANil)))))))
theorem sc_ClassTable_row : FnScope ["self", "text", "sign"] ["self", "text"] (defScope s_ClassTable_row) := ⟨rfl, rfl, rfl, by decide +kernel, rfl, by decide +kernel, by decide +kernel⟩
theorem body_ClassTable_row (T : Txt K mg cl) (ok_check_text : CK P w K mg base cl 3 "check_text" sp_check_text) (ok_look_up : CK P w K mg base cl 2 "look_up" sp_look_up) : Body P w K cl mg base "ClassTable.row" s_ClassTable_row ["self", "text", "sign"] 4 (m_ClassTable_row) := fun f cdv A outer s H E M Hh Sh hr =>
  have tk := L2N.takes_of (X := cxOf (L2N.CX P w) P w K mg base ["self", "text", "sign"] "ClassTable.row" (defScope s_ClassTable_row) f cdv A outer s H E) (E₁ := _) rfl rfl rfl rfl
  (SsCons (SExpr (ECall ok_check_text (hr.mono (by omega)) (by rfl) tk (ACons (d_var 1) ANil)))
  (SsOne (SRet (DComp (own := [("sign", 2)]) (by rfl) sc_ClassTable_row.nd (IList (d_var 1)) (blkOk_by (own := [("sign", 2)]) (N := ["self", "text", "sign"]) (sc := defScope s_ClassTable_row) (by decide +kernel)) (by decide) (fun _ _ _ _ _ => (GNm 2 sc_ClassTable_row.nd)) (fun _ _ _ _ _ => TsNil) (fun _ _ _ _ _ => (ECall ok_look_up (hr.mono (by omega)) (by rfl) tk0 (ACons (DFld 6 T.cls_ClassTable T.na_ClassTable_ranges (d_var 0)) (ACons (d_var 2) (ACons d_int ANil)))))))))
theorem sc_ClassTable_present : FnScope ["self"] ["self"] (defScope s_ClassTable_present) := ⟨rfl, rfl, rfl, by decide +kernel, rfl, by decide +kernel, by decide +kernel⟩
theorem body_ClassTable_present (T : Txt K mg cl) : Body P w K cl mg base "ClassTable.present" s_ClassTable_present ["self"] 1 (m_ClassTable_present) := fun f cdv A outer s H E M Hh Sh hr =>
  have tk := L2N.takes_of (X := cxOf (L2N.CX P w) P w K mg base ["self"] "ClassTable.present" (defScope s_ClassTable_present) f cdv A outer s H E) (E₁ := _) rfl rfl rfl rfl
  (SsOne (SRet (DF.c (FSortD (by rfl) (by rfl) T.b_sorted (DFld 6 T.cls_ClassTable T.na_ClassTable_samples (d_var 0))))))
theorem sc_ClassTable_sample : FnScope ["self", "number"] ["self", "number"] (defScope s_ClassTable_sample) := ⟨rfl, rfl, rfl, by decide +kernel, rfl, by decide +kernel, by decide +kernel⟩
theorem body_ClassTable_sample (T : Txt K mg cl) : Body P w K cl mg base "ClassTable.sample" s_ClassTable_sample ["self", "number"] 1 (m_ClassTable_sample) := fun f cdv A outer s H E M Hh Sh hr =>
  have tk := L2N.takes_of (X := cxOf (L2N.CX P w) P w K mg base ["self", "number"] "ClassTable.sample" (defScope s_ClassTable_sample) f cdv A outer s H E) (E₁ := _) rfl rfl rfl rfl
  (SsCons (SIf (DW.t (WOr (TCmp o_lt (DE.b (d_var 1)) (DE.b d_int) (nomark _)) (WOr1 (TCmp o_ge (DE.b (d_var 1)) (DE.b (DFld 6 T.cls_ClassTable T.na_ClassTable_count (d_var 0))) (nomark _)))))
   (SsOne (SRaiseK (by rfl) tk T.x_OutOfRange (by rfl)))
   SsNil)
  (SsCons (SIf (TDNotIn (hu_of hr) (d_var 1) (DFld 6 T.cls_ClassTable T.na_ClassTable_samples (d_var 0)))
   (SsOne (SRaiseK (by rfl) tk T.x_NotThere (by rfl)))
   SsNil)
  (SsOne (SRet (DDGet (hu_of hr) (DFld 6 T.cls_ClassTable T.na_ClassTable_samples (d_var 0)) (d_var 1))))))
theorem sc__law_draws : FnScope ["script", "draws", "cell", "number", "first", "k", "seed"] ["script"] (defScope s__law_draws) := ⟨rfl, rfl, rfl, by decide +kernel, rfl, by decide +kernel, by decide +kernel⟩
theorem body__law_draws (T : Txt K mg cl) : Body P w K cl mg base "_law_draws" s__law_draws ["script", "draws", "cell", "number", "first", "k", "seed"] 1 (m__law_draws) := fun f cdv A outer s H E M Hh Sh hr =>
  have tk := L2N.takes_of (X := cxOf (L2N.CX P w) P w K mg base ["script", "draws", "cell", "number", "first", "k", "seed"] "_law_draws" (defScope s__law_draws) f cdv A outer s H E) (E₁ := _) rfl rfl rfl rfl
  (SsCons (SSetO 1 (FLst ANil) sc__law_draws.nd)
  (SsCons (SFor (passes_of rfl) (by rfl) (IList (d_var 0)) (GNm 2 sc__law_draws.nd)
   (SsCons (SSet 3 (DCallB c_abs (by rfl) T.b_abs (by rfl) (BCons (DE.b (d_var 2)) BNil)) sc__law_draws.nd)
   (SsCons (SIf (TCmp o_lt (DE.b (d_var 3)) (DE.b (DOp o_pow (DE.b d_int) (DE.b d_int))) (nomark _))
    (SsCons (SSet 4 (DOp o_mod (DE.b (DCallTy c_int (by rfl) T.b_int (by rfl) (BCons (DE.b (DOp o_addI (DE.b (DOp o_mulI (DE.b (d_var 3)) (DE.b d_int))) (DE.b d_int))) BNil))) (DE.b d_int)) sc__law_draws.nd)
    (SsCons (SApp 1 (DOp o_mod (DE.b (DCallTy c_int (by rfl) T.b_int (by rfl) (BCons (DE.b (DOp o_addI (DE.b (DOp o_mulI (DE.b (d_var 4)) (DE.b d_int))) (DE.b (d_var 3)))) BNil))) (DE.b d_int)))
    (SsCons (SApp 1 (DOp o_mod (DE.b (DCallTy c_int (by rfl) T.b_int (by rfl) (BCons (DE.b (DOp o_addI (DE.b (d_var 4)) (DE.b (DOp o_fdiv (DE.b (d_var 3)) (DE.b d_int))))) BNil))) (DE.b d_int)))
    (SsOne (SSet 3 d_int sc__law_draws.nd)))))
    SsNil)
   (SsOne (SFor (passes_of rfl) (by rfl) (IRng1 (by rfl) T.b_range (ACons d_int ANil)) (GNm 5 sc__law_draws.nd)
    (SsOne (SIf (TCmp o_gt (DE.b (d_var 3)) (DE.b d_int) (nomark _))
     (SsCons (SApp 1 (DOp o_mod (DE.b (DCallTy c_int (by rfl) T.b_int (by rfl) (BCons (DE.b (d_var 3)) BNil))) (DE.b d_int)))
     (SsOne (SSet 3 (DOp o_fdiv (DE.b (d_var 3)) (DE.b d_int)) sc__law_draws.nd)))
     SsNil)))))))
  (SsCons (SSet 6 d_int sc__law_draws.nd)
  (SsCons (SIf (TCmp o_gt (DE.b (DCallB c_len (by rfl) T.b_len (by rfl) (BCons (DE.b (d_var 0)) BNil))) (DE.b d_int) (nomark _))
   (SsOne (SSet 6 (DOp o_addI (DE.b d_int) (DE.b (DCallB c_abs (by rfl) T.b_abs (by rfl) (BCons (DE.b (DIx o_ix (DE.b (d_var 0)) (DE.b d_int))) BNil)))) sc__law_draws.nd))
   SsNil)
  (SsCons (SFor (passes_of rfl) (by rfl) (IRng1 (by rfl) T.b_range (ACons d_int ANil)) (GNm 5 sc__law_draws.nd)
   (SsCons (SSet 6 (DOp o_mod (DE.b (DCallTy c_int (by rfl) T.b_int (by rfl) (BCons (DE.b (DOp o_addI (DE.b (DOp o_mulI (DE.b (d_var 6)) (DE.b d_int))) (DE.b d_int))) BNil))) (DE.b d_int)) sc__law_draws.nd)
   (SsOne (SApp 1 (DOp o_fdiv (DE.b (d_var 6)) (DE.b d_int))))))
  (SsOne (SRetG (FRevL (by rfl) (by rfl) T.b_list (by rfl) T.b_reversed (d_own 1)))))))))
theorem sc__law_take : FnScope ["draws", "bound"] ["draws", "bound"] (defScope s__law_take) := ⟨rfl, rfl, rfl, by decide +kernel, rfl, by decide +kernel, by decide +kernel⟩
theorem body__law_take (T : Txt K mg cl) : Body P w K cl mg base "_law_take" s__law_take ["draws", "bound"] 1 (m__law_take) := fun f cdv A outer s H E M Hh Sh hr =>
  have tk := L2N.takes_of (X := cxOf (L2N.CX P w) P w K mg base ["draws", "bound"] "_law_take" (defScope s__law_take) f cdv A outer s H E) (E₁ := _) rfl rfl rfl rfl
  (SsCons (SIf (TCmp (o_eq (hu64 hr)) (DE.b (DCallB c_len (by rfl) T.b_len (by rfl) (BCons (DE.b (d_var 0)) BNil))) (DE.b d_int) (nomark _))
   (SsOne (SRet d_int))
   SsNil)
  (SsOne (SRet (DOp o_mod (DE.b (DCallTy c_int (by rfl) T.b_int (by rfl) (BCons (DE.b (DPopO (d_var 0))) BNil))) (DE.b (d_var 1))))))
theorem sc__law_alike : FnScope ["found", "due", "k"] ["found", "due"] (defScope s__law_alike) := ⟨rfl, rfl, rfl, by decide +kernel, rfl, by decide +kernel, by decide +kernel⟩
theorem body__law_alike (n : Nat) (T : Txt K mg cl) (ok__law_alike : CK P w K mg base cl (n + 1) "_law_alike" (sp__law_alike n)) : Body P w K cl mg base "_law_alike" s__law_alike ["found", "due", "k"] (n + 1) (m__law_alike n) := fun f cdv A outer s H E M Hh Sh hr =>
  have tk := L2N.takes_of (X := cxOf (L2N.CX P w) P w K mg base ["found", "due", "k"] "_law_alike" (defScope s__law_alike) f cdv A outer s H E) (E₁ := _) rfl rfl rfl rfl
  (SsCons (SIf (DW.t (WOr (TTru (DE.b (DIsT (Ts := "list") (by rfl) T.b_isinstance (by rfl) T.b_list (by rfl) (by decide) (DE.b (d_var 1))))) (WOr1 (TTru (DE.b (DIsT (Ts := "tuple") (by rfl) T.b_isinstance (by rfl) T.b_tuple (by rfl) (by decide) (DE.b (d_var 1))))))))
   (SsCons (SIf (DW.t (WOr (TCmp (o_ne (hu64 hr)) (DE.b (DIsT (Ts := "list") (by rfl) T.b_isinstance (by rfl) T.b_list (by rfl) (by decide) (DE.b (d_var 0)))) (DE.b (DIsT (Ts := "list") (by rfl) T.b_isinstance (by rfl) T.b_list (by rfl) (by decide) (DE.b (d_var 1)))) (nomark _)) (WOr1 (TCmp (o_ne (hu64 hr)) (DE.b (DIsT (Ts := "tuple") (by rfl) T.b_isinstance (by rfl) T.b_tuple (by rfl) (by decide) (DE.b (d_var 0)))) (DE.b (DIsT (Ts := "tuple") (by rfl) T.b_isinstance (by rfl) T.b_tuple (by rfl) (by decide) (DE.b (d_var 1)))) (nomark _)))))
    (SsOne (SRet d_bl))
    SsNil)
   (SsOne (SRet (DAnd (DCmp (o_eq (hu64 hr)) (DE.b (DCallB c_len (by rfl) T.b_len (by rfl) (BCons (DE.b (d_var 0)) BNil))) (DE.b (DCallB c_len (by rfl) T.b_len (by rfl) (BCons (DE.b (d_var 1)) BNil))) (nomark _)) (DOne (DCmp (o_eq (hu64 hr)) (DE.b (DComp (own := [("k", 2)]) (by rfl) sc__law_alike.nd (IRng1 (by rfl) T.b_range (ACons (DCallB c_len (by rfl) T.b_len (by rfl) (BCons (DE.b (d_var 1)) BNil)) ANil)) (blkOk_by (own := [("k", 2)]) (N := ["found", "due", "k"]) (sc := defScope s__law_alike) (by decide +kernel)) (by decide) (fun _ _ _ _ _ => (GNm 2 sc__law_alike.nd)) (fun _ _ _ _ _ => (TsOne (TNot (TTru (DE.b (ECall ok__law_alike (hr.mono (by omega)) (by rfl) tk0 (ACons (DIx o_ix (DE.b (d_var 0)) (DE.b (d_var 2))) (ACons (DIx o_ix (DE.b (d_var 1)) (DE.b (d_var 2))) ANil)))))))) (fun _ _ _ _ _ => (d_var 2)))) (DE.b (DLst ANil)) (nomark _)))))))
   SsNil)
  (SsCons (SIf (TCmp o_is (DE.b (d_var 1)) (DE.b d_non) (nomark _))
   (SsOne (SRet (DCmp o_is (DE.b (d_var 0)) (DE.b d_non) (nomark _))))
   SsNil)
  (SsCons (SIf (DW.t (WOr (TTru (DE.b (DIsT (Ts := "bool") (by rfl) T.b_isinstance (by rfl) T.b_bool (by rfl) (by decide) (DE.b (d_var 1))))) (WOr1 (TTru (DE.b (DIsT (Ts := "bool") (by rfl) T.b_isinstance (by rfl) T.b_bool (by rfl) (by decide) (DE.b (d_var 0))))))))
   (SsOne (SRet (DAnd (DIsT (Ts := "bool") (by rfl) T.b_isinstance (by rfl) T.b_bool (by rfl) (by decide) (DE.b (d_var 0))) (DAnd (DIsT (Ts := "bool") (by rfl) T.b_isinstance (by rfl) T.b_bool (by rfl) (by decide) (DE.b (d_var 1))) (DOne (DCmp (o_eq (hu64 hr)) (DE.b (d_var 0)) (DE.b (d_var 1)) (nomark _)))))))
   SsNil)
  (SsCons (SIf (TTru (DE.b (DIsT (Ts := "int") (by rfl) T.b_isinstance (by rfl) T.b_int (by rfl) (by decide) (DE.b (d_var 1)))))
   (SsOne (SRet (DAnd (DIsT (Ts := "int") (by rfl) T.b_isinstance (by rfl) T.b_int (by rfl) (by decide) (DE.b (d_var 0))) (DOne (DCmp (o_eq (hu64 hr)) (DE.b (d_var 0)) (DE.b (d_var 1)) (nomark _))))))
   SsNil)
  (SsOne (SRet (DAnd (DIsT (Ts := "str") (by rfl) T.b_isinstance (by rfl) T.b_str (by rfl) (by decide) (DE.b (d_var 0))) (DOne (DCmp (o_eq (hu64 hr)) (DE.b (d_var 0)) (DE.b (d_var 1)) (nomark _))))))))))
theorem sc__law_ranges : FnScope ["draws", "count", "many", "found", "first", "turn", "last", "number"] ["draws", "count", "many"] (defScope s__law_ranges) := ⟨rfl, rfl, rfl, by decide +kernel, rfl, by decide +kernel, by decide +kernel⟩
theorem body__law_ranges (T : Txt K mg cl) (ok__law_take : CK P w K mg base cl 2 "_law_take" spTake) : Body P w K cl mg base "_law_ranges" s__law_ranges ["draws", "count", "many", "found", "first", "turn", "last", "number"] 3 (m__law_ranges) := fun f cdv A outer s H E M Hh Sh hr =>
  have tk := L2N.takes_of (X := cxOf (L2N.CX P w) P w K mg base ["draws", "count", "many", "found", "first", "turn", "last", "number"] "_law_ranges" (defScope s__law_ranges) f cdv A outer s H E) (E₁ := _) rfl rfl rfl rfl
  (SsCons (SPar2 3 4 (by rfl) (KOwn (FLst ANil) (KVal (ECall ok__law_take (hr.mono (by omega)) (by rfl) tk (ACons (d_var 0) (ACons d_int ANil))) KNil)) sc__law_ranges.nd)
  (SsCons (SFor (passes_of rfl) (by rfl) (IRng1 (by rfl) T.b_range (ACons (d_var 2) ANil)) (GNm 5 sc__law_ranges.nd)
   (SsCons (SSet 6 (DOp o_addI (DE.b (d_var 4)) (DE.b (ECall ok__law_take (hr.mono (by omega)) (by rfl) tk (ACons (d_var 0) (ACons (DIx o_ix (DE.b (DLst (ACons d_int (ACons d_int (ACons d_int (ACons d_int ANil)))))) (DE.b (ECall ok__law_take (hr.mono (by omega)) (by rfl) tk (ACons (d_var 0) (ACons d_int ANil))))) ANil))))) sc__law_ranges.nd)
   (SsCons (SIf (TCmp o_lt (DE.b (d_var 6)) (DE.b d_int) (nomark _))
    (SsOne (SApp 3 (DTup (ACons (d_var 4) (ACons (d_var 6) (ACons (ECall ok__law_take (hr.mono (by omega)) (by rfl) tk (ACons (d_var 0) (ACons (d_var 1) ANil))) ANil))))))
    SsNil)
   (SsCons (SSet 4 (DOp o_addI (DE.b (DOp o_addI (DE.b (d_var 6)) (DE.b d_int))) (DE.b (ECall ok__law_take (hr.mono (by omega)) (by rfl) tk (ACons (d_var 0) (ACons (DIx o_ix (DE.b (DLst (ACons d_int (ACons d_int (ACons d_int (ACons d_int ANil)))))) (DE.b (ECall ok__law_take (hr.mono (by omega)) (by rfl) tk (ACons (d_var 0) (ACons d_int ANil))))) ANil))))) sc__law_ranges.nd)
   (SsOne (SIf (TChain o_le o_le (DE.b d_int) (DE.b (d_var 4)) (DE.b d_int))
    (SsOne (SSet 4 d_int sc__law_ranges.nd))
    SsNil))))))
  (SsFrz 3 (SsOne (SRet (DComp (own := [("first", 4), ("last", 6), ("number", 7)]) (by rfl) sc__law_ranges.nd (IList (d_var 3)) (blkOk_by (own := [("first", 4), ("last", 6), ("number", 7)]) (N := ["draws", "count", "many", "found", "first", "turn", "last", "number"]) (sc := defScope s__law_ranges) (by decide +kernel)) (by decide) (fun _ _ _ _ _ => (GTp (by rfl) (GC1 (GNm 4 sc__law_ranges.nd) (GC1 (GNm 6 sc__law_ranges.nd) (GC1 (GNm 7 sc__law_ranges.nd) GN0))) (lenNm (lenNm (lenNm len0))))) (fun _ _ _ _ _ => TsNil) (fun _ _ _ _ _ => (DTup (ACons (d_var 4) (ACons (DIf (TCmp o_lt (DE.b (d_var 4)) (DE.b d_int) (nomark _)) (DCallB (c_min2 (by rfl)) (by rfl) T.b_min (by rfl) (BCons (DE.b (d_var 6)) (BCons (DE.b d_int) BNil))) (d_var 6)) (ACons (d_var 7) ANil)))))))))))
theorem sc__law_class : FnScope ["ranges", "sign", "first", "last", "number"] ["ranges", "sign"] (defScope s__law_class) := ⟨rfl, rfl, rfl, by decide +kernel, rfl, by decide +kernel, by decide +kernel⟩
theorem body__law_class (T : Txt K mg cl) : Body P w K cl mg base "_law_class" s__law_class ["ranges", "sign", "first", "last", "number"] 1 (m__law_class) := fun f cdv A outer s H E M Hh Sh hr =>
  have tk := L2N.takes_of (X := cxOf (L2N.CX P w) P w K mg base ["ranges", "sign", "first", "last", "number"] "_law_class" (defScope s__law_class) f cdv A outer s H E) (E₁ := _) rfl rfl rfl rfl
  (SsCons (SFor (passes_of rfl) (by rfl) (IList (d_var 0)) (GTp (by rfl) (GC1 (GNm 2 sc__law_class.nd) (GC1 (GNm 3 sc__law_class.nd) (GC1 (GNm 4 sc__law_class.nd) GN0))) (lenNm (lenNm (lenNm len0))))
   (SsOne (SIf (TChain o_le o_le (DE.b (d_var 2)) (DE.b (d_var 1)) (DE.b (d_var 3)))
    (SsOne (SRet (d_var 4)))
    SsNil)))
  (SsOne (SRet d_int)))
theorem sc__law_least : FnScope ["ranges", "number", "found", "first", "last", "kind", "sign"] ["ranges", "number"] (defScope s__law_least) := ⟨rfl, rfl, rfl, by decide +kernel, rfl, by decide +kernel, by decide +kernel⟩
theorem body__law_least (T : Txt K mg cl) : Body P w K cl mg base "_law_least" s__law_least ["ranges", "number", "found", "first", "last", "kind", "sign"] 1 (m__law_least) := fun f cdv A outer s H E M Hh Sh hr =>
  have tk := L2N.takes_of (X := cxOf (L2N.CX P w) P w K mg base ["ranges", "number", "found", "first", "last", "kind", "sign"] "_law_least" (defScope s__law_least) f cdv A outer s H E) (E₁ := _) rfl rfl rfl rfl
  (SsCons (SComp (own := [("first", 3), ("last", 4), ("kind", 5)]) 2 (by rfl) sc__law_least.nd (IList (d_var 0)) (blkOk_by (own := [("first", 3), ("last", 4), ("kind", 5)]) (N := ["ranges", "number", "found", "first", "last", "kind", "sign"]) (sc := defScope s__law_least) (by decide +kernel)) (by decide) (fun _ _ _ _ _ => (GTp (by rfl) (GC1 (GNm 3 sc__law_least.nd) (GC1 (GNm 4 sc__law_least.nd) (GC1 (GNm 5 sc__law_least.nd) GN0))) (lenNm (lenNm (lenNm len0))))) (fun _ _ _ _ _ => (TsOne (DW.t (WAnd (TCmp (o_eq (hu64 hr)) (DE.b (d_var 5)) (DE.b (d_var 1)) (nomark _)) (WAnd1 (TNot (DW.t (WAnd (TCmp o_le (DE.b d_int) (DE.b (d_var 3)) (nomark _)) (WAnd1 (TCmp o_le (DE.b (d_var 4)) (DE.b d_int) (nomark _))))))))))) (fun _ _ _ _ _ => (DIf (TChain o_le o_le (DE.b d_int) (DE.b (d_var 3)) (DE.b d_int)) (DCallB (c_max2 (by rfl)) (by rfl) T.b_max (by rfl) (BCons (DE.b (d_var 3)) (BCons (DE.b d_int) BNil))) (d_var 3))))
  (SsCons (SIf (TCmp (o_eq (hu64 hr)) (DE.b (d_var 1)) (DE.b d_int) (nomark _))
   (SsCons (SSet 6 d_int sc__law_least.nd)
   (SsCons (SFor (passes_of rfl) (by rfl) (IList (d_var 0)) (GTp (by rfl) (GC1 (GNm 3 sc__law_least.nd) (GC1 (GNm 4 sc__law_least.nd) (GC1 (GNm 5 sc__law_least.nd) GN0))) (lenNm (lenNm (lenNm len0))))
    (SsOne (SIf (DW.t (WAnd (TChain o_le o_le (DE.b (d_var 3)) (DE.b (d_var 6)) (DE.b (d_var 4))) (WAnd1 (TCmp o_le (DE.b (d_var 6)) (DE.b d_int) (nomark _)))))
     (SsCons (SSet 6 (DOp o_addI (DE.b (d_var 4)) (DE.b d_int)) sc__law_least.nd)
     (SsOne (SIf (TChain o_le o_le (DE.b d_int) (DE.b (d_var 6)) (DE.b d_int))
      (SsOne (SSet 6 d_int sc__law_least.nd))
      SsNil)))
     SsNil)))
   (SsCons (SFor (passes_of rfl) (by rfl) (IList (d_var 0)) (GTp (by rfl) (GC1 (GNm 3 sc__law_least.nd) (GC1 (GNm 4 sc__law_least.nd) (GC1 (GNm 5 sc__law_least.nd) GN0))) (lenNm (lenNm (lenNm len0))))
    (SsOne (SIf (TChain o_le o_le (DE.b (d_var 3)) (DE.b (d_var 6)) (DE.b (d_var 4)))
     (SsOne (SSet 6 (DOp o_addI (DE.b (d_var 4)) (DE.b d_int)) sc__law_least.nd))
     SsNil)))
   (SsOne (SSet 2 (DOp o_catL (DE.b (d_var 2)) (DE.b (DIf (TCmp o_le (DE.b (d_var 6)) (DE.b d_int) (nomark _)) (DLst (ACons (d_var 6) ANil)) (DLst ANil)))) sc__law_least.nd)))))
   SsNil)
  (SsOne (SRet (DIf (TCmp (o_ne (hu64 hr)) (DE.b (d_var 2)) (DE.b (DLst ANil)) (nomark _)) (DCallB (c_min (by rfl)) (by rfl) T.b_min (by rfl) (BCons (DE.b (d_var 2)) BNil)) d_non)))))
theorem sc__law_told : FnScope ["which", "one", "other", "table", "e"] ["which", "one", "other"] (defScope s__law_told) := ⟨rfl, rfl, rfl, by decide +kernel, rfl, by decide +kernel, by decide +kernel⟩
theorem body__law_told (T : Txt K mg cl) (ok_ClassTable_class_of : MK1 P w K mg base cl 5 6 "class_of" sp_ClassTable_class_of) (ok_ClassTable_init : IK P w K mg base cl 5 6 "ClassTable" sp_ClassTable_init) (ok_ClassTable_row : MK1 P w K mg base cl 5 6 "row" sp_ClassTable_row) (ok_ClassTable_sample : MK1 P w K mg base cl 2 6 "sample" sp_ClassTable_sample) (ok__law_word : WordK P w K mg base cl 4 "_law_word" "ScriptError" wd__law_word) : Body P w K cl mg base "_law_told" s__law_told ["which", "one", "other", "table", "e"] 7 (m__law_told) := fun f cdv A outer s H E M Hh Sh hr =>
  have tk := L2N.takes_of (X := cxOf (L2N.CX P w) P w K mg base ["which", "one", "other", "table", "e"] "_law_told" (defScope s__law_told) f cdv A outer s H E) (E₁ := _) rfl rfl rfl rfl
  (SsOne (STryW_ (i := 4) (by rfl) (by rfl) sc__law_told.nd (by rfl) (by rfl) tk ok__law_word (hr.mono (by omega)) (by rfl) (by rfl) (fun W pn xe tk pw =>
   (SsCons (SIf (TCmp (o_eq (hu64 hr)) (DE.b (d_var 0)) (DE.b d_int) (nomark _))
    (SsCons (SSet 3 (EMake ok_ClassTable_init (hr.mono (by omega)) (by rfl) tk (ACons (d_var 1) (ACons (d_var 2) ANil))) sc__law_told.nd)
    (SsOne (SRet (DTup (ACons (DFld 6 T.cls_ClassTable T.na_ClassTable_count (d_var 3)) (ACons (DFld 6 T.cls_ClassTable T.na_ClassTable_ranges (d_var 3)) ANil))))))
    SsNil)
   (SsOne (SRet (DIf (TCmp (o_eq (hu64 hr)) (DE.b (d_var 0)) (DE.b d_int) (nomark _)) (EMeth T.cls_ClassTable ok_ClassTable_sample (hr.mono (by omega)) tk (d_var 1) (ACons (d_var 2) ANil)) (DIf (TCmp (o_eq (hu64 hr)) (DE.b (d_var 0)) (DE.b d_int) (nomark _)) (EMeth T.cls_ClassTable ok_ClassTable_class_of (hr.mono (by omega)) tk (d_var 1) (ACons (d_var 2) ANil)) (EMeth T.cls_ClassTable ok_ClassTable_row (hr.mono (by omega)) tk (d_var 1) (ACons (d_var 2) ANil))))))))))
theorem sc_law : FnScope ["script", "draws", "count", "ranges", "way", "cut", "own", "table", "edges", "first", "last", "number", "signs", "sign", "some", "k", "due", "least", "present", "told", "one", "other", "at", "bad", "value"] ["script"] (defScope s_law) := ⟨rfl, rfl, rfl, by decide +kernel, rfl, by decide +kernel, by decide +kernel⟩
theorem body_law (T : Txt K mg cl) (ok_ClassTable_class_of : MK1 P w K mg base cl 5 6 "class_of" sp_ClassTable_class_of) (ok_ClassTable_init : IK P w K mg base cl 5 6 "ClassTable" sp_ClassTable_init) (ok_ClassTable_present : MK1 P w K mg base cl 2 6 "present" sp_ClassTable_present) (ok_ClassTable_row : MK1 P w K mg base cl 5 6 "row" sp_ClassTable_row) (ok__law_alike : CK P w K mg base cl 6 "_law_alike" (sp__law_alike 5)) (ok__law_class : CK P w K mg base cl 2 "_law_class" sp__law_class) (ok__law_draws : CK P w K mg base cl 2 "_law_draws" sp__law_draws) (ok__law_least : CK P w K mg base cl 2 "_law_least" sp__law_least) (ok__law_ranges : CK P w K mg base cl 4 "_law_ranges" sp__law_ranges) (ok__law_take : CK P w K mg base cl 2 "_law_take" spTake) (ok__law_told : CK P w K mg base cl 8 "_law_told" sp__law_told) : Body P w K cl mg base "law" s_law ["script", "draws", "count", "ranges", "way", "cut", "own", "table", "edges", "first", "last", "number", "signs", "sign", "some", "k", "due", "least", "present", "told", "one", "other", "at", "bad", "value"] 19 (m_law) := fun f cdv A outer s H E M Hh Sh hr =>
  have tk := L2N.takes_of (X := cxOf (L2N.CX P w) P w K mg base ["script", "draws", "count", "ranges", "way", "cut", "own", "table", "edges", "first", "last", "number", "signs", "sign", "some", "k", "due", "least", "present", "told", "one", "other", "at", "bad", "value"] "law" (defScope s_law) f cdv A outer s H E) (E₁ := _) rfl rfl rfl rfl
  (SsCons (SSet 1 (ECall ok__law_draws (hr.mono (by omega)) (by rfl) tk (ACons (d_var 0) ANil)) sc_law.nd)
  (SsCons (SSet 2 (DIx o_ix (DE.b (DLst (ACons d_int (ACons d_int (ACons d_int (ACons d_int (ACons d_int ANil))))))) (DE.b (ECall ok__law_take (hr.mono (by omega)) (by rfl) tk (ACons (d_var 1) (ACons d_int ANil))))) sc_law.nd)
  (SsCons (SSet 3 (ECall ok__law_ranges (hr.mono (by omega)) (by rfl) tk (ACons (d_var 1) (ACons (d_var 2) (ACons (DIx o_ix (DE.b (DLst (ACons d_int (ACons d_int (ACons d_int (ACons d_int (ACons d_int (ACons d_int ANil)))))))) (DE.b (ECall ok__law_take (hr.mono (by omega)) (by rfl) tk (ACons (d_var 1) (ACons d_int ANil))))) ANil)))) sc_law.nd)
  (SsCons (SSet 4 (ECall ok__law_take (hr.mono (by omega)) (by rfl) tk (ACons (d_var 1) (ACons d_int ANil))) sc_law.nd)
  (SsCons (SIf (DW.t (WAnd (TCmp (o_eq (hu64 hr)) (DE.b (d_var 4)) (DE.b d_int) (nomark _)) (WAnd1 (TCmp (o_eq (hu64 hr)) (DE.b (d_var 3)) (DE.b (DLst ANil)) (nomark _)))))
   (SsCons (SSet 5 (DOp o_addI (DE.b d_int) (DE.b (ECall ok__law_take (hr.mono (by omega)) (by rfl) tk (ACons (d_var 1) (ACons d_int ANil))))) sc_law.nd)
   (SsOne (SSet 3 (DLst (ACons (DTup (ACons d_int (ACons (d_var 5) (ACons (DOp o_subI (DE.b (d_var 2)) (DE.b d_int)) ANil)))) (ACons (DTup (ACons (DOp o_addI (DE.b (d_var 5)) (DE.b d_int)) (ACons d_int (ACons (ECall ok__law_take (hr.mono (by omega)) (by rfl) tk (ACons (d_var 1) (ACons (d_var 2) ANil))) ANil)))) (ACons (DTup (ACons d_int (ACons d_int (ACons (DOp o_fdiv (DE.b (d_var 2)) (DE.b d_int)) ANil)))) ANil)))) sc_law.nd)))
   SsNil)
  (SsCons (SSet 6 (DF.c (FCallTy c_list (by rfl) T.b_list (by rfl) (BCons (DE.b (d_var 3)) BNil))) sc_law.nd)
  (SsCons (SSet 7 (EMake ok_ClassTable_init (hr.mono (by omega)) (by rfl) tk (ACons (d_var 2) (ACons (d_var 6) ANil))) sc_law.nd)
  (SsCons (SAppO (d_var 6) d_non)
  (SsCons (SIf (TNot (TTru (DE.b (ECall ok__law_alike (hr.mono (by omega)) (by rfl) tk (ACons (DLst (ACons (DFld 6 T.cls_ClassTable T.na_ClassTable_count (d_var 7)) (ACons (DFld 6 T.cls_ClassTable T.na_ClassTable_ranges (d_var 7)) ANil))) (ACons (DLst (ACons (d_var 2) (ACons (DCallTy c_tuple (by rfl) T.b_tuple (by rfl) (BCons (DE.b (d_var 3)) BNil)) ANil))) ANil))))))
   (SsOne (SRet d_bl))
   SsNil)
  (SsCons (SSet 8 (DOp o_catL (DE.b (DOp o_catL (DE.b (DOp o_catL (DE.b (DLst (ACons d_int (ACons d_int (ACons d_int (ACons d_int ANil)))))) (DE.b (DComp (own := [("first", 9), ("last", 10), ("number", 11)]) (by rfl) sc_law.nd (IList (d_var 3)) (blkOk_by (own := [("first", 9), ("last", 10), ("number", 11)]) (N := ["script", "draws", "count", "ranges", "way", "cut", "own", "table", "edges", "first", "last", "number", "signs", "sign", "some", "k", "due", "least", "present", "told", "one", "other", "at", "bad", "value"]) (sc := defScope s_law) (by decide +kernel)) (by decide) (fun _ _ _ _ _ => (GTp (by rfl) (GC1 (GNm 9 sc_law.nd) (GC1 (GNm 10 sc_law.nd) (GC1 (GNm 11 sc_law.nd) GN0))) (lenNm (lenNm (lenNm len0))))) (fun _ _ _ _ _ => TsNil) (fun _ _ _ _ _ => (d_var 9)))))) (DE.b (DComp (own := [("first", 9), ("last", 10), ("number", 11)]) (by rfl) sc_law.nd (IList (d_var 3)) (blkOk_by (own := [("first", 9), ("last", 10), ("number", 11)]) (N := ["script", "draws", "count", "ranges", "way", "cut", "own", "table", "edges", "first", "last", "number", "signs", "sign", "some", "k", "due", "least", "present", "told", "one", "other", "at", "bad", "value"]) (sc := defScope s_law) (by decide +kernel)) (by decide) (fun _ _ _ _ _ => (GTp (by rfl) (GC1 (GNm 9 sc_law.nd) (GC1 (GNm 10 sc_law.nd) (GC1 (GNm 11 sc_law.nd) GN0))) (lenNm (lenNm (lenNm len0))))) (fun _ _ _ _ _ => TsNil) (fun _ _ _ _ _ => (d_var 10)))))) (DE.b (DComp (own := [("first", 9), ("last", 10), ("number", 11)]) (by rfl) sc_law.nd (IList (d_var 3)) (blkOk_by (own := [("first", 9), ("last", 10), ("number", 11)]) (N := ["script", "draws", "count", "ranges", "way", "cut", "own", "table", "edges", "first", "last", "number", "signs", "sign", "some", "k", "due", "least", "present", "told", "one", "other", "at", "bad", "value"]) (sc := defScope s_law) (by decide +kernel)) (by decide) (fun _ _ _ _ _ => (GTp (by rfl) (GC1 (GNm 9 sc_law.nd) (GC1 (GNm 10 sc_law.nd) (GC1 (GNm 11 sc_law.nd) GN0))) (lenNm (lenNm (lenNm len0))))) (fun _ _ _ _ _ => TsNil) (fun _ _ _ _ _ => (DOp o_addI (DE.b (d_var 10)) (DE.b d_int)))))) sc_law.nd)
  (SsCons (SSet 12 (DComp (own := [("sign", 13)]) (by rfl) sc_law.nd (IList (d_var 8)) (blkOk_by (own := [("sign", 13)]) (N := ["script", "draws", "count", "ranges", "way", "cut", "own", "table", "edges", "first", "last", "number", "signs", "sign", "some", "k", "due", "least", "present", "told", "one", "other", "at", "bad", "value"]) (sc := defScope s_law) (by decide +kernel)) (by decide) (fun _ _ _ _ _ => (GNm 13 sc_law.nd)) (fun _ _ _ _ _ => (TsOne (DW.t (WAnd (TNot (TChain o_le o_le (DE.b d_int) (DE.b (d_var 13)) (DE.b d_int))) (WAnd1 (TCmp o_le (DE.b (d_var 13)) (DE.b d_int) (nomark _))))))) (fun _ _ _ _ _ => (d_var 13))) sc_law.nd)
  (SsCons (SSet 14 (DOp o_catL (DE.b (DComp (own := [("k", 15)]) (by rfl) sc_law.nd (IRng1 (by rfl) T.b_range (ACons d_int ANil)) (blkOk_by (own := [("k", 15)]) (N := ["script", "draws", "count", "ranges", "way", "cut", "own", "table", "edges", "first", "last", "number", "signs", "sign", "some", "k", "due", "least", "present", "told", "one", "other", "at", "bad", "value"]) (sc := defScope s_law) (by decide +kernel)) (by decide) (fun _ _ _ _ _ => (GNm 15 sc_law.nd)) (fun _ _ _ _ _ => TsNil) (fun _ _ _ _ _ => (DIx o_ix (DE.b (d_var 12)) (DE.b (ECall ok__law_take (hr.mono (by omega)) (by rfl) tk0 (ACons (d_var 1) (ACons (DCallB c_len (by rfl) T.b_len (by rfl) (BCons (DE.b (d_var 12)) BNil)) ANil)))))))) (DE.b (DComp (own := [("k", 15)]) (by rfl) sc_law.nd (IRng1 (by rfl) T.b_range (ACons d_int ANil)) (blkOk_by (own := [("k", 15)]) (N := ["script", "draws", "count", "ranges", "way", "cut", "own", "table", "edges", "first", "last", "number", "signs", "sign", "some", "k", "due", "least", "present", "told", "one", "other", "at", "bad", "value"]) (sc := defScope s_law) (by decide +kernel)) (by decide) (fun _ _ _ _ _ => (GNm 15 sc_law.nd)) (fun _ _ _ _ _ => TsNil) (fun _ _ _ _ _ => (ECall ok__law_take (hr.mono (by omega)) (by rfl) tk0 (ACons (d_var 1) (ACons d_int ANil))))))) sc_law.nd)
  (SsCons (SComp (own := [("sign", 13)]) 16 (by rfl) sc_law.nd (IList (d_var 14)) (blkOk_by (own := [("sign", 13)]) (N := ["script", "draws", "count", "ranges", "way", "cut", "own", "table", "edges", "first", "last", "number", "signs", "sign", "some", "k", "due", "least", "present", "told", "one", "other", "at", "bad", "value"]) (sc := defScope s_law) (by decide +kernel)) (by decide) (fun _ _ _ _ _ => (GNm 13 sc_law.nd)) (fun _ _ _ _ _ => TsNil) (fun _ _ _ _ _ => (ECall ok__law_class (hr.mono (by omega)) (by rfl) tk0 (ACons (d_var 3) (ACons (d_var 13) ANil)))))
  (SsCons (SIf (TNot (TTru (DE.b (ECall ok__law_alike (hr.mono (by omega)) (by rfl) tk (ACons (DLst (ACons (EMeth T.cls_ClassTable ok_ClassTable_row (hr.mono (by omega)) tk (d_var 7) (ACons (d_var 14) ANil)) (ACons (DComp (own := [("sign", 13)]) (by rfl) sc_law.nd (IList (d_var 14)) (blkOk_by (own := [("sign", 13)]) (N := ["script", "draws", "count", "ranges", "way", "cut", "own", "table", "edges", "first", "last", "number", "signs", "sign", "some", "k", "due", "least", "present", "told", "one", "other", "at", "bad", "value"]) (sc := defScope s_law) (by decide +kernel)) (by decide) (fun _ _ _ _ _ => (GNm 13 sc_law.nd)) (fun _ _ _ _ _ => TsNil) (fun _ _ _ _ _ => (EMeth T.cls_ClassTable ok_ClassTable_class_of (hr.mono (by omega)) tk0 (d_var 7) (ACons (d_var 13) ANil)))) ANil))) (ACons (DLst (ACons (d_var 16) (ACons (d_var 16) ANil))) ANil))))))
   (SsOne (SRet d_bl))
   SsNil)
  (SsCons (SSet 17 (DComp (own := [("number", 11)]) (by rfl) sc_law.nd (IRng1 (by rfl) T.b_range (ACons (d_var 2) ANil)) (blkOk_by (own := [("number", 11)]) (N := ["script", "draws", "count", "ranges", "way", "cut", "own", "table", "edges", "first", "last", "number", "signs", "sign", "some", "k", "due", "least", "present", "told", "one", "other", "at", "bad", "value"]) (sc := defScope s_law) (by decide +kernel)) (by decide) (fun _ _ _ _ _ => (GNm 11 sc_law.nd)) (fun _ _ _ _ _ => TsNil) (fun _ _ _ _ _ => (ECall ok__law_least (hr.mono (by omega)) (by rfl) tk0 (ACons (d_var 3) (ACons (d_var 11) ANil))))) sc_law.nd)
  (SsCons (SComp (own := [("number", 11)]) 18 (by rfl) sc_law.nd (IRng1 (by rfl) T.b_range (ACons (d_var 2) ANil)) (blkOk_by (own := [("number", 11)]) (N := ["script", "draws", "count", "ranges", "way", "cut", "own", "table", "edges", "first", "last", "number", "signs", "sign", "some", "k", "due", "least", "present", "told", "one", "other", "at", "bad", "value"]) (sc := defScope s_law) (by decide +kernel)) (by decide) (fun _ _ _ _ _ => (GNm 11 sc_law.nd)) (fun _ _ _ _ _ => (TsOne (TCmp o_isnot (DE.b (DIx o_ix (DE.b (d_var 17)) (DE.b (d_var 11)))) (DE.b d_non) (nomark _)))) (fun _ _ _ _ _ => (d_var 11)))
  (SsCons (SSet 19 (EMeth0 T.cls_ClassTable ok_ClassTable_present (hr.mono (by omega)) tk (d_var 7)) sc_law.nd)
  (SsCons (SIf (DW.t (WOr (TNot (TTru (DE.b (ECall ok__law_alike (hr.mono (by omega)) (by rfl) tk (ACons (d_var 19) (ACons (d_var 18) ANil)))))) (WOr1 (TNot (TTru (DE.b (ECall ok__law_alike (hr.mono (by omega)) (by rfl) tk (ACons (DComp (own := [("number", 11)]) (by rfl) sc_law.nd (IRng1 (by rfl) T.b_range (ACons (d_var 2) ANil)) (blkOk_by (own := [("number", 11)]) (N := ["script", "draws", "count", "ranges", "way", "cut", "own", "table", "edges", "first", "last", "number", "signs", "sign", "some", "k", "due", "least", "present", "told", "one", "other", "at", "bad", "value"]) (sc := defScope s_law) (by decide +kernel)) (by decide) (fun _ _ _ _ _ => (GNm 11 sc_law.nd)) (fun _ _ _ _ _ => TsNil) (fun _ _ _ _ _ => (ECall ok__law_told (hr.mono (by omega)) (by rfl) tk0 (ACons d_int (ACons (d_var 7) (ACons (d_var 11) ANil)))))) (ACons (DComp (own := [("one", 20)]) (by rfl) sc_law.nd (IList (d_var 17)) (blkOk_by (own := [("one", 20)]) (N := ["script", "draws", "count", "ranges", "way", "cut", "own", "table", "edges", "first", "last", "number", "signs", "sign", "some", "k", "due", "least", "present", "told", "one", "other", "at", "bad", "value"]) (sc := defScope s_law) (by decide +kernel)) (by decide) (fun _ _ _ _ _ => (GNm 20 sc_law.nd)) (fun _ _ _ _ _ => TsNil) (fun _ _ _ _ _ => (DIf (TCmp o_isnot (DE.b (d_var 20)) (DE.b d_non) (nomark _)) (d_var 20) d_str))) ANil)))))))))
   (SsOne (SRet d_bl))
   SsNil)
  (SsCons (SAppO (d_var 19) d_int)
  (SsCons (SIf (TNot (TTru (DE.b (ECall ok__law_alike (hr.mono (by omega)) (by rfl) tk (ACons (EMeth0 T.cls_ClassTable ok_ClassTable_present (hr.mono (by omega)) tk (d_var 7)) (ACons (d_var 18) ANil))))))
   (SsOne (SRet d_bl))
   SsNil)
  (SsCons (SIf (TCmp (o_ne (hu64 hr)) (DE.b (DOp o_catL (DE.b (DOp o_catL (DE.b (DComp (own := [("number", 11)]) (by rfl) sc_law.nd (IList (DLst (ACons (DNeg d_int) (ACons (d_var 2) ANil)))) (blkOk_by (own := [("number", 11)]) (N := ["script", "draws", "count", "ranges", "way", "cut", "own", "table", "edges", "first", "last", "number", "signs", "sign", "some", "k", "due", "least", "present", "told", "one", "other", "at", "bad", "value"]) (sc := defScope s_law) (by decide +kernel)) (by decide) (fun _ _ _ _ _ => (GNm 11 sc_law.nd)) (fun _ _ _ _ _ => TsNil) (fun _ _ _ _ _ => (ECall ok__law_told (hr.mono (by omega)) (by rfl) tk0 (ACons d_int (ACons (d_var 7) (ACons (d_var 11) ANil))))))) (DE.b (DComp (own := [("sign", 13)]) (by rfl) sc_law.nd (IList (DLst (ACons (DNeg d_int) (ACons d_int (ACons d_int (ACons d_int ANil)))))) (blkOk_by (own := [("sign", 13)]) (N := ["script", "draws", "count", "ranges", "way", "cut", "own", "table", "edges", "first", "last", "number", "signs", "sign", "some", "k", "due", "least", "present", "told", "one", "other", "at", "bad", "value"]) (sc := defScope s_law) (by decide +kernel)) (by decide) (fun _ _ _ _ _ => (GNm 13 sc_law.nd)) (fun _ _ _ _ _ => TsNil) (fun _ _ _ _ _ => (ECall ok__law_told (hr.mono (by omega)) (by rfl) tk0 (ACons d_int (ACons (d_var 7) (ACons (d_var 13) ANil))))))))) (DE.b (DLst (ACons (ECall ok__law_told (hr.mono (by omega)) (by rfl) tk (ACons d_int (ACons (d_var 7) (ACons (DLst (ACons d_int (ACons d_int ANil))) ANil)))) ANil))))) (DE.b (DOp o_rep (DE.b (DLst (ACons d_str ANil))) (DE.b d_int))) (nomark _))
   (SsOne (SRet d_bl))
   SsNil)
  (SsCons (SIf (TCmp (o_ne (hu64 hr)) (DE.b (DComp (own := [("one", 20), ("other", 21)]) (by rfl) sc_law.nd (IList (DLst (ACons (DTup (ACons d_int (ACons (DLst ANil) ANil))) (ACons (DTup (ACons d_int (ACons (DLst ANil) ANil))) (ACons (DTup (ACons (d_var 2) (ACons (DLst (ACons (DTup (ACons d_int (ACons d_int (ACons (d_var 2) ANil)))) ANil)) ANil))) (ACons (DTup (ACons (d_var 2) (ACons (DLst (ACons (DTup (ACons d_int (ACons d_int (ACons (DNeg d_int) ANil)))) ANil)) ANil))) ANil)))))) (blkOk_by (own := [("one", 20), ("other", 21)]) (N := ["script", "draws", "count", "ranges", "way", "cut", "own", "table", "edges", "first", "last", "number", "signs", "sign", "some", "k", "due", "least", "present", "told", "one", "other", "at", "bad", "value"]) (sc := defScope s_law) (by decide +kernel)) (by decide) (fun _ _ _ _ _ => (GTp (by rfl) (GC1 (GNm 20 sc_law.nd) (GC1 (GNm 21 sc_law.nd) GN0)) (lenNm (lenNm len0)))) (fun _ _ _ _ _ => TsNil) (fun _ _ _ _ _ => (ECall ok__law_told (hr.mono (by omega)) (by rfl) tk0 (ACons d_int (ACons (d_var 20) (ACons (d_var 21) ANil))))))) (DE.b (DOp o_rep (DE.b (DLst (ACons d_str ANil))) (DE.b d_int))) (nomark _))
   (SsOne (SRet d_bl))
   SsNil)
  (SsCons (SSet 22 (ECall ok__law_take (hr.mono (by omega)) (by rfl) tk (ACons (d_var 1) (ACons (DCallB (c_max2 (by rfl)) (by rfl) T.b_max (by rfl) (BCons (DE.b (DCallB c_len (by rfl) T.b_len (by rfl) (BCons (DE.b (d_var 3)) BNil))) (BCons (DE.b d_int) BNil))) ANil))) sc_law.nd)
  (SsCons (SSet 23 (DLst (ACons (DLst (ACons (DTup (ACons d_int (ACons d_int (ACons d_int ANil)))) ANil)) (ACons (DLst (ACons (DTup (ACons d_int (ACons d_int (ACons d_int ANil)))) (ACons (DTup (ACons d_int (ACons d_int (ACons d_int ANil)))) ANil))) (ACons (DLst (ACons (DTup (ACons d_int (ACons d_int (ACons d_int ANil)))) (ACons (DTup (ACons d_int (ACons d_int (ACons d_int ANil)))) ANil))) (ACons (DLst (ACons (DTup (ACons (DNeg d_int) (ACons d_int (ACons d_int ANil)))) ANil)) (ACons (DLst (ACons (DTup (ACons d_int (ACons d_int (ACons d_int ANil)))) ANil)) (ACons (DLst (ACons (DTup (ACons d_int (ACons d_int (ACons d_int ANil)))) ANil)) (ACons (DLst (ACons (DTup (ACons d_int (ACons d_int (ACons d_int ANil)))) ANil)) ANil)))))))) sc_law.nd)
  (SsCons (SIf (TCmp o_gt (DE.b (DCallB c_len (by rfl) T.b_len (by rfl) (BCons (DE.b (d_var 3)) BNil))) (DE.b d_int) (nomark _))
   (SsOne (SSet 23 (DOp o_catL (DE.b (d_var 23)) (DE.b (DLst (ACons (DF.d (FRevS (d_var 3))) (ACons (DOp o_catL (DE.b (DOp o_catL (DE.b (DSliceL (DE.b (d_var 3)) ONone (OSome (d_var 22)))) (DE.b (DSliceL (DE.b (d_var 3)) (OSome (d_var 22)) (OSome (DOp o_addI (DE.b (d_var 22)) (DE.b d_int))))))) (DE.b (DSliceL (DE.b (d_var 3)) (OSome (d_var 22)) ONone))) ANil))))) sc_law.nd))
   SsNil)
  (SsOne (SRet (DCmp (o_eq (hu64 hr)) (DE.b (DComp (own := [("value", 24)]) (by rfl) sc_law.nd (IList (d_var 23)) (blkOk_by (own := [("value", 24)]) (N := ["script", "draws", "count", "ranges", "way", "cut", "own", "table", "edges", "first", "last", "number", "signs", "sign", "some", "k", "due", "least", "present", "told", "one", "other", "at", "bad", "value"]) (sc := defScope s_law) (by decide +kernel)) (by decide) (fun _ _ _ _ _ => (GNm 24 sc_law.nd)) (fun _ _ _ _ _ => (TsOne (TCmp (o_ne (hu64 hr)) (DE.b (ECall ok__law_told (hr.mono (by omega)) (by rfl) tk0 (ACons d_int (ACons (d_var 2) (ACons (d_var 24) ANil))))) (DE.b d_str) (nomark _)))) (fun _ _ _ _ _ => (d_var 24)))) (DE.b (DLst ANil)) (nomark _)))))))))))))))))))))))))))))
end
end K01


set_option Elab.async false
set_option linter.all false
set_option maxRecDepth 100000
set_option maxHeartbeats 1000000
namespace K01
open PySem PySem.Spec PyProof.Rows L2 DL
/-! ### what each body does, on data -/
theorem data_is_sign : ∀ ds S Q R, sp_is_sign ds S Q R → ds.length = 1 ∧ m_is_sign (endsD Q R) (startE ["value"] ds) S := by
  rintro ds S Q R ⟨i, rfl, q⟩
  refine ⟨rfl, ?_⟩
  show m_is_sign (endsD Q R) [.val (.int i)] S
  have e1 : ∀ b, isSign i = b → Q (.bl b) S := fun b e => e ▸ q
  simp [m_is_sign, mSeq, mIfS, mNext, mOr, mAnd, mNot, mTru, mTst, mIsT, mVar, mOwn, mC, mRet, mOrV, mAndV, mNotV, mChain, mOp, T2, mSet, mSetO, mApp, mAppO, mDrop, mCall, mMeth, mMake, mFld, mSetF, mCB, mCF, mACons, mANil, mLst, mTup, mNeg, mIf, mRaise, mRetN, mFrz, mFrzF, mCell, mFro, endsD, insOf_ins, D.tru, D.ty, D.tyName, isT, mParK, mKVal, mKOwn, mKNil, setE, gNm, gTp, gC1, gN0, mIt, mItT, mRng1, mRng2, mFor, mPopO, int_i, abs_i, int2_ii, oLen, seqOf_lst, seqOf_tup, seqOf_fz, lenOf_lst, lenOf_tup, oIx, oII_ii, oIs, oIsNot, D.isN, mDIn, mDGet, mSetd, mNewD, mSortD, mSortSet, mRevL, mRetG, mSliceL, mNoP, mPart, oTupleOf, oListOf, eq_ii, ne_ii, eq_bb, ne_bb, eq_ss, ne_ss, eq_nil, ne_nil, take_ii]
  by_cases h1 : i < 0
  · exact .inl ⟨h1, .inl ⟨by omega, e1 _ (by simp [isSign]; omega)⟩⟩
  · refine .inr ⟨by omega, ?_⟩
    by_cases h2 : i < 55296
    · exact .inr ⟨h2, e1 _ (by simp [isSign]; omega)⟩
    · refine .inl ⟨by omega, ?_⟩
      by_cases h3 : i < 57344
      · exact .inl ⟨h3, e1 _ (by simp [isSign]; omega)⟩
      · refine .inr ⟨by omega, e1 _ ?_⟩
        simp only [isSign]
        congr 1
        exact propext ⟨fun h => by omega, fun h => by omega⟩
theorem loop_check_text {d : D} {S : Store} {Q : QE} {R : RE} {P : Store → Prop} (hP : P S) : ∀ (ns : List Int) (x : Sl), (if ns.all isSign = true then Q .non S else R 1 S) →
    wFor (gNm 1) m_check_text_L1 { nx := fun _ S => Q .non S, rt := Q, ex := fun c _ S => R c S } P (dI ns) [.val d, x] S
  | [], x, q => by simpa [wFor, hP] using q
  | n :: ns, x, q => by
    rw [dI, List.map_cons, wFor]
    generalize hW : wFor (gNm 1) m_check_text_L1 _ P _ = W
    simp [hP, m_check_text_L1, sp_is_sign, mSeq, mIfS, mNext, mOr, mAnd, mNot, mTru, mTst, mIsT, mVar, mOwn, mC, mRet, mOrV, mAndV, mNotV, mChain, mOp, T2, mSet, mSetO, mApp, mAppO, mDrop, mCall, mMeth, mMake, mFld, mSetF, mCB, mCF, mACons, mANil, mLst, mTup, mNeg, mIf, mRaise, mRetN, mFrz, mFrzF, mCell, mFro, endsD, insOf_ins, D.tru, D.ty, D.tyName, isT, mParK, mKVal, mKOwn, mKNil, setE, gNm, gTp, gC1, gN0, mIt, mItT, mRng1, mRng2, mFor, mPopO, int_i, abs_i, int2_ii, oLen, seqOf_lst, seqOf_tup, seqOf_fz, lenOf_lst, lenOf_tup, oIx, oII_ii, oIs, oIsNot, D.isN, mDIn, mDGet, mSetd, mNewD, mSortD, mSortSet, mRevL, mRetG, mSliceL, mNoP, mPart, oTupleOf, oListOf, eq_ii, ne_ii, eq_bb, ne_bb, eq_ss, ne_ss, eq_nil, ne_nil, take_ii]
    cases h : isSign n with
    | true =>
      simp [h] at q ⊢
      subst hW
      exact loop_check_text hP ns _ (by simpa using q)
    | false => simpa [h] using q
theorem data_check_text : ∀ ds S Q R, sp_check_text ds S Q R → ds.length = 1 ∧ m_check_text (endsD Q R) (startE ["text", "sign"] ds) S := by
  rintro ds S Q R ⟨d, ns, rfl, e, q⟩
  refine ⟨rfl, ?_⟩
  show m_check_text (endsD Q R) [.val d, .no] S
  simp [m_check_text, mSeq, mIfS, mNext, mOr, mAnd, mNot, mTru, mTst, mIsT, mVar, mOwn, mC, mRet, mOrV, mAndV, mNotV, mChain, mOp, T2, mSet, mSetO, mApp, mAppO, mDrop, mCall, mMeth, mMake, mFld, mSetF, mCB, mCF, mACons, mANil, mLst, mTup, mNeg, mIf, mRaise, mRetN, mFrz, mFrzF, mCell, mFro, endsD, insOf_ins, D.tru, D.ty, D.tyName, isT, mParK, mKVal, mKOwn, mKNil, setE, gNm, gTp, gC1, gN0, mIt, mItT, mRng1, mRng2, mFor, mPopO, int_i, abs_i, int2_ii, oLen, seqOf_lst, seqOf_tup, seqOf_fz, lenOf_lst, lenOf_tup, oIx, oII_ii, oIs, oIsNot, D.isN, mDIn, mDGet, mSetd, mNewD, mSortD, mSortSet, mRevL, mRetG, mSliceL, mNoP, mPart, oTupleOf, oListOf, eq_ii, ne_ii, eq_bb, ne_bb, eq_ss, ne_ss, eq_nil, ne_nil, take_ii]
  exact ⟨_, e, loop_check_text e ns _ q⟩
theorem loop_check_ranges {d : D} {S : Store} {Q : QE} {R : RE} {P : Store → Prop} (hP : P S) : ∀ (rs : List R3) (b : Int) (x y z : Sl), (if okR b rs = true then Q .non S else R 3 S) →
    wFor (gTp (gC1 (gNm 2) (gC1 (gNm 3) (gC1 (gNm 4) gN0)))) m_check_ranges_L1 { nx := fun _ S => Q .non S, rt := Q, ex := fun c _ S => R c S } P (dR rs) [.val d, .val (.int b), x, y, z] S
  | [], b, x, y, z, q => by simpa [wFor, hP, okR] using q
  | (f, l, v) :: rs, b, x, y, z, q => by
    rw [dR, List.map_cons, wFor]
    generalize hW : wFor _ m_check_ranges_L1 _ P _ = W
    simp [hP, m_check_ranges_L1, sp_is_sign, tr, mSeq, mIfS, mNext, mOr, mAnd, mNot, mTru, mTst, mIsT, mVar, mOwn, mC, mRet, mOrV, mAndV, mNotV, mChain, mOp, T2, mSet, mSetO, mApp, mAppO, mDrop, mCall, mMeth, mMake, mFld, mSetF, mCB, mCF, mACons, mANil, mLst, mTup, mNeg, mIf, mRaise, mRetN, mFrz, mFrzF, mCell, mFro, endsD, insOf_ins, D.tru, D.ty, D.tyName, isT, mParK, mKVal, mKOwn, mKNil, setE, gNm, gTp, gC1, gN0, mIt, mItT, mRng1, mRng2, mFor, mPopO, int_i, abs_i, int2_ii, oLen, seqOf_lst, seqOf_tup, seqOf_fz, lenOf_lst, lenOf_tup, oIx, oII_ii, oIs, oIsNot, D.isN, mDIn, mDGet, mSetd, mNewD, mSortD, mSortSet, mRevL, mRetG, mSliceL, mNoP, mPart, oTupleOf, oListOf, eq_ii, ne_ii, eq_bb, ne_bb, eq_ss, ne_ss, eq_nil, ne_nil, take_ii]
    simp only [okR] at q
    cases h1 : isSign f with
    | false => simpa [h1] using q
    | true =>
      cases h2 : isSign l with
      | false => simpa [h1, h2] using q
      | true =>
        simp [h1, h2] at q ⊢
        by_cases h3 : f ≤ l
        · refine .inl ⟨h3, ?_⟩
          by_cases h4 : b < f
          · refine .inl ⟨h4, ?_⟩
            subst hW
            exact loop_check_ranges hP rs l _ _ _ (by simpa [h3, h4] using q)
          · exact .inr ⟨by omega, by simpa [h4] using q⟩
        · exact .inr ⟨by omega, by simpa [h3] using q⟩
theorem data_check_ranges : ∀ ds S Q R, sp_check_ranges ds S Q R → ds.length = 1 ∧ m_check_ranges (endsD Q R) (startE ["ranges", "before", "first", "last", "_"] ds) S := by
  rintro ds S Q R ⟨d, rs, rfl, e, q⟩
  refine ⟨rfl, ?_⟩
  show m_check_ranges (endsD Q R) [.val d, .no, .no, .no, .no] S
  simp [m_check_ranges, mSeq, mIfS, mNext, mOr, mAnd, mNot, mTru, mTst, mIsT, mVar, mOwn, mC, mRet, mOrV, mAndV, mNotV, mChain, mOp, T2, mSet, mSetO, mApp, mAppO, mDrop, mCall, mMeth, mMake, mFld, mSetF, mCB, mCF, mACons, mANil, mLst, mTup, mNeg, mIf, mRaise, mRetN, mFrz, mFrzF, mCell, mFro, endsD, insOf_ins, D.tru, D.ty, D.tyName, isT, mParK, mKVal, mKOwn, mKNil, setE, gNm, gTp, gC1, gN0, mIt, mItT, mRng1, mRng2, mFor, mPopO, int_i, abs_i, int2_ii, oLen, seqOf_lst, seqOf_tup, seqOf_fz, lenOf_lst, lenOf_tup, oIx, oII_ii, oIs, oIsNot, D.isN, mDIn, mDGet, mSetd, mNewD, mSortD, mSortSet, mRevL, mRetG, mSliceL, mNoP, mPart, oTupleOf, oListOf, eq_ii, ne_ii, eq_bb, ne_bb, eq_ss, ne_ss, eq_nil, ne_nil, take_ii]
  exact ⟨_, e, loop_check_ranges e rs _ _ _ _ q⟩
/-! look_up -/
structure OkX (b : Int) (x : R3) : Prop where
  f : isSign x.1 = true
  l : isSign x.2.1 = true
  le : x.1 ≤ x.2.1
  lt : b < x.1
theorem okR_all : ∀ {rs : List R3} {b : Int}, okR b rs = true → (∀ x ∈ rs, OkX b x) ∧ rs.Pairwise fun x y => x.2.1 < y.1
  | [], _, _ => ⟨fun x h => by simp at h, List.Pairwise.nil⟩
  | r :: rs, b, h => by
    simp [okR] at h
    obtain ⟨h1, h2⟩ := okR_all (rs := rs) h.2
    have o : OkX b r := ⟨h.1.1.1.1, h.1.1.1.2, h.1.1.2, h.1.2⟩
    refine ⟨fun x hx => ?_, List.pairwise_cons.mpr ⟨fun y hy => (h1 y hy).lt, h2⟩⟩
    rcases List.mem_cons.mp hx with e | hx
    · rw [e]; exact o
    · exact ⟨(h1 x hx).f, (h1 x hx).l, (h1 x hx).le, by have := (h1 x hx).lt; have := o.le; have := o.lt; omega⟩
theorem cls_none {s : Int} : ∀ {rs : List R3}, (∀ x ∈ rs, ¬ (x.1 ≤ s ∧ s ≤ x.2.1)) → cls rs s = 0
  | [], _ => rfl
  | r :: rs, h => by
    unfold cls
    rw [if_neg (h r List.mem_cons_self)]
    exact cls_none fun x hx => h x (List.mem_cons_of_mem _ hx)
theorem cls_at {s : Int} : ∀ {rs : List R3} {lo : Nat} {x : R3}, (∀ (i : Nat) y, i < lo → rs[i]? = some y → y.2.1 < s) → rs[lo]? = some x → x.1 ≤ s → s ≤ x.2.1 → cls rs s = x.2.2
  | [], _, _, _, e, _, _ => by simp at e
  | r :: rs, 0, x, _, e, h1, h2 => by
    simp at e; subst e
    unfold cls; rw [if_pos ⟨h1, h2⟩]
  | r :: rs, lo + 1, x, h, e, h1, h2 => by
    have h0 : r.2.1 < s := h 0 r (Nat.succ_pos lo) rfl
    unfold cls
    rw [if_neg (by omega)]
    exact cls_at (lo := lo) (fun i y hi hy => h (i + 1) y (by omega) (by simpa using hy)) (by simpa using e) h1 h2
theorem pw_get {α : Type} {p : α → α → Prop} {l : List α} (h : l.Pairwise p) {i j : Nat} {x y : α} (e : l[i]? = some x) (e' : l[j]? = some y) (lt : i < j) : p x y := by
  obtain ⟨h1, h2⟩ := List.getElem?_eq_some_iff.mp e
  obtain ⟨h3, h4⟩ := List.getElem?_eq_some_iff.mp e'
  rw [← h2, ← h4]
  exact List.pairwise_iff_getElem.mp h i j h1 h3 lt
theorem cdiv2 (i : Int) : CDiv i 2 := by simp [CDiv]
theorem data_look_up : ∀ ds S Q R, sp_look_up ds S Q R → ds.length = 3 ∧ m_look_up (endsD Q R) (startE ["ranges", "sign", "other", "low", "high", "middle"] ds) S := by
  rintro ds S Q R ⟨d, rs, s, rfl, e, hl, ok, q⟩
  refine ⟨rfl, ?_⟩
  show m_look_up (endsD Q R) [.val d, .val (.int s), .val (.int 0), .no, .no, .no] S
  obtain ⟨ok1, ok2⟩ := okR_all ok
  simp [m_look_up, mSeq, mIfS, mNext, mOr, mAnd, mNot, mTru, mTst, mIsT, mVar, mOwn, mC, mRet, mOrV, mAndV, mNotV, mChain, mOp, T2, mSet, mSetO, mApp, mAppO, mDrop, mCall, mMeth, mMake, mFld, mSetF, mCB, mCF, mACons, mANil, mLst, mTup, mNeg, mIf, mRaise, mRetN, mFrz, mFrzF, mCell, mFro, endsD, insOf_ins, D.tru, D.ty, D.tyName, isT, mParK, mKVal, mKOwn, mKNil, setE, gNm, gTp, gC1, gN0, mIt, mItT, mRng1, mRng2, mFor, mPopO, int_i, abs_i, int2_ii, oLen, seqOf_lst, seqOf_tup, seqOf_fz, lenOf_lst, lenOf_tup, oIx, oII_ii, oIs, oIsNot, D.isN, mDIn, mDGet, mSetd, mNewD, mSortD, mSortSet, mRevL, mRetG, mSliceL, mNoP, mPart, oTupleOf, oListOf, eq_ii, ne_ii, eq_bb, ne_bb, eq_ss, ne_ss, eq_nil, ne_nil, take_ii]
  refine ⟨_, lenOf_seq e, ?_⟩
  rw [List.length_map]
  have at_ : ∀ (i : Nat) x, rs[i]? = some x → (dR rs)[i]? = some (tr x) := fun i x h => by rw [List.getElem?_map, h]; rfl
  refine wWhile (fun n env S' => S' = S ∧ ∃ (lo hi : Nat) (m : Sl), env = [.val d, .val (.int s), .val (.int 0), .val (.int lo), .val (.int hi), m] ∧ lo ≤ hi ∧ hi ≤ rs.length ∧ n = hi - lo ∧
    (∀ (i : Nat) x, i < lo → rs[i]? = some x → x.2.1 < s) ∧ ∀ (i : Nat) x, hi ≤ i → rs[i]? = some x → s ≤ x.2.1) rs.length
    ⟨rfl, 0, rs.length, .no, rfl, by omega, by omega, by omega, fun i x h => by omega, fun i x h h' => by rw [List.getElem?_eq_none h] at h'; cases h'⟩ ?_
  rintro n env S' ⟨rfl, lo, hi, m, rfl, h1, h2, rfl, h3, h4⟩
  by_cases hlt : lo < hi
  · simp [m_look_up_L1t, m_look_up_L1, mSeq, mIfS, mNext, mOr, mAnd, mNot, mTru, mTst, mIsT, mVar, mOwn, mC, mRet, mOrV, mAndV, mNotV, mChain, mOp, T2, mSet, mSetO, mApp, mAppO, mDrop, mCall, mMeth, mMake, mFld, mSetF, mCB, mCF, mACons, mANil, mLst, mTup, mNeg, mIf, mRaise, mRetN, mFrz, mFrzF, mCell, mFro, endsD, insOf_ins, D.tru, D.ty, D.tyName, isT, mParK, mKVal, mKOwn, mKNil, setE, gNm, gTp, gC1, gN0, mIt, mItT, mRng1, mRng2, mFor, mPopO, int_i, abs_i, int2_ii, oLen, seqOf_lst, seqOf_tup, seqOf_fz, lenOf_lst, lenOf_tup, oIx, oII_ii, oIs, oIsNot, D.isN, mDIn, mDGet, mSetd, mNewD, mSortD, mSortSet, mRevL, mRetG, mSliceL, mNoP, mPart, oTupleOf, oListOf, eq_ii, ne_ii, eq_bb, ne_bb, eq_ss, ne_ss, eq_nil, ne_nil, take_ii]
    have em : ((lo : Int) + hi) / 2 = (((lo + hi) / 2 : Nat) : Int) := by omega
    have hm : (lo + hi) / 2 < rs.length := by omega
    obtain ⟨x, hx⟩ : ∃ x, rs[(lo + hi) / 2]? = some x := ⟨_, List.getElem?_eq_getElem hm⟩
    refine .inr ⟨hlt, ?cd, _, e, tr x, by rw [em]; exact L2.atI_nat (at_ _ x hx), _, rfl, .int x.2.1, rfl, trivial, ?_⟩
    case cd => exact cdiv2 _
    by_cases hs : x.2.1 < s
    · refine .inr ⟨by simp [hs], _, ?_, (lo + hi) / 2 + 1, hi, ⟨by omega, rfl⟩, by omega, h2, rfl, fun i a b c hi' h => ?_, fun i a b c => h4 i (a, b, c)⟩
      · omega
      · by_cases hq : i = (lo + hi) / 2
        · rw [hq, hx] at h
          cases h; exact hs
        · have := pw_get ok2 h hx (by omega)
          have := (ok1 x (List.mem_of_getElem? hx)).le
          show b < s
          simp at *
          omega
    · refine .inl ⟨by simp [hs], _, ?_, lo, (lo + hi) / 2, ⟨rfl, em⟩, by omega, by omega, rfl, fun i a b c => h3 i (a, b, c), fun i a b c hi' h => ?_⟩
      · omega
      · by_cases hq : i = (lo + hi) / 2
        · rw [hq, hx] at h
          cases h
          simp at hs
          exact hs
        · have := pw_get ok2 hx h (by omega)
          have := (ok1 _ (List.mem_of_getElem? h)).le
          simp at *
          omega
  · have he : lo = hi := by omega
    subst he
    simp [m_look_up_L1t, m_look_up_R1, mSeq, mIfS, mNext, mOr, mAnd, mNot, mTru, mTst, mIsT, mVar, mOwn, mC, mRet, mOrV, mAndV, mNotV, mChain, mOp, T2, mSet, mSetO, mApp, mAppO, mDrop, mCall, mMeth, mMake, mFld, mSetF, mCB, mCF, mACons, mANil, mLst, mTup, mNeg, mIf, mRaise, mRetN, mFrz, mFrzF, mCell, mFro, endsD, insOf_ins, D.tru, D.ty, D.tyName, isT, mParK, mKVal, mKOwn, mKNil, setE, gNm, gTp, gC1, gN0, mIt, mItT, mRng1, mRng2, mFor, mPopO, int_i, abs_i, int2_ii, oLen, seqOf_lst, seqOf_tup, seqOf_fz, lenOf_lst, lenOf_tup, oIx, oII_ii, oIs, oIsNot, D.isN, mDIn, mDGet, mSetd, mNewD, mSortD, mSortSet, mRevL, mRetG, mSliceL, mNoP, mPart, oTupleOf, oListOf, eq_ii, ne_ii, eq_bb, ne_bb, eq_ss, ne_ss, eq_nil, ne_nil, take_ii]
    refine ⟨_, lenOf_seq e, ?_⟩
    rw [List.length_map]
    by_cases hq : lo < rs.length
    · obtain ⟨x, hx⟩ : ∃ x, rs[lo]? = some x := ⟨_, List.getElem?_eq_getElem hq⟩
      refine .inr ⟨hq, _, e, tr x, L2.atI_nat (at_ _ x hx), _, rfl, .int x.1, rfl, trivial, ?_⟩
      by_cases hf : x.1 ≤ s
      · refine .inr ⟨by simp [hf], _, e, tr x, L2.atI_nat (at_ _ x hx), _, rfl, .int x.2.2, rfl, ?_⟩
        rw [cls_at h3 hx hf (h4 lo x (Nat.le_refl _) hx)] at q
        exact q
      · refine .inl ⟨by simp [hf], ?_⟩
        rw [cls_none fun y hy => ?_] at q
        · exact q
        · obtain ⟨i, hi⟩ := List.mem_iff_getElem?.mp hy
          by_cases h : i < lo
          · have := h3 i y h hi; omega
          · by_cases h' : i = lo
            · rw [h', hx] at hi; cases hi; omega
            · have := pw_get ok2 hx hi (by omega)
              have := (ok1 x (List.mem_of_getElem? hx)).le
              omega
    · refine .inl ⟨by omega, ?_⟩
      rw [cls_none fun y hy => ?_] at q
      · exact q
      · obtain ⟨i, hi⟩ := List.mem_iff_getElem?.mp hy
        have hl2 := (List.getElem?_eq_some_iff.mp hi).1
        have := h3 i y (by omega) hi
        omega
end K01


set_option Elab.async false
set_option linter.all false
set_option maxRecDepth 100000
set_option maxHeartbeats 1000000
namespace K01
open PySem PySem.Spec PyProof.Rows L2 DL
theorem loop_cuts {d : D} {S : Store} {E : DEnds} {P : Store → Prop} (hP : P S) : ∀ (rs : List R3) (acc : List Int) (x y z : Sl), acc.length + 2 * rs.length ≤ 1000000 →
    (∀ x y z, E.nx [.val d, .own (dI (acc ++ rs.flatMap fun r => [r.1, r.2.1 + 1])), x, y, z] S) →
    wFor (gTp (gC1 (gNm 2) (gC1 (gNm 3) (gC1 (gNm 4) gN0)))) m_cuts_L1 E P (dR rs) [.val d, .own (dI acc), x, y, z] S
  | [], acc, x, y, z, hl, q => by simpa [wFor, hP] using q x y z
  | (f, l, v) :: rs, acc, x, y, z, hl, q => by
    rw [dR, List.map_cons, wFor]
    generalize hW : wFor _ m_cuts_L1 _ P _ = W
    simp [hP, m_cuts_L1, tr, mSeq, mIfS, mNext, mOr, mAnd, mNot, mTru, mTst, mIsT, mVar, mOwn, mC, mRet, mOrV, mAndV, mNotV, mChain, mOp, T2, mSet, mSetO, mApp, mAppO, mDrop, mCall, mMeth, mMake, mFld, mSetF, mCB, mCF, mACons, mANil, mLst, mTup, mNeg, mIf, mRaise, mRetN, mFrz, mFrzF, mCell, mFro, endsD, insOf_ins, D.tru, D.ty, D.tyName, isT, mParK, mKVal, mKOwn, mKNil, setE, gNm, gTp, gC1, gN0, mIt, mItT, mRng1, mRng2, mFor, mPopO, int_i, abs_i, int2_ii, oLen, seqOf_lst, seqOf_tup, seqOf_fz, lenOf_lst, lenOf_tup, oIx, oII_ii, oIs, oIsNot, D.isN, mDIn, mDGet, mSetd, mNewD, mSortD, mSortSet, mRevL, mRetG, mSliceL, mNoP, mPart, oTupleOf, oListOf, eq_ii, ne_ii, eq_bb, ne_bb, eq_ss, ne_ss, eq_nil, ne_nil, take_ii]
    simp at hl
    refine ⟨small5 (by omega), small5 (by omega), ?_⟩
    subst hW
    have := loop_cuts hP rs (acc ++ [f, l + 1]) (.val (.int f)) (.val (.int l)) (.val (.int v)) (by simp; omega) (fun x y z => by simpa using q x y z)
    simpa using this
theorem data_cuts : ∀ ds S Q R, sp_cuts ds S Q R → ds.length = 1 ∧ m_cuts (endsD Q R) (startE ["ranges", "found", "first", "last", "_"] ds) S := by
  rintro ds S Q R ⟨d, rs, rfl, e, hl, q⟩
  refine ⟨rfl, ?_⟩
  show m_cuts (endsD Q R) [.val d, .no, .no, .no, .no] S
  simp [m_cuts, mSeq, mIfS, mNext, mOr, mAnd, mNot, mTru, mTst, mIsT, mVar, mOwn, mC, mRet, mOrV, mAndV, mNotV, mChain, mOp, T2, mSet, mSetO, mApp, mAppO, mDrop, mCall, mMeth, mMake, mFld, mSetF, mCB, mCF, mACons, mANil, mLst, mTup, mNeg, mIf, mRaise, mRetN, mFrz, mFrzF, mCell, mFro, endsD, insOf_ins, D.tru, D.ty, D.tyName, isT, mParK, mKVal, mKOwn, mKNil, setE, gNm, gTp, gC1, gN0, mIt, mItT, mRng1, mRng2, mFor, mPopO, int_i, abs_i, int2_ii, oLen, seqOf_lst, seqOf_tup, seqOf_fz, lenOf_lst, lenOf_tup, oIx, oII_ii, oIs, oIsNot, D.isN, mDIn, mDGet, mSetd, mNewD, mSortD, mSortSet, mRevL, mRetG, mSliceL, mNoP, mPart, oTupleOf, oListOf, eq_ii, ne_ii, eq_bb, ne_bb, eq_ss, ne_ss, eq_nil, ne_nil, take_ii]
  refine ⟨.int 57344, rfl, small4 (by omega), _, e, ?_⟩
  have := loop_cuts (d := d) (E := { nx := fun env' S' => m_cuts_R1 { nx := fun x S => Q D.non S, rt := Q, ex := fun c x S => R c S } env' S', rt := Q, ex := fun c x S => R c S }) (P := fun S' => itOf S' d = some (dR rs)) e rs [0, 57344] .no .no .no (by simp; omega) (fun x y z => by simpa [m_cuts_R1, cutsL, mSeq, mIfS, mNext, mOr, mAnd, mNot, mTru, mTst, mIsT, mVar, mOwn, mC, mRet, mOrV, mAndV, mNotV, mChain, mOp, T2, mSet, mSetO, mApp, mAppO, mDrop, mCall, mMeth, mMake, mFld, mSetF, mCB, mCF, mACons, mANil, mLst, mTup, mNeg, mIf, mRaise, mRetN, mFrz, mFrzF, mCell, mFro, endsD, insOf_ins, D.tru, D.ty, D.tyName, isT, mParK, mKVal, mKOwn, mKNil, setE, gNm, gTp, gC1, gN0, mIt, mItT, mRng1, mRng2, mFor, mPopO, int_i, abs_i, int2_ii, oLen, seqOf_lst, seqOf_tup, seqOf_fz, lenOf_lst, lenOf_tup, oIx, oII_ii, oIs, oIsNot, D.isN, mDIn, mDGet, mSetd, mNewD, mSortD, mSortSet, mRevL, mRetG, mSliceL, mNoP, mPart, oTupleOf, oListOf, eq_ii, ne_ii, eq_bb, ne_bb, eq_ss, ne_ss, eq_nil, ne_nil, take_ii] using q)
  simpa using this
theorem data_class_of : ∀ ds S Q R, sp_ClassTable_class_of ds S Q R → ds.length = 2 ∧ m_ClassTable_class_of (endsD Q R) (startE ["self", "sign"] ds) S := by
  rintro ds S Q R ⟨c, rs, out, s, rfl, hl, ok, q⟩
  refine ⟨rfl, ?_⟩
  show m_ClassTable_class_of (endsD Q R) [.val (tbl c rs out), .val (.int s)] S
  simp [m_ClassTable_class_of, tbl, tblF, sp_check_text, sp_look_up, mSeq, mIfS, mNext, mOr, mAnd, mNot, mTru, mTst, mIsT, mVar, mOwn, mC, mRet, mOrV, mAndV, mNotV, mChain, mOp, T2, mSet, mSetO, mApp, mAppO, mDrop, mCall, mMeth, mMake, mFld, mSetF, mCB, mCF, mACons, mANil, mLst, mTup, mNeg, mIf, mRaise, mRetN, mFrz, mFrzF, mCell, mFro, endsD, insOf_ins, D.tru, D.ty, D.tyName, isT, mParK, mKVal, mKOwn, mKNil, setE, gNm, gTp, gC1, gN0, mIt, mItT, mRng1, mRng2, mFor, mPopO, int_i, abs_i, int2_ii, oLen, seqOf_lst, seqOf_tup, seqOf_fz, lenOf_lst, lenOf_tup, oIx, oII_ii, oIs, oIsNot, D.isN, mDIn, mDGet, mSetd, mNewD, mSortD, mSortSet, mRevL, mRetG, mSliceL, mNoP, mPart, oTupleOf, oListOf, eq_ii, ne_ii, eq_bb, ne_bb, eq_ss, ne_ss, eq_nil, ne_nil, take_ii]
  refine ⟨small4 (by omega), [s], rfl, ?_⟩
  cases h : isSign s with
  | false => simpa [h] using q
  | true =>
    simp [h] at q ⊢
    exact ⟨_, rfl, _, rs, s, ⟨rfl, rfl⟩, rfl, hl, ok, q⟩
theorem data_row : ∀ ds S Q R, sp_ClassTable_row ds S Q R → ds.length = 2 ∧ m_ClassTable_row (endsD Q R) (startE ["self", "text", "sign"] ds) S := by
  rintro ds S Q R ⟨c, rs, out, d, ns, rfl, e, hn, hl, ok, q⟩
  refine ⟨rfl, ?_⟩
  show m_ClassTable_row (endsD Q R) [.val (tbl c rs out), .val d, .no] S
  simp [m_ClassTable_row, mComp, wipeE, sp_check_text, mSeq, mIfS, mNext, mOr, mAnd, mNot, mTru, mTst, mIsT, mVar, mOwn, mC, mRet, mOrV, mAndV, mNotV, mChain, mOp, T2, mSet, mSetO, mApp, mAppO, mDrop, mCall, mMeth, mMake, mFld, mSetF, mCB, mCF, mACons, mANil, mLst, mTup, mNeg, mIf, mRaise, mRetN, mFrz, mFrzF, mCell, mFro, endsD, insOf_ins, D.tru, D.ty, D.tyName, isT, mParK, mKVal, mKOwn, mKNil, setE, gNm, gTp, gC1, gN0, mIt, mItT, mRng1, mRng2, mFor, mPopO, int_i, abs_i, int2_ii, oLen, seqOf_lst, seqOf_tup, seqOf_fz, lenOf_lst, lenOf_tup, oIx, oII_ii, oIs, oIsNot, D.isN, mDIn, mDGet, mSetd, mNewD, mSortD, mSortSet, mRevL, mRetG, mSliceL, mNoP, mPart, oTupleOf, oListOf, eq_ii, ne_ii, eq_bb, ne_bb, eq_ss, ne_ss, eq_nil, ne_nil, take_ii]
  refine ⟨ns, e, ?_⟩
  by_cases h : ∀ x ∈ ns, isSign x = true
  · have h' : ns.all isSign = true := by simpa using h
    rw [if_pos h]
    rw [if_pos h'] at q
    refine ⟨_, e, wComp_map (fun d => match d with | .int i => .int (cls rs i) | d => d) e _ [] (fun d hd Ke hk => ?_) (by simpa using small4 (by omega)) (by simpa [Function.comp_def] using q)⟩
    obtain ⟨i, _, rfl⟩ := List.mem_map.mp hd
    simp [m_ClassTable_row_C1e, tbl, tblF, sp_look_up, mSeq, mIfS, mNext, mOr, mAnd, mNot, mTru, mTst, mIsT, mVar, mOwn, mC, mRet, mOrV, mAndV, mNotV, mChain, mOp, T2, mSet, mSetO, mApp, mAppO, mDrop, mCall, mMeth, mMake, mFld, mSetF, mCB, mCF, mACons, mANil, mLst, mTup, mNeg, mIf, mRaise, mRetN, mFrz, mFrzF, mCell, mFro, endsD, insOf_ins, D.tru, D.ty, D.tyName, isT, mParK, mKVal, mKOwn, mKNil, setE, gNm, gTp, gC1, gN0, mIt, mItT, mRng1, mRng2, mFor, mPopO, int_i, abs_i, int2_ii, oLen, seqOf_lst, seqOf_tup, seqOf_fz, lenOf_lst, lenOf_tup, oIx, oII_ii, oIs, oIsNot, D.isN, mDIn, mDGet, mSetd, mNewD, mSortD, mSortSet, mRevL, mRetG, mSliceL, mNoP, mPart, oTupleOf, oListOf, eq_ii, ne_ii, eq_bb, ne_bb, eq_ss, ne_ss, eq_nil, ne_nil, take_ii]
    exact ⟨_, rfl, _, rs, i, ⟨rfl, rfl⟩, rfl, hl, ok, hk⟩
  · have h' : ¬ ns.all isSign = true := by simpa using h
    rw [if_neg h]
    rw [if_neg h'] at q
    exact q
theorem data_sample : ∀ ds S Q R, sp_ClassTable_sample ds S Q R → ds.length = 2 ∧ m_ClassTable_sample (endsD Q R) (startE ["self", "number"] ds) S := by
  rintro ds S Q R ⟨c, rs, out, n, rfl, q⟩
  refine ⟨rfl, ?_⟩
  show m_ClassTable_sample (endsD Q R) [.val (tbl c rs out), .val (.int n)] S
  simp [m_ClassTable_sample, tbl, tblF, mSeq, mIfS, mNext, mOr, mAnd, mNot, mTru, mTst, mIsT, mVar, mOwn, mC, mRet, mOrV, mAndV, mNotV, mChain, mOp, T2, mSet, mSetO, mApp, mAppO, mDrop, mCall, mMeth, mMake, mFld, mSetF, mCB, mCF, mACons, mANil, mLst, mTup, mNeg, mIf, mRaise, mRetN, mFrz, mFrzF, mCell, mFro, endsD, insOf_ins, D.tru, D.ty, D.tyName, isT, mParK, mKVal, mKOwn, mKNil, setE, gNm, gTp, gC1, gN0, mIt, mItT, mRng1, mRng2, mFor, mPopO, int_i, abs_i, int2_ii, oLen, seqOf_lst, seqOf_tup, seqOf_fz, lenOf_lst, lenOf_tup, oIx, oII_ii, oIs, oIsNot, D.isN, mDIn, mDGet, mSetd, mNewD, mSortD, mSortSet, mRevL, mRetG, mSliceL, mNoP, mPart, oTupleOf, oListOf, eq_ii, ne_ii, eq_bb, ne_bb, eq_ss, ne_ss, eq_nil, ne_nil, take_ii]
  by_cases h1 : n < 0
  · exact .inr ⟨h1, by simpa [h1] using q⟩
  · refine .inl ⟨by omega, ?_⟩
    by_cases h2 : c ≤ n
    · exact .inr ⟨h2, by simpa [h2] using q⟩
    · refine .inl ⟨by omega, _, rfl, _, rfl, _, rfl, ?_⟩
      simp only [h1, h2, or_false, if_false] at q
      cases h3 : dGet (samples rs out) (.inl n) with
      | none => rw [h3] at q; simpa using q
      | some v =>
        rw [h3] at q
        rw [if_neg (by simp)]
        exact ⟨_, rfl, _, rfl, _, rfl, v, h3, q⟩
theorem put_keys {kvs : List (Key × D)} {ks : List Int} {n : Int} {v : D} (h : kvs.map (·.1) = ks.map .inl) : ∃ ks' : List Int, (dPut kvs (.inl n) v).map (·.1) = ks'.map .inl := by
  unfold dPut
  split
  · refine ⟨ks, ?_⟩
    rw [← h, List.map_map]
    exact List.map_congr_left fun x _ => by simp only [Function.comp]; split <;> rfl
  · exact ⟨ks ++ [n], by simp [h]⟩
theorem fold_keys {rs : List R3} : ∀ (out : List Int) {kvs : List (Key × D)} {ks : List Int}, kvs.map (·.1) = ks.map .inl → ∃ ks' : List Int, (out.foldl (addS rs) kvs).map (·.1) = ks'.map .inl
  | [], kvs, ks, h => ⟨ks, h⟩
  | s :: out, kvs, ks, h => by
    rw [List.foldl_cons]
    have : ∃ ks' : List Int, (addS rs kvs s).map (·.1) = ks'.map .inl := by
      unfold addS
      split
      · split
        · exact ⟨ks, h⟩
        · exact put_keys h
      · exact ⟨ks, h⟩
    obtain ⟨ks', h'⟩ := this
    exact fold_keys out h'
theorem data_present : ∀ ds S Q R, sp_ClassTable_present ds S Q R → ds.length = 1 ∧ m_ClassTable_present (endsD Q R) (startE ["self"] ds) S := by
  rintro ds S Q R ⟨c, rs, out, rfl, q⟩
  refine ⟨rfl, ?_⟩
  show m_ClassTable_present (endsD Q R) [.val (tbl c rs out)] S
  simp [m_ClassTable_present, tbl, tblF, mSeq, mIfS, mNext, mOr, mAnd, mNot, mTru, mTst, mIsT, mVar, mOwn, mC, mRet, mOrV, mAndV, mNotV, mChain, mOp, T2, mSet, mSetO, mApp, mAppO, mDrop, mCall, mMeth, mMake, mFld, mSetF, mCB, mCF, mACons, mANil, mLst, mTup, mNeg, mIf, mRaise, mRetN, mFrz, mFrzF, mCell, mFro, endsD, insOf_ins, D.tru, D.ty, D.tyName, isT, mParK, mKVal, mKOwn, mKNil, setE, gNm, gTp, gC1, gN0, mIt, mItT, mRng1, mRng2, mFor, mPopO, int_i, abs_i, int2_ii, oLen, seqOf_lst, seqOf_tup, seqOf_fz, lenOf_lst, lenOf_tup, oIx, oII_ii, oIs, oIsNot, D.isN, mDIn, mDGet, mSetd, mNewD, mSortD, mSortSet, mRevL, mRetG, mSliceL, mNoP, mPart, oTupleOf, oListOf, eq_ii, ne_ii, eq_bb, ne_bb, eq_ss, ne_ss, eq_nil, ne_nil, take_ii]
  obtain ⟨ks, hk⟩ := fold_keys (rs := rs) out (kvs := []) (ks := []) rfl
  refine ⟨_, rfl, _, rfl, ks, hk, fun ys pm pw p hp => q ys p pw ?_ hp⟩
  rw [show (samples rs out).map (·.1) = ks.map .inl from hk]
  exact (pm.map _).symm
theorem loop_init1 {E : DEnds} {P : Store → Prop} {a d : Sl} {c : Int} {S : Store} (hP : P S) : ∀ (rs : List R3) (x y z w : Sl), (okV c rs = true → ∀ x y, E.nx [a, .val (.int c), d, x, y, z, w] S) → (okV c rs = false → ∀ env, E.ex 1 env S) →
    wFor (gTp (gC1 (gNm 3) (gC1 (gNm 3) (gC1 (gNm 4) gN0)))) m_ClassTable_init_L1 E P (dR rs) [a, .val (.int c), d, x, y, z, w] S
  | [], x, y, z, w, q, _ => by simpa [wFor, hP] using q rfl x y
  | (f, l, v) :: rs, x, y, z, w, q, q' => by
    rw [dR, List.map_cons, wFor]
    generalize hW : wFor _ m_ClassTable_init_L1 _ P _ = W
    simp [hP, m_ClassTable_init_L1, tr, mSeq, mIfS, mNext, mOr, mAnd, mNot, mTru, mTst, mIsT, mVar, mOwn, mC, mRet, mOrV, mAndV, mNotV, mChain, mOp, T2, mSet, mSetO, mApp, mAppO, mDrop, mCall, mMeth, mMake, mFld, mSetF, mCB, mCF, mACons, mANil, mLst, mTup, mNeg, mIf, mRaise, mRetN, mFrz, mFrzF, mCell, mFro, endsD, insOf_ins, D.tru, D.ty, D.tyName, isT, mParK, mKVal, mKOwn, mKNil, setE, gNm, gTp, gC1, gN0, mIt, mItT, mRng1, mRng2, mFor, mPopO, int_i, abs_i, int2_ii, oLen, seqOf_lst, seqOf_tup, seqOf_fz, lenOf_lst, lenOf_tup, oIx, oII_ii, oIs, oIsNot, D.isN, mDIn, mDGet, mSetd, mNewD, mSortD, mSortSet, mRevL, mRetG, mSliceL, mNoP, mPart, oTupleOf, oListOf, eq_ii, ne_ii, eq_bb, ne_bb, eq_ss, ne_ss, eq_nil, ne_nil, take_ii]
    by_cases h1 : 0 ≤ v
    · refine .inl ⟨h1, ?_⟩
      by_cases h2 : v < c
      · refine .inl ⟨h2, ?_⟩
        subst hW
        exact loop_init1 hP rs _ _ z w (fun h => q (by simp [okV, h1, h2, h])) fun h => q' (by simp [okV, h])
      · exact .inr ⟨by omega, q' (by simp [okV, h2]) _⟩
    · exact .inr ⟨by omega, q' (by simp [okV, h1]) _⟩
theorem seq_tr {rs : List R3} {S : Store} (i : D) (h : i ∈ dR rs) : ∃ l, seqOf S i = some l ∧ D.tup l = i := by
  obtain ⟨r, _, rfl⟩ := List.mem_map.mp h
  exact ⟨_, rfl, rfl⟩
def selfF (c : Int) (rs : List R3) (q : Addr) : Cell := .ins 6 [("count", .int c), ("ranges", .tup (dR rs)), ("_samples", .obj q)]
theorem up_len : ∀ {l m : List Int}, l.Pairwise (· < ·) → (∀ k ∈ l, k ∈ m) → l.length ≤ m.length
  | [], m, _, _ => Nat.zero_le _
  | a :: l, m, h, k => by
    obtain ⟨h1, h2⟩ := List.pairwise_cons.mp h
    have ha := k a List.mem_cons_self
    have := up_len (m := m.erase a) h2 fun b hb => by
      have : b ≠ a := fun z => by have := h1 b hb; omega
      exact (List.mem_erase_of_ne this).mpr (k b (List.mem_cons_of_mem _ hb))
    rw [List.length_erase_of_mem ha] at this
    have := List.length_pos_of_mem ha
    simp; omega
theorem putFD_len (f : Str) (v : D) : ∀ fs : List (Str × D), (putFD f v fs).length ≤ fs.length + 1
  | [] => by simp [putFD]
  | (g, x) :: r => by
    unfold putFD
    split
    · simp
    · have := putFD_len f v r
      simp; omega
theorem put_len (kvs : List (Key × D)) (k : Key) (v : D) : (dPut kvs k v).length ≤ kvs.length + 1 := by
  unfold dPut
  split
  · simp
  · simp
theorem loop_init2 {E : DEnds} {P : Store → Prop} {c : Int} {rs : List R3} {x q : Addr} {S0 : Store} {b d y z o : Sl} (ne : q ≠ x) (hP : ∀ kvs, P ((S0.upd x (selfF c rs q)).upd q (.dik kvs))) (ok : okR (-1) rs = true) (hl : rs.length ≤ 1000) : ∀ (out : List Int) (kvs : List (Key × D)) (w : Sl), kvs.length + out.length ≤ 1000000 →
    (∀ w, E.nx [.val (.obj x), b, d, y, z, o, w] ((S0.upd x (selfF c rs q)).upd q (.dik (out.foldl (addS rs) kvs)))) →
    wFor (gNm 6) m_ClassTable_init_L2 E P (dI out) [.val (.obj x), b, d, y, z, o, w] ((S0.upd x (selfF c rs q)).upd q (.dik kvs))
  | [], kvs, w, _, h => ⟨hP _, h w⟩
  | s :: out, kvs, w, hn, h => by
    rw [dI, List.map_cons, wFor]
    generalize hW : wFor _ m_ClassTable_init_L2 _ P _ = W
    simp [hP, m_ClassTable_init_L2, sp_is_sign, sp_look_up, mSeq, mIfS, mNext, mOr, mAnd, mNot, mTru, mTst, mIsT, mVar, mOwn, mC, mRet, mOrV, mAndV, mNotV, mChain, mOp, T2, mSet, mSetO, mApp, mAppO, mDrop, mCall, mMeth, mMake, mFld, mSetF, mCB, mCF, mACons, mANil, mLst, mTup, mNeg, mIf, mRaise, mRetN, mFrz, mFrzF, mCell, mFro, endsD, insOf_ins, D.tru, D.ty, D.tyName, isT, mParK, mKVal, mKOwn, mKNil, setE, gNm, gTp, gC1, gN0, mIt, mItT, mRng1, mRng2, mFor, mPopO, int_i, abs_i, int2_ii, oLen, seqOf_lst, seqOf_tup, seqOf_fz, lenOf_lst, lenOf_tup, oIx, oII_ii, oIs, oIsNot, D.isN, mDIn, mDGet, mSetd, mNewD, mSortD, mSortSet, mRevL, mRetG, mSliceL, mNoP, mPart, oTupleOf, oListOf, eq_ii, ne_ii, eq_bb, ne_bb, eq_ss, ne_ss, eq_nil, ne_nil, take_ii]
    rw [List.foldl_cons] at h
    simp at hn
    cases hs : isSign s with
    | false =>
      simp
      subst hW
      exact loop_init2 ne hP ok hl out kvs _ (by omega) (by simpa [addS, hs] using h)
    | true =>
      have e1 : ∀ kvs, ((S0.upd x (selfF c rs q)).upd q (.dik kvs)) x = some (selfF c rs q) := fun kvs => by rw [upd_other (Ne.symm ne), upd_same']
      simp
      refine ⟨_, insOf_obj (e1 kvs), _, rfl, q, rfl, ⟨kvs, upd_same'⟩, _, insOf_obj (e1 kvs), _, rfl, ?_⟩
      refine ⟨_, rs, s, ⟨rfl, rfl⟩, rfl, hl, ok, kvs, upd_same', _, rfl, small5 (by omega), fun v hv => ?_, fun hv => ?_⟩
      · subst hW
        exact loop_init2 ne hP ok hl out kvs _ (by omega) (by simpa [addS, hs, hv] using h)
      · rw [upd_upd']
        subst hW
        exact loop_init2 ne hP ok hl out _ _ (by have := put_len kvs (.inl (cls rs s)) (D.int s); omega) (by simpa [addS, hs, hv] using h)
theorem data_init : ∀ ds S Q R, sp_ClassTable_init ds S Q R → ds.length = 3 ∧ m_ClassTable_init (endsD Q R) (startE ["self", "count", "ranges", "_", "number", "one", "sign"] ds) S := by
  rintro ds S Q R ⟨x, d, c, rs, rfl, hx, e, hl, q⟩
  refine ⟨rfl, ?_⟩
  show m_ClassTable_init (endsD Q R) [.val (.obj x), .val (.int c), .val d, .no, .no, .no, .no] S
  simp [m_ClassTable_init, mSeq, mIfS, mNext, mOr, mAnd, mNot, mTru, mTst, mIsT, mVar, mOwn, mC, mRet, mOrV, mAndV, mNotV, mChain, mOp, T2, mSet, mSetO, mApp, mAppO, mDrop, mCall, mMeth, mMake, mFld, mSetF, mCB, mCF, mACons, mANil, mLst, mTup, mNeg, mIf, mRaise, mRetN, mFrz, mFrzF, mCell, mFro, endsD, insOf_ins, D.tru, D.ty, D.tyName, isT, mParK, mKVal, mKOwn, mKNil, setE, gNm, gTp, gC1, gN0, mIt, mItT, mRng1, mRng2, mFor, mPopO, int_i, abs_i, int2_ii, oLen, seqOf_lst, seqOf_tup, seqOf_fz, lenOf_lst, lenOf_tup, oIx, oII_ii, oIs, oIsNot, D.isN, mDIn, mDGet, mSetd, mNewD, mSortD, mSortSet, mRevL, mRetG, mSliceL, mNoP, mPart, oTupleOf, oListOf, eq_ii, ne_ii, eq_bb, ne_bb, eq_ss, ne_ss, eq_nil, ne_nil, take_ii]
  by_cases h1 : 1 ≤ c
  · refine .inl ⟨h1, ?_⟩
    by_cases h2 : c ≤ 64
    · refine .inl ⟨h2, _, e, loop_init1 e rs _ _ _ _ (fun hv y z => ?_) fun hv env => ?_⟩
      · rw [if_pos (by simp [okC, h1, h2, hv])] at q
        simp [m_ClassTable_init_R1, sp_check_ranges, sp_cuts, mSeq, mIfS, mNext, mOr, mAnd, mNot, mTru, mTst, mIsT, mVar, mOwn, mC, mRet, mOrV, mAndV, mNotV, mChain, mOp, T2, mSet, mSetO, mApp, mAppO, mDrop, mCall, mMeth, mMake, mFld, mSetF, mCB, mCF, mACons, mANil, mLst, mTup, mNeg, mIf, mRaise, mRetN, mFrz, mFrzF, mCell, mFro, endsD, insOf_ins, D.tru, D.ty, D.tyName, isT, mParK, mKVal, mKOwn, mKNil, setE, gNm, gTp, gC1, gN0, mIt, mItT, mRng1, mRng2, mFor, mPopO, int_i, abs_i, int2_ii, oLen, seqOf_lst, seqOf_tup, seqOf_fz, lenOf_lst, lenOf_tup, oIx, oII_ii, oIs, oIsNot, D.isN, mDIn, mDGet, mSetd, mNewD, mSortD, mSortSet, mRevL, mRetG, mSliceL, mNoP, mPart, oTupleOf, oListOf, eq_ii, ne_ii, eq_bb, ne_bb, eq_ss, ne_ss, eq_nil, ne_nil, take_ii]
        refine ⟨rs, e, ?_⟩
        by_cases ok : okR (-1) rs = true
        · rw [if_pos ok] at q ⊢
          refine ⟨_, hx, by simp, ?_⟩
          have eS : ∀ cc, itOf (S.upd x cc) d = some (dR rs) := fun cc => itOf_upd e fun l' z => by rw [hx] at z; cases z
          simp [mComp, wipeE, mSeq, mIfS, mNext, mOr, mAnd, mNot, mTru, mTst, mIsT, mVar, mOwn, mC, mRet, mOrV, mAndV, mNotV, mChain, mOp, T2, mSet, mSetO, mApp, mAppO, mDrop, mCall, mMeth, mMake, mFld, mSetF, mCB, mCF, mACons, mANil, mLst, mTup, mNeg, mIf, mRaise, mRetN, mFrz, mFrzF, mCell, mFro, endsD, insOf_ins, D.tru, D.ty, D.tyName, isT, mParK, mKVal, mKOwn, mKNil, setE, gNm, gTp, gC1, gN0, mIt, mItT, mRng1, mRng2, mFor, mPopO, int_i, abs_i, int2_ii, oLen, seqOf_lst, seqOf_tup, seqOf_fz, lenOf_lst, lenOf_tup, oIx, oII_ii, oIs, oIsNot, D.isN, mDIn, mDGet, mSetd, mNewD, mSortD, mSortSet, mRevL, mRetG, mSliceL, mNoP, mPart, oTupleOf, oListOf, eq_ii, ne_ii, eq_bb, ne_bb, eq_ss, ne_ss, eq_nil, ne_nil, take_ii]
          refine ⟨_, eS _, wComp_map id (eS _) _ [] (fun d hd Ke hk => ?_) (by simpa using small4 (by omega)) ?_⟩
          · obtain ⟨r, _, rfl⟩ := List.mem_map.mp hd
            simp [m_ClassTable_init_C1e, mSeq, mIfS, mNext, mOr, mAnd, mNot, mTru, mTst, mIsT, mVar, mOwn, mC, mRet, mOrV, mAndV, mNotV, mChain, mOp, T2, mSet, mSetO, mApp, mAppO, mDrop, mCall, mMeth, mMake, mFld, mSetF, mCB, mCF, mACons, mANil, mLst, mTup, mNeg, mIf, mRaise, mRetN, mFrz, mFrzF, mCell, mFro, endsD, insOf_ins, D.tru, D.ty, D.tyName, isT, mParK, mKVal, mKOwn, mKNil, setE, gNm, gTp, gC1, gN0, mIt, mItT, mRng1, mRng2, mFor, mPopO, int_i, abs_i, int2_ii, oLen, seqOf_lst, seqOf_tup, seqOf_fz, lenOf_lst, lenOf_tup, oIx, oII_ii, oIs, oIsNot, D.isN, mDIn, mDGet, mSetd, mNewD, mSortD, mSortSet, mRevL, mRetG, mSliceL, mNoP, mPart, oTupleOf, oListOf, eq_ii, ne_ii, eq_bb, ne_bb, eq_ss, ne_ss, eq_nil, ne_nil, take_ii]
            exact ⟨_, rfl, hk⟩
          simp
          refine ⟨_, upd_same', by simp [putFD], fun q0 hq => ?_⟩
          have hqx : q0 ≠ x := fun z => by rw [z, upd_same'] at hq; cases hq
          rw [upd_upd'] at hq
          rw [upd_other hqx] at hq
          rw [upd_upd']
          refine ⟨_, by rw [upd_other (Ne.symm hqx)]; exact upd_same', Nat.lt_of_le_of_lt (putFD_len _ _ _) (Nat.lt_of_le_of_lt (Nat.add_le_add_right (putFD_len _ _ _) 1) (by simp)), ?_⟩
          rw [upd_comm hqx, upd_upd']
          have eP : ∀ kvs, itOf ((S.upd x (selfF c rs q0)).upd q0 (.dik kvs)) d = some (dR rs) := fun kvs => itOf_upd (eS _) fun l' z => by rw [upd_other hqx, hq] at z; cases z
          have hc : (cutsL rs).length ≤ 2002 := by
            have : ∀ l : List R3, (l.flatMap fun r => [r.1, r.2.1 + 1]).length = 2 * l.length := fun l => by
              induction l with
              | nil => rfl
              | cons r l ih => rw [List.flatMap_cons, List.length_append, ih]; simp; omega
            simp only [cutsL, List.length_cons, this]; omega
          refine ⟨rs, eP [], hl, cutsL rs, rfl, by unfold scanBound; omega, fun out up mem => ⟨_, rfl, ?_⟩⟩
          have ho : out.length ≤ 1000000 := by
            have := up_len up fun k hk => (mem k).mp hk
            omega
          refine loop_init2 (S0 := S) (c := c) hqx (fun kvs => rfl) ok hl out [] _ (by simpa using ho) fun w => ?_
          refine ⟨x, rfl, 6, _, by rw [upd_other (Ne.symm hqx)]; exact upd_same', q0, rfl, _, upd_same', _, rfl, Ne.symm hqx, ?_⟩
          have fin := q out ⟨up, mem⟩
          refine cast (congrArg (Q D.non) ?_) fin
          funext z
          by_cases z1 : z = x
          · subst z1; simp only [upd_same']; rfl
          · by_cases z2 : z = q0
            · subst z2
              rw [upd_other z1, upd_other z1, hq]; simp [Store.era]
            · rw [upd_other z1, upd_other z1, era_other z2, upd_other z2, upd_other z1]
        · rw [if_neg ok] at q ⊢
          exact q
      · rw [if_neg (by simp [okC, hv])] at q
        exact q
    · refine .inr ⟨by omega, ?_⟩
      rw [if_neg (by simp [okC, h2])] at q
      exact q
  · refine .inr ⟨by omega, ?_⟩
    rw [if_neg (by simp [okC, h1])] at q
    exact q
end K01


set_option Elab.async false
set_option linter.all false
set_option maxRecDepth 100000
set_option maxHeartbeats 1000000
namespace K01
open PySem PySem.Spec PyProof.Rows L2 DL
/-! ### the law's helpers -/
theorem data_take : ∀ ds S Q R, spTake0 ds S Q R → ds.length = 2 ∧ m__law_take (endsD Q R) (startE ["draws", "bound"] ds) S := by
  rintro ds S Q R ⟨p, b, ns, rfl, hp, hb, nn, q⟩
  refine ⟨rfl, ?_⟩
  show m__law_take (endsD Q R) [.val (.obj p), .val (.int b)] S
  have e : seqOf S (.obj p) = some (dI ns) := by simp [seqOf, hp]
  simp [m__law_take, mSeq, mIfS, mNext, mOr, mAnd, mNot, mTru, mTst, mIsT, mVar, mOwn, mC, mRet, mOrV, mAndV, mNotV, mChain, mOp, T2, mSet, mSetO, mApp, mAppO, mDrop, mCall, mMeth, mMake, mFld, mSetF, mCB, mCF, mACons, mANil, mLst, mTup, mNeg, mIf, mRaise, mRetN, mFrz, mFrzF, mCell, mFro, endsD, insOf_ins, D.tru, D.ty, D.tyName, isT, mParK, mKVal, mKOwn, mKNil, setE, gNm, gTp, gC1, gN0, mIt, mItT, mRng1, mRng2, mFor, mPopO, int_i, abs_i, int2_ii, oLen, seqOf_lst, seqOf_tup, seqOf_fz, lenOf_lst, lenOf_tup, oIx, oII_ii, oIs, oIsNot, D.isN, mDIn, mDGet, mSetd, mNewD, mSortD, mSortSet, mRevL, mRetG, mSliceL, mNoP, mPart, oTupleOf, oListOf, eq_ii, ne_ii, eq_bb, ne_bb, eq_ss, ne_ss, eq_nil, ne_nil, take_ii]
  refine ⟨_, lenOf_seq e, ?_⟩
  rw [List.length_map]
  by_cases h : ns = []
  · subst h
    refine .inr ⟨rfl, ?_⟩
    have := q 0 [] (by omega) hb (by simp)
    rwa [upd_id hp] at this
  · refine .inl ⟨by simpa using h, ?_⟩
    have e2 : ns = ns.dropLast ++ [ns.getLast h] := (List.dropLast_concat_getLast h).symm
    refine ⟨ns.dropLast.map .int, .int (ns.getLast h), ?_, .inl ⟨_, rfl, hb, ?_⟩⟩
    · rw [hp]; congr 2; conv => lhs; rw [e2]
      simp
    · exact q _ _ (Int.emod_nonneg _ (by omega)) (Int.emod_lt_of_pos _ hb) fun n hn => nn n (by rw [e2]; exact List.mem_append_left _ hn)
theorem data_class : ∀ ds S Q R, sp__law_class ds S Q R → ds.length = 2 ∧ m__law_class (endsD Q R) (startE ["ranges", "sign", "first", "last", "number"] ds) S := by
  rintro ds S Q R ⟨d, rs, s, rfl, e, q⟩
  refine ⟨rfl, ?_⟩
  show m__law_class (endsD Q R) [.val d, .val (.int s), .no, .no, .no] S
  simp [m__law_class, mSeq, mIfS, mNext, mOr, mAnd, mNot, mTru, mTst, mIsT, mVar, mOwn, mC, mRet, mOrV, mAndV, mNotV, mChain, mOp, T2, mSet, mSetO, mApp, mAppO, mDrop, mCall, mMeth, mMake, mFld, mSetF, mCB, mCF, mACons, mANil, mLst, mTup, mNeg, mIf, mRaise, mRetN, mFrz, mFrzF, mCell, mFro, endsD, insOf_ins, D.tru, D.ty, D.tyName, isT, mParK, mKVal, mKOwn, mKNil, setE, gNm, gTp, gC1, gN0, mIt, mItT, mRng1, mRng2, mFor, mPopO, int_i, abs_i, int2_ii, oLen, seqOf_lst, seqOf_tup, seqOf_fz, lenOf_lst, lenOf_tup, oIx, oII_ii, oIs, oIsNot, D.isN, mDIn, mDGet, mSetd, mNewD, mSortD, mSortSet, mRevL, mRetG, mSliceL, mNoP, mPart, oTupleOf, oListOf, eq_ii, ne_ii, eq_bb, ne_bb, eq_ss, ne_ss, eq_nil, ne_nil, take_ii]
  refine ⟨_, e, ?_⟩
  have loop : ∀ (l : List R3) (x y z : Sl), Q (.int (cls l s)) S → wFor (gTp (gC1 (gNm 2) (gC1 (gNm 3) (gC1 (gNm 4) gN0)))) m__law_class_L1 { nx := fun env' S' => m__law_class_R1 { nx := fun x S => Q D.non S, rt := Q, ex := fun c x S => R c S } env' S', rt := Q, ex := fun c x S => R c S } (fun S' => itOf S' d = some (dR rs)) (dR l) [.val d, .val (.int s), x, y, z] S := fun l => by
    induction l with
    | nil => intro x y z h; simpa [wFor, e, m__law_class_R1, cls, mSeq, mIfS, mNext, mOr, mAnd, mNot, mTru, mTst, mIsT, mVar, mOwn, mC, mRet, mOrV, mAndV, mNotV, mChain, mOp, T2, mSet, mSetO, mApp, mAppO, mDrop, mCall, mMeth, mMake, mFld, mSetF, mCB, mCF, mACons, mANil, mLst, mTup, mNeg, mIf, mRaise, mRetN, mFrz, mFrzF, mCell, mFro, endsD, insOf_ins, D.tru, D.ty, D.tyName, isT, mParK, mKVal, mKOwn, mKNil, setE, gNm, gTp, gC1, gN0, mIt, mItT, mRng1, mRng2, mFor, mPopO, int_i, abs_i, int2_ii, oLen, seqOf_lst, seqOf_tup, seqOf_fz, lenOf_lst, lenOf_tup, oIx, oII_ii, oIs, oIsNot, D.isN, mDIn, mDGet, mSetd, mNewD, mSortD, mSortSet, mRevL, mRetG, mSliceL, mNoP, mPart, oTupleOf, oListOf, eq_ii, ne_ii, eq_bb, ne_bb, eq_ss, ne_ss, eq_nil, ne_nil, take_ii] using h
    | cons r l ih =>
      obtain ⟨f, la, v⟩ := r
      intro x y z h
      show wFor _ _ _ _ (tr (f, la, v) :: dR l) _ _
      rw [wFor]
      generalize hW : wFor _ m__law_class_L1 _ _ _ = W at ih ⊢
      simp [e, m__law_class_L1, tr, mSeq, mIfS, mNext, mOr, mAnd, mNot, mTru, mTst, mIsT, mVar, mOwn, mC, mRet, mOrV, mAndV, mNotV, mChain, mOp, T2, mSet, mSetO, mApp, mAppO, mDrop, mCall, mMeth, mMake, mFld, mSetF, mCB, mCF, mACons, mANil, mLst, mTup, mNeg, mIf, mRaise, mRetN, mFrz, mFrzF, mCell, mFro, endsD, insOf_ins, D.tru, D.ty, D.tyName, isT, mParK, mKVal, mKOwn, mKNil, setE, gNm, gTp, gC1, gN0, mIt, mItT, mRng1, mRng2, mFor, mPopO, int_i, abs_i, int2_ii, oLen, seqOf_lst, seqOf_tup, seqOf_fz, lenOf_lst, lenOf_tup, oIx, oII_ii, oIs, oIsNot, D.isN, mDIn, mDGet, mSetd, mNewD, mSortD, mSortSet, mRevL, mRetG, mSliceL, mNoP, mPart, oTupleOf, oListOf, eq_ii, ne_ii, eq_bb, ne_bb, eq_ss, ne_ss, eq_nil, ne_nil, take_ii]
      unfold cls at h
      by_cases h1 : f ≤ s
      · by_cases h2 : s ≤ la
        · rw [if_pos ⟨h1, h2⟩] at h
          exact .inr ⟨h1, .inr ⟨h2, h⟩⟩
        · rw [if_neg (fun z => h2 z.2)] at h
          exact .inr ⟨h1, .inl ⟨by omega, ih _ _ _ h⟩⟩
      · rw [if_neg (fun z => h1 z.1)] at h
        exact .inl ⟨by omega, ih _ _ _ h⟩
  exact loop rs _ _ _ q
theorem loop_dr1 {E : DEnds} {P : Store → Prop} {S : Store} {a c x4 x6 : Sl} (hP : P S) : ∀ (ks : List D) (ns : List Int) (num : Int) (x5 : Sl), 0 ≤ num → (∀ n ∈ ns, 0 ≤ n) → ns.length + ks.length ≤ 1000000 →
    (∀ (ns' : List Int) num' x5, (∀ n ∈ ns', 0 ≤ n) → ns'.length ≤ ns.length + ks.length → 0 ≤ num' → E.nx [a, .own (dI ns'), c, .val (.int num'), x4, x5, x6] S) →
    wFor (gNm 5) m__law_draws_L1 E P ks [a, .own (dI ns), c, .val (.int num), x4, x5, x6] S
  | [], ns, num, x5, h1, h2, h3, q => ⟨hP, q ns num x5 h2 (by simp) h1⟩
  | k :: ks, ns, num, x5, h1, h2, h3, q => by
    rw [wFor]
    generalize hW : wFor _ m__law_draws_L1 _ P _ = W
    simp at h3
    simp [hP, m__law_draws_L1, mSeq, mIfS, mNext, mOr, mAnd, mNot, mTru, mTst, mIsT, mVar, mOwn, mC, mRet, mOrV, mAndV, mNotV, mChain, mOp, T2, mSet, mSetO, mApp, mAppO, mDrop, mCall, mMeth, mMake, mFld, mSetF, mCB, mCF, mACons, mANil, mLst, mTup, mNeg, mIf, mRaise, mRetN, mFrz, mFrzF, mCell, mFro, endsD, insOf_ins, D.tru, D.ty, D.tyName, isT, mParK, mKVal, mKOwn, mKNil, setE, gNm, gTp, gC1, gN0, mIt, mItT, mRng1, mRng2, mFor, mPopO, int_i, abs_i, int2_ii, oLen, seqOf_lst, seqOf_tup, seqOf_fz, lenOf_lst, lenOf_tup, oIx, oII_ii, oIs, oIsNot, D.isN, mDIn, mDGet, mSetd, mNewD, mSortD, mSortSet, mRevL, mRetG, mSliceL, mNoP, mPart, oTupleOf, oListOf, eq_ii, ne_ii, eq_bb, ne_bb, eq_ss, ne_ss, eq_nil, ne_nil, take_ii]
    by_cases hn : 0 < num
    · refine .inr ⟨hn, small5 (by omega), by simp [CDiv], ?_⟩
      subst hW
      have := loop_dr1 (x4 := x4) (x6 := x6) (a := a) (c := c) hP ks (ns ++ [num % 997]) (num / 997) (.val k) (Int.ediv_nonneg h1 (by omega)) (fun n hn => ?_) (by simp; omega) fun ns' num' x5 g1 g2 g3 => q ns' num' x5 g1 (by simp at g2 ⊢; omega) g3
      · simpa using this
      · rcases List.mem_append.mp hn with h | h
        · exact h2 n h
        · rw [List.mem_singleton.mp h]; omega
    · refine .inl ⟨by omega, ?_⟩
      subst hW
      exact loop_dr1 hP ks ns num _ h1 h2 (by omega) fun ns' num' x5 g1 g2 g3 => q ns' num' x5 g1 (by simp; omega) g3
theorem loop_dr2 {E : DEnds} {P : Store → Prop} {S : Store} {a : Sl} (hP : P S) : ∀ (cs ns : List Int) (x2 x3 x4 x5 x6 : Sl), (∀ n ∈ ns, 0 ≤ n) → ns.length + 62 * cs.length ≤ 100000 →
    (∀ (ns' : List Int) x2 x3 x4 x5, (∀ n ∈ ns', 0 ≤ n) → ns'.length ≤ ns.length + 62 * cs.length → E.nx [a, .own (dI ns'), x2, x3, x4, x5, x6] S) →
    wFor (gNm 2) m__law_draws_L2 E P (dI cs) [a, .own (dI ns), x2, x3, x4, x5, x6] S
  | [], ns, x2, x3, x4, x5, x6, h2, h3, q => ⟨hP, q ns x2 x3 x4 x5 h2 (by simp)⟩
  | c :: cs, ns, x2, x3, x4, x5, x6, h2, h3, q => by
    show wFor _ _ _ _ (.int c :: dI cs) _ _
    rw [wFor]
    generalize hW : wFor _ m__law_draws_L2 _ P _ = W
    simp at h3
    simp [hP, m__law_draws_L2, mSeq, mIfS, mNext, mOr, mAnd, mNot, mTru, mTst, mIsT, mVar, mOwn, mC, mRet, mOrV, mAndV, mNotV, mChain, mOp, T2, mSet, mSetO, mApp, mAppO, mDrop, mCall, mMeth, mMake, mFld, mSetF, mCB, mCF, mACons, mANil, mLst, mTup, mNeg, mIf, mRaise, mRetN, mFrz, mFrzF, mCell, mFro, endsD, insOf_ins, D.tru, D.ty, D.tyName, isT, mParK, mKVal, mKOwn, mKNil, setE, gNm, gTp, gC1, gN0, mIt, mItT, mRng1, mRng2, mFor, mPopO, int_i, abs_i, int2_ii, oLen, seqOf_lst, seqOf_tup, seqOf_fz, lenOf_lst, lenOf_tup, oIx, oII_ii, oIs, oIsNot, D.isN, mDIn, mDGet, mSetd, mNewD, mSortD, mSortSet, mRevL, mRetG, mSliceL, mNoP, mPart, oTupleOf, oListOf, eq_ii, ne_ii, eq_bb, ne_bb, eq_ss, ne_ss, eq_nil, ne_nil, take_ii]
    have h60 : (rngD 0 60).length = 60 := by simp [rngD]
    have habs : 0 ≤ (if c < 0 then -c else c) := by split <;> omega
    generalize (if c < 0 then -c else c) = num at habs ⊢
    refine ⟨by simp [CPow], ?_⟩
    by_cases hn : num < 1000000000000000000
    · refine .inr ⟨hn, by simp [CMul], by simp [CMul], small5 (by omega), by simp [CDiv], small5 (by omega), ?_⟩
      subst hW
      have hin : ∀ n ∈ ns ++ [((num * 48271 + 11) % 2147483647 * 69621 + num) % 2147483629, ((num * 48271 + 11) % 2147483647 + num / 7) % 1000003], 0 ≤ n := fun n hn => by
        rcases List.mem_append.mp hn with h | h
        · exact h2 n h
        · simp at h
          rcases h with h | h <;> (rw [h]; omega)
      have := loop_dr1 (E := { nx := wFor (gNm 2) m__law_draws_L2 E P (dI cs), rt := E.rt, bk := E.nx, ct := wFor (gNm 2) m__law_draws_L2 E P (dI cs), ex := E.ex }) (P := fun _ => True) (S := S) (a := a) (c := .val (.int c)) (x4 := .val (.int ((num * 48271 + 11) % 2147483647))) (x6 := x6) trivial (rngD 0 60) _ 0 x5 (by omega) hin (by rw [h60]; simp; omega)
        fun ns' num' x5' g1 g2 g3 => loop_dr2 hP cs ns' _ _ _ _ _ g1 (by rw [h60] at g2; simp at g2; omega) fun ns2 x2 x3 x4 x5 k1 k2 => q ns2 x2 x3 x4 x5 k1 (by rw [h60] at g2; simp at g2 ⊢; omega)
      simpa using this
    · refine .inl ⟨by omega, ?_⟩
      subst hW
      exact loop_dr1 (E := { nx := wFor (gNm 2) m__law_draws_L2 E P (dI cs), rt := E.rt, bk := E.nx, ct := wFor (gNm 2) m__law_draws_L2 E P (dI cs), ex := E.ex }) (P := fun _ => True) trivial (rngD 0 60) ns num x5 habs h2 (by rw [h60]; omega)
        fun ns' num' x5' g1 g2 g3 => loop_dr2 hP cs ns' _ _ _ _ _ g1 (by rw [h60] at g2; omega) fun ns2 x2 x3 x4 x5 k1 k2 => q ns2 x2 x3 x4 x5 k1 (by rw [h60] at g2; simp; omega)
theorem loop_dr3 {E : DEnds} {P : Store → Prop} {S : Store} {a x2 x3 x4 : Sl} (hP : P S) : ∀ (ks : List D) (ns : List Int) (x5 : Sl) (seed : Int), (∀ n ∈ ns, 0 ≤ n) → ns.length + ks.length ≤ 1000000 →
    (∀ (ns' : List Int) x5 x6, (∀ n ∈ ns', 0 ≤ n) → E.nx [a, .own (dI ns'), x2, x3, x4, x5, x6] S) →
    wFor (gNm 5) m__law_draws_L3 E P ks [a, .own (dI ns), x2, x3, x4, x5, .val (.int seed)] S
  | [], ns, x5, seed, h2, h3, q => ⟨hP, q ns x5 _ h2⟩
  | k :: ks, ns, x5, seed, h2, h3, q => by
    rw [wFor]
    generalize hW : wFor _ m__law_draws_L3 _ P _ = W
    simp at h3
    simp [hP, m__law_draws_L3, mSeq, mIfS, mNext, mOr, mAnd, mNot, mTru, mTst, mIsT, mVar, mOwn, mC, mRet, mOrV, mAndV, mNotV, mChain, mOp, T2, mSet, mSetO, mApp, mAppO, mDrop, mCall, mMeth, mMake, mFld, mSetF, mCB, mCF, mACons, mANil, mLst, mTup, mNeg, mIf, mRaise, mRetN, mFrz, mFrzF, mCell, mFro, endsD, insOf_ins, D.tru, D.ty, D.tyName, isT, mParK, mKVal, mKOwn, mKNil, setE, gNm, gTp, gC1, gN0, mIt, mItT, mRng1, mRng2, mFor, mPopO, int_i, abs_i, int2_ii, oLen, seqOf_lst, seqOf_tup, seqOf_fz, lenOf_lst, lenOf_tup, oIx, oII_ii, oIs, oIsNot, D.isN, mDIn, mDGet, mSetd, mNewD, mSortD, mSortSet, mRevL, mRetG, mSliceL, mNoP, mPart, oTupleOf, oListOf, eq_ii, ne_ii, eq_bb, ne_bb, eq_ss, ne_ss, eq_nil, ne_nil, take_ii]
    refine ⟨by simp [CMul], by simp [CDiv], small5 (by omega), ?_⟩
    subst hW
    have := loop_dr3 (a := a) (x2 := x2) (x3 := x3) (x4 := x4) hP ks (ns ++ [(seed * 48271 + 69621) % 2147483647 / 5]) (.val k) ((seed * 48271 + 69621) % 2147483647) (fun n hn => ?_) (by simp; omega) q
    · simpa using this
    · rcases List.mem_append.mp hn with h | h
      · exact h2 n h
      · rw [List.mem_singleton.mp h]; omega
theorem data_draws : ∀ ds S Q R, sp__law_draws ds S Q R → ds.length = 1 ∧ m__law_draws (endsD Q R) (startE ["script", "draws", "cell", "number", "first", "k", "seed"] ds) S := by
  rintro ds S Q R ⟨d, cs, rfl, e, e2, hl, _, q⟩
  refine ⟨rfl, ?_⟩
  show m__law_draws (endsD Q R) [.val d, .no, .no, .no, .no, .no, .no] S
  simp [m__law_draws, mSeq, mIfS, mNext, mOr, mAnd, mNot, mTru, mTst, mIsT, mVar, mOwn, mC, mRet, mOrV, mAndV, mNotV, mChain, mOp, T2, mSet, mSetO, mApp, mAppO, mDrop, mCall, mMeth, mMake, mFld, mSetF, mCB, mCF, mACons, mANil, mLst, mTup, mNeg, mIf, mRaise, mRetN, mFrz, mFrzF, mCell, mFro, endsD, insOf_ins, D.tru, D.ty, D.tyName, isT, mParK, mKVal, mKOwn, mKNil, setE, gNm, gTp, gC1, gN0, mIt, mItT, mRng1, mRng2, mFor, mPopO, int_i, abs_i, int2_ii, oLen, seqOf_lst, seqOf_tup, seqOf_fz, lenOf_lst, lenOf_tup, oIx, oII_ii, oIs, oIsNot, D.isN, mDIn, mDGet, mSetd, mNewD, mSortD, mSortSet, mRevL, mRetG, mSliceL, mNoP, mPart, oTupleOf, oListOf, eq_ii, ne_ii, eq_bb, ne_bb, eq_ss, ne_ss, eq_nil, ne_nil, take_ii]
  refine ⟨_, e, ?_⟩
  have h900 : (rngD 0 900).length = 900 := by simp [rngD]
  have fin : ∀ (ns : List Int) x2 x3 x4 x5 x6, (∀ n ∈ ns, 0 ≤ n) → m__law_draws_R1 { nx := fun x S => Q D.non S, rt := Q, ex := fun c x S => R c S } [.val d, .own (dI ns), x2, x3, x4, x5, x6] S := fun ns x2 x3 x4 x5 x6 nn => by
    simp [m__law_draws_R1, lstOf, mSeq, mIfS, mNext, mOr, mAnd, mNot, mTru, mTst, mIsT, mVar, mOwn, mC, mRet, mOrV, mAndV, mNotV, mChain, mOp, T2, mSet, mSetO, mApp, mAppO, mDrop, mCall, mMeth, mMake, mFld, mSetF, mCB, mCF, mACons, mANil, mLst, mTup, mNeg, mIf, mRaise, mRetN, mFrz, mFrzF, mCell, mFro, endsD, insOf_ins, D.tru, D.ty, D.tyName, isT, mParK, mKVal, mKOwn, mKNil, setE, gNm, gTp, gC1, gN0, mIt, mItT, mRng1, mRng2, mFor, mPopO, int_i, abs_i, int2_ii, oLen, seqOf_lst, seqOf_tup, seqOf_fz, lenOf_lst, lenOf_tup, oIx, oII_ii, oIs, oIsNot, D.isN, mDIn, mDGet, mSetd, mNewD, mSortD, mSortSet, mRevL, mRetG, mSliceL, mNoP, mPart, oTupleOf, oListOf, eq_ii, ne_ii, eq_bb, ne_bb, eq_ss, ne_ss, eq_nil, ne_nil, take_ii]
    exact ⟨ns.reverse, by rw [List.map_reverse], fun n hn => nn n (List.mem_reverse.mp hn), fun p hp => q p hp⟩
  have := loop_dr2 (E := { nx := fun env' S' => m__law_draws_R2 { nx := fun x S => Q D.non S, rt := Q, ex := fun c x S => R c S } env' S', rt := Q, ex := fun c x S => R c S }) (P := fun S' => itOf S' d = some (dI cs)) (S := S) (a := .val d) e cs [] .no .no .no .no .no (by simp) (by simp; omega) fun ns x2 x3 x4 x5 nn hlen => by
    simp [m__law_draws_R2, mSeq, mIfS, mNext, mOr, mAnd, mNot, mTru, mTst, mIsT, mVar, mOwn, mC, mRet, mOrV, mAndV, mNotV, mChain, mOp, T2, mSet, mSetO, mApp, mAppO, mDrop, mCall, mMeth, mMake, mFld, mSetF, mCB, mCF, mACons, mANil, mLst, mTup, mNeg, mIf, mRaise, mRetN, mFrz, mFrzF, mCell, mFro, endsD, insOf_ins, D.tru, D.ty, D.tyName, isT, mParK, mKVal, mKOwn, mKNil, setE, gNm, gTp, gC1, gN0, mIt, mItT, mRng1, mRng2, mFor, mPopO, int_i, abs_i, int2_ii, oLen, seqOf_lst, seqOf_tup, seqOf_fz, lenOf_lst, lenOf_tup, oIx, oII_ii, oIs, oIsNot, D.isN, mDIn, mDGet, mSetd, mNewD, mSortD, mSortSet, mRevL, mRetG, mSliceL, mNoP, mPart, oTupleOf, oListOf, eq_ii, ne_ii, eq_bb, ne_bb, eq_ss, ne_ss, eq_nil, ne_nil, take_ii]
    refine ⟨_, lenOf_seq e2, ?_⟩
    rw [List.length_map]
    have go : ∀ seed, wFor (gNm 5) m__law_draws_L3 { nx := fun env' S' => m__law_draws_R1 { nx := fun x S => Q D.non S, rt := Q, ex := fun c x S => R c S } env' S', rt := Q, ex := fun c x S => R c S } (fun x => True) (rngD 0 900) [Sl.val d, Sl.own (dI ns), x2, x3, x4, x5, Sl.val (D.int seed)] S := fun seed =>
      loop_dr3 trivial _ ns x5 seed nn (by rw [h900]; simp at hlen; omega) fun ns' x5 x6 nn' => fin ns' _ _ _ _ _ nn'
    by_cases h : cs = []
    · subst h
      exact .inl ⟨rfl, go _⟩
    · refine .inr ⟨List.length_pos_iff.mpr h, ?_⟩
      obtain ⟨c0, hc⟩ : ∃ c0, cs[0]? = some c0 := ⟨_, List.getElem?_eq_getElem (List.length_pos_iff.mpr h)⟩
      refine ⟨_, e2, .int c0, L2.atI_nat (show (dI cs)[0]? = some (.int c0) by rw [List.getElem?_map, hc]; rfl), ?_⟩
      simpa [abs_i, oII_ii, T2] using go _
  simpa using this
end K01


set_option Elab.async false
set_option linter.all false
set_option maxRecDepth 100000
set_option maxHeartbeats 1000000
namespace K01
open PySem PySem.Spec PyProof.Rows L2 DL
theorem rng_mem {n : Nat} {d : D} (h : d ∈ rngD 0 n) : ∃ i : Nat, i < n ∧ d = .int i := by
  unfold rngD at h
  obtain ⟨i, hi, rfl⟩ := List.mem_map.mp h
  exact ⟨i, List.mem_range.mp hi, by simp⟩
theorem al_row {n : Nat} {S : Store} {f d : D} {l l' : List D} (hf : seqOf S f = some l) (hd : seqOf S d = some l') (hl : l.length = l'.length) (h : ∀ (i : Nat) x y, l[i]? = some x → l'[i]? = some y → Al n S x y) (hn : l.length ≤ 1000) {Q : List D → Store → Prop} (q : Q [] S) :
    wComp (gNm 2) (m__law_alike_C1t n) (m__law_alike_C1e n) (fun _ => True) (rngD 0 l'.length) [] [.val f, .val d, .no] S Q := by
  refine wComp_filter (fun _ => false) id trivial _ [] (fun k hk Ke Kn hq => ?_) (by simp [rngD]; exact small4 (by omega)) (by rw [List.filter_eq_nil_iff.mpr (by simp)]; simpa using q)
  obtain ⟨i, hi, rfl⟩ := rng_mem hk
  obtain ⟨x, hx⟩ : ∃ x, l[i]? = some x := ⟨_, List.getElem?_eq_getElem (by omega)⟩
  obtain ⟨y, hy⟩ : ∃ y, l'[i]? = some y := ⟨_, List.getElem?_eq_getElem hi⟩
  simp [m__law_alike_C1t, sp__law_alike, mSeq, mIfS, mNext, mOr, mAnd, mNot, mTru, mTst, mIsT, mVar, mOwn, mC, mRet, mOrV, mAndV, mNotV, mChain, mOp, T2, mSet, mSetO, mApp, mAppO, mDrop, mCall, mMeth, mMake, mFld, mSetF, mCB, mCF, mACons, mANil, mLst, mTup, mNeg, mIf, mRaise, mRetN, mFrz, mFrzF, mCell, mFro, endsD, insOf_ins, D.tru, D.ty, D.tyName, isT, mParK, mKVal, mKOwn, mKNil, setE, gNm, gTp, gC1, gN0, mIt, mItT, mRng1, mRng2, mFor, mPopO, int_i, abs_i, int2_ii, oLen, seqOf_lst, seqOf_tup, seqOf_fz, lenOf_lst, lenOf_tup, oIx, oII_ii, oIs, oIsNot, D.isN, mDIn, mDGet, mSetd, mNewD, mSortD, mSortSet, mRevL, mRetG, mSliceL, mNoP, mPart, oTupleOf, oListOf, eq_ii, ne_ii, eq_bb, ne_bb, eq_ss, ne_ss, eq_nil, ne_nil, take_ii]
  refine ⟨_, hf, x, L2.atI_nat hx, _, hd, y, L2.atI_nat hy, x, y, ⟨rfl, rfl⟩, h i x y hx hy, ?_⟩
  simpa using hq
theorem data_alike (n : Nat) : ∀ ds S Q R, sp__law_alike (n + 1) ds S Q R → ds.length = 2 ∧ m__law_alike n (endsD Q R) (startE ["found", "due", "k"] ds) S := by
  rintro ds S Q R ⟨f, d, rfl, h, q⟩
  refine ⟨rfl, ?_⟩
  show m__law_alike n (endsD Q R) [.val f, .val d, .no] S
  rcases h with ⟨rfl, h⟩ | ⟨l, l', rfl, hf, hl, hn, h⟩ | ⟨l, l', rfl, rfl, hl, hn, h⟩
  · rcases h with rfl | ⟨b, rfl⟩ | ⟨i, rfl⟩ | ⟨x, rfl, hx⟩
    · simpa [m__law_alike, mSeq, mIfS, mNext, mOr, mAnd, mNot, mTru, mTst, mIsT, mVar, mOwn, mC, mRet, mOrV, mAndV, mNotV, mChain, mOp, T2, mSet, mSetO, mApp, mAppO, mDrop, mCall, mMeth, mMake, mFld, mSetF, mCB, mCF, mACons, mANil, mLst, mTup, mNeg, mIf, mRaise, mRetN, mFrz, mFrzF, mCell, mFro, endsD, insOf_ins, D.tru, D.ty, D.tyName, isT, mParK, mKVal, mKOwn, mKNil, setE, gNm, gTp, gC1, gN0, mIt, mItT, mRng1, mRng2, mFor, mPopO, int_i, abs_i, int2_ii, oLen, seqOf_lst, seqOf_tup, seqOf_fz, lenOf_lst, lenOf_tup, oIx, oII_ii, oIs, oIsNot, D.isN, mDIn, mDGet, mSetd, mNewD, mSortD, mSortSet, mRevL, mRetG, mSliceL, mNoP, mPart, oTupleOf, oListOf, eq_ii, ne_ii, eq_bb, ne_bb, eq_ss, ne_ss, eq_nil, ne_nil, take_ii] using q
    · simpa [m__law_alike, mSeq, mIfS, mNext, mOr, mAnd, mNot, mTru, mTst, mIsT, mVar, mOwn, mC, mRet, mOrV, mAndV, mNotV, mChain, mOp, T2, mSet, mSetO, mApp, mAppO, mDrop, mCall, mMeth, mMake, mFld, mSetF, mCB, mCF, mACons, mANil, mLst, mTup, mNeg, mIf, mRaise, mRetN, mFrz, mFrzF, mCell, mFro, endsD, insOf_ins, D.tru, D.ty, D.tyName, isT, mParK, mKVal, mKOwn, mKNil, setE, gNm, gTp, gC1, gN0, mIt, mItT, mRng1, mRng2, mFor, mPopO, int_i, abs_i, int2_ii, oLen, seqOf_lst, seqOf_tup, seqOf_fz, lenOf_lst, lenOf_tup, oIx, oII_ii, oIs, oIsNot, D.isN, mDIn, mDGet, mSetd, mNewD, mSortD, mSortSet, mRevL, mRetG, mSliceL, mNoP, mPart, oTupleOf, oListOf, eq_ii, ne_ii, eq_bb, ne_bb, eq_ss, ne_ss, eq_nil, ne_nil, take_ii] using q
    · simpa [m__law_alike, mSeq, mIfS, mNext, mOr, mAnd, mNot, mTru, mTst, mIsT, mVar, mOwn, mC, mRet, mOrV, mAndV, mNotV, mChain, mOp, T2, mSet, mSetO, mApp, mAppO, mDrop, mCall, mMeth, mMake, mFld, mSetF, mCB, mCF, mACons, mANil, mLst, mTup, mNeg, mIf, mRaise, mRetN, mFrz, mFrzF, mCell, mFro, endsD, insOf_ins, D.tru, D.ty, D.tyName, isT, mParK, mKVal, mKOwn, mKNil, setE, gNm, gTp, gC1, gN0, mIt, mItT, mRng1, mRng2, mFor, mPopO, int_i, abs_i, int2_ii, oLen, seqOf_lst, seqOf_tup, seqOf_fz, lenOf_lst, lenOf_tup, oIx, oII_ii, oIs, oIsNot, D.isN, mDIn, mDGet, mSetd, mNewD, mSortD, mSortSet, mRevL, mRetG, mSliceL, mNoP, mPart, oTupleOf, oListOf, eq_ii, ne_ii, eq_bb, ne_bb, eq_ss, ne_ss, eq_nil, ne_nil, take_ii] using q
    · simpa [m__law_alike, hx, mSeq, mIfS, mNext, mOr, mAnd, mNot, mTru, mTst, mIsT, mVar, mOwn, mC, mRet, mOrV, mAndV, mNotV, mChain, mOp, T2, mSet, mSetO, mApp, mAppO, mDrop, mCall, mMeth, mMake, mFld, mSetF, mCB, mCF, mACons, mANil, mLst, mTup, mNeg, mIf, mRaise, mRetN, mFrz, mFrzF, mCell, mFro, endsD, insOf_ins, D.tru, D.ty, D.tyName, isT, mParK, mKVal, mKOwn, mKNil, setE, gNm, gTp, gC1, gN0, mIt, mItT, mRng1, mRng2, mFor, mPopO, int_i, abs_i, int2_ii, oLen, seqOf_lst, seqOf_tup, seqOf_fz, lenOf_lst, lenOf_tup, oIx, oII_ii, oIs, oIsNot, D.isN, mDIn, mDGet, mSetd, mNewD, mSortD, mSortSet, mRevL, mRetG, mSliceL, mNoP, mPart, oTupleOf, oListOf, eq_ii, ne_ii, eq_bb, ne_bb, eq_ss, ne_ss, eq_nil, ne_nil, take_ii] using q
  · rcases hf with rfl | ⟨a, rfl, hs⟩
    · simp [m__law_alike, mComp, wipeE, hl, mSeq, mIfS, mNext, mOr, mAnd, mNot, mTru, mTst, mIsT, mVar, mOwn, mC, mRet, mOrV, mAndV, mNotV, mChain, mOp, T2, mSet, mSetO, mApp, mAppO, mDrop, mCall, mMeth, mMake, mFld, mSetF, mCB, mCF, mACons, mANil, mLst, mTup, mNeg, mIf, mRaise, mRetN, mFrz, mFrzF, mCell, mFro, endsD, insOf_ins, D.tru, D.ty, D.tyName, isT, mParK, mKVal, mKOwn, mKNil, setE, gNm, gTp, gC1, gN0, mIt, mItT, mRng1, mRng2, mFor, mPopO, int_i, abs_i, int2_ii, oLen, seqOf_lst, seqOf_tup, seqOf_fz, lenOf_lst, lenOf_tup, oIx, oII_ii, oIs, oIsNot, D.isN, mDIn, mDGet, mSetd, mNewD, mSortD, mSortSet, mRevL, mRetG, mSliceL, mNoP, mPart, oTupleOf, oListOf, eq_ii, ne_ii, eq_bb, ne_bb, eq_ss, ne_ss, eq_nil, ne_nil, take_ii]
      exact ⟨by omega, al_row rfl rfl hl h hn ⟨by simp, q⟩⟩
    · have e : seqOf S (.obj a) = some l := by simp [seqOf, hs]
      simp [m__law_alike, mComp, wipeE, hl, hs, mSeq, mIfS, mNext, mOr, mAnd, mNot, mTru, mTst, mIsT, mVar, mOwn, mC, mRet, mOrV, mAndV, mNotV, mChain, mOp, T2, mSet, mSetO, mApp, mAppO, mDrop, mCall, mMeth, mMake, mFld, mSetF, mCB, mCF, mACons, mANil, mLst, mTup, mNeg, mIf, mRaise, mRetN, mFrz, mFrzF, mCell, mFro, endsD, insOf_ins, D.tru, D.ty, D.tyName, isT, mParK, mKVal, mKOwn, mKNil, setE, gNm, gTp, gC1, gN0, mIt, mItT, mRng1, mRng2, mFor, mPopO, int_i, abs_i, int2_ii, oLen, seqOf_lst, seqOf_tup, seqOf_fz, lenOf_lst, lenOf_tup, oIx, oII_ii, oIs, oIsNot, D.isN, mDIn, mDGet, mSetd, mNewD, mSortD, mSortSet, mRevL, mRetG, mSliceL, mNoP, mPart, oTupleOf, oListOf, eq_ii, ne_ii, eq_bb, ne_bb, eq_ss, ne_ss, eq_nil, ne_nil, take_ii]
      exact ⟨_, lenOf_seq e, .inr ⟨by omega, by omega, al_row e rfl hl h hn ⟨by simp, q⟩⟩⟩
  · simp [m__law_alike, mComp, wipeE, hl, mSeq, mIfS, mNext, mOr, mAnd, mNot, mTru, mTst, mIsT, mVar, mOwn, mC, mRet, mOrV, mAndV, mNotV, mChain, mOp, T2, mSet, mSetO, mApp, mAppO, mDrop, mCall, mMeth, mMake, mFld, mSetF, mCB, mCF, mACons, mANil, mLst, mTup, mNeg, mIf, mRaise, mRetN, mFrz, mFrzF, mCell, mFro, endsD, insOf_ins, D.tru, D.ty, D.tyName, isT, mParK, mKVal, mKOwn, mKNil, setE, gNm, gTp, gC1, gN0, mIt, mItT, mRng1, mRng2, mFor, mPopO, int_i, abs_i, int2_ii, oLen, seqOf_lst, seqOf_tup, seqOf_fz, lenOf_lst, lenOf_tup, oIx, oII_ii, oIs, oIsNot, D.isN, mDIn, mDGet, mSetd, mNewD, mSortD, mSortSet, mRevL, mRetG, mSliceL, mNoP, mPart, oTupleOf, oListOf, eq_ii, ne_ii, eq_bb, ne_bb, eq_ss, ne_ss, eq_nil, ne_nil, take_ii]
    exact ⟨by omega, al_row rfl rfl hl h hn ⟨by simp, q⟩⟩
/-! the ranges that are drawn: first are raw ones, then cut at the gap -/
structure Raw (b : Int) (r : R3) : Prop where
  f : b < r.1
  g : ¬ (55296 ≤ r.1 ∧ r.1 ≤ 57343)
  le : r.1 ≤ r.2.1
  l : r.2.1 < 1114112
def cutR (r : R3) : R3 := (r.1, (if r.1 < 55296 then (if 55295 < r.2.1 then 55295 else r.2.1) else r.2.1), r.2.2)
def rawR : Int → List R3 → Bool
  | _, [] => true
  | b, r :: rs => decide (b < r.1) && decide (¬ (55296 ≤ r.1 ∧ r.1 ≤ 57343)) && decide (r.1 ≤ r.2.1) && decide (r.2.1 < 1114112) && rawR r.2.1 rs
theorem raw_ok : ∀ {rs : List R3} {b b' : Int}, rawR b rs = true → b' ≤ b → -1 ≤ b → okR b' (rs.map cutR) = true
  | [], _, _, _, _, _ => rfl
  | r :: rs, b, b', h, hb, h0 => by
    simp [rawR] at h
    obtain ⟨⟨⟨⟨h1, h2⟩, h3⟩, h4⟩, h5⟩ := h
    have := raw_ok (b' := (cutR r).2.1) h5 (by simp only [cutR]; split <;> (try split) <;> omega) (by omega)
    simp [okR, this]
    simp only [cutR, isSign]
    refine ⟨⟨⟨?_, ?_⟩, ?_⟩, by omega⟩
    · exact decide_eq_true (by omega)
    · split <;> (try split) <;> exact decide_eq_true (by omega)
    · split <;> (try split) <;> omega
theorem raw_app : ∀ {rs : List R3} {b x : Int} {r : R3}, rawR b rs = true → (∀ y ∈ rs, y.2.1 < x) → b < x → r.1 = x → ¬ (55296 ≤ x ∧ x ≤ 57343) → x ≤ r.2.1 → r.2.1 < 1114112 → rawR b (rs ++ [r]) = true
  | [], b, x, r, _, _, h1, h2, h3, h4, h5 => by subst h2; simp [rawR, h1, h4, h5]; omega
  | y :: rs, b, x, r, h, k, h1, h2, h3, h4, h5 => by
    simp [rawR] at h
    obtain ⟨g1, g5⟩ := h
    have := raw_app (r := r) g5 (fun z hz => k z (List.mem_cons_of_mem _ hz)) (k y List.mem_cons_self) h2 h3 h4 h5
    simp [rawR, this, g1]
theorem loop_ranges {E : DEnds} {P : Store → Prop} {S : Store} {p : Addr} {c : Int} {m : Sl} (hP : P S) (hg : S p = some .gen) (hc : 0 < c) : ∀ (ks : List D) (rs : List R3) (x : Int) (x5 x6 : Sl), rawR (-1) rs = true → (∀ y ∈ rs, y.2.1 < x) → (∀ r ∈ rs, 0 ≤ r.2.2 ∧ r.2.2 < c) → 0 ≤ x → ¬ (55296 ≤ x ∧ x ≤ 57343) → rs.length + ks.length ≤ 1000 →
    (∀ (rs' : List R3) x x5 x6, rawR (-1) rs' = true → (∀ r ∈ rs', 0 ≤ r.2.2 ∧ r.2.2 < c) → rs'.length ≤ rs.length + ks.length → E.nx [.val (.obj p), .val (.int c), m, .own (dR rs'), x, x5, x6, .no] S) →
    wFor (gNm 5) m__law_ranges_L1 E P ks [.val (.obj p), .val (.int c), m, .own (dR rs), .val (.int x), x5, x6, .no] S
  | [], rs, x, x5, x6, h1, h2, h3, h4, h5, h6, q => ⟨hP, q rs _ x5 x6 h1 h3 (by simp)⟩
  | k :: ks, rs, x, x5, x6, h1, h2, h3, h4, h5, h6, q => by
    rw [wFor]
    generalize hW : wFor _ m__law_ranges_L1 _ P _ = W
    simp at h6
    simp [hP, m__law_ranges_L1, mSeq, mIfS, mNext, mOr, mAnd, mNot, mTru, mTst, mIsT, mVar, mOwn, mC, mRet, mOrV, mAndV, mNotV, mChain, mOp, T2, mSet, mSetO, mApp, mAppO, mDrop, mCall, mMeth, mMake, mFld, mSetF, mCB, mCF, mACons, mANil, mLst, mTup, mNeg, mIf, mRaise, mRetN, mFrz, mFrzF, mCell, mFro, endsD, insOf_ins, D.tru, D.ty, D.tyName, isT, mParK, mKVal, mKOwn, mKNil, setE, gNm, gTp, gC1, gN0, mIt, mItT, mRng1, mRng2, mFor, mPopO, int_i, abs_i, int2_ii, oLen, seqOf_lst, seqOf_tup, seqOf_fz, lenOf_lst, lenOf_tup, oIx, oII_ii, oIs, oIsNot, D.isN, mDIn, mDGet, mSetd, mNewD, mSortD, mSortSet, mRevL, mRetG, mSliceL, mNoP, mPart, oTupleOf, oListOf, eq_ii, ne_ii, eq_bb, ne_bb, eq_ss, ne_ss, eq_nil, ne_nil, take_ii]
    refine ⟨small4 (by omega), hg, fun a1 b1 b1' => ?_⟩
    obtain ⟨v, hv, ev⟩ := atI_ints (l := [1, 3, 40, 700]) b1 (by simpa using b1')
    have hv1 : 0 < v := by simp at hv; omega
    refine ⟨_, ev, take_ii.mpr ⟨hg, hv1, fun r r0 r1 => ?_⟩⟩
    simp only [oII_ii, T2, true_and]
    by_cases hlt : x + r < 1114112
    · refine .inr ⟨by simp [hlt], hg, hc, fun cl0 d0 d1 => ⟨small4 (by omega), small5 (by omega), ?_⟩⟩
      have e1 : rawR (-1) (rs ++ [(x, x + r, cl0)]) = true := raw_app h1 h2 (by omega) rfl h5 (by simp; omega) (by simpa using hlt)
      have e2 : ∀ z ∈ rs ++ [(x, x + r, cl0)], z.2.1 < x + r + 1 := fun z hz => by
        rcases List.mem_append.mp hz with h | h
        · have := h2 z h; omega
        · rw [List.mem_singleton.mp h]; simp; omega
      have e3 : ∀ z ∈ rs ++ [(x, x + r, cl0)], 0 ≤ z.2.2 ∧ z.2.2 < c := fun z hz => by
        rcases List.mem_append.mp hz with h | h
        · exact h3 z h
        · rw [List.mem_singleton.mp h]; exact ⟨d0, d1⟩
      have eD : dR rs ++ [D.tup [.int x, .int (x + r), .int cl0]] = dR (rs ++ [(x, x + r, cl0)]) := by simp [tr]
      refine ⟨small4 (by omega), hg, fun a2 b2 b2' => ?_⟩
      obtain ⟨u, hu, eu⟩ := atI_ints (l := [1, 2, 50, 4000]) b2 (by simpa using b2')
      have hu1 : 0 < u := by simp at hu; omega
      refine ⟨_, eu, take_ii.mpr ⟨hg, hu1, fun g g0 g1 => ?_⟩⟩
      simp only [oII_ii, T2, true_and]
      have next : ∀ y : Int, x + r < y → 0 ≤ y → ¬ (55296 ≤ y ∧ y ≤ 57343) → W [.val (.obj p), .val (.int c), m, .own (dR (rs ++ [(x, x + r, cl0)])), .val (.int y), .val k, .val (.int (x + r)), .no] S := fun y y1 y2 y3 => by
        subst hW
        exact loop_ranges hP hg hc ks (rs ++ [(x, x + r, cl0)]) y _ _ e1 (fun z hz => by have := e2 z hz; omega) e3 y2 y3 (by first | omega | (simp; omega)) fun rs' x x5 x6 q1 q2 q3 => q rs' x x5 x6 q1 q2 (by simp at q3 ⊢; omega)
      by_cases c1 : 55296 ≤ x + r + 1 + g
      · refine .inr ⟨by simp [c1], ?_⟩
        by_cases c2 : x + r + 1 + g ≤ 57343
        · exact .inr ⟨by simp [c2], by simpa [eD] using next (57344) (by omega) (by omega) (by omega)⟩
        · exact .inl ⟨by simp [c2], by simpa [eD] using next (x + r + 1 + g) (by omega) (by omega) (by omega)⟩
      · exact .inl ⟨by simp [c1], by simpa [eD] using next (x + r + 1 + g) (by omega) (by omega) (by omega)⟩
    · refine .inl ⟨by simp; omega, ?_⟩
      refine ⟨small4 (by omega), hg, fun a2 b2 b2' => ?_⟩
      obtain ⟨u, hu, eu⟩ := atI_ints (l := [1, 2, 50, 4000]) b2 (by simpa using b2')
      have hu1 : 0 < u := by simp at hu; omega
      refine ⟨_, eu, take_ii.mpr ⟨hg, hu1, fun g g0 g1 => ?_⟩⟩
      simp only [oII_ii, T2, true_and]
      have next : ∀ y : Int, x + r < y → 0 ≤ y → ¬ (55296 ≤ y ∧ y ≤ 57343) → W [.val (.obj p), .val (.int c), m, .own (dR rs), .val (.int y), .val k, .val (.int (x + r)), .no] S := fun y y1 y2 y3 => by
        subst hW
        exact loop_ranges hP hg hc ks rs y _ _ h1 (fun z hz => by have := h2 z hz; omega) h3 y2 y3 (by first | omega | (simp; omega)) fun rs' x x5 x6 q1 q2 q3 => q rs' x x5 x6 q1 q2 (by simp at q3 ⊢; omega)
      by_cases c1 : 55296 ≤ x + r + 1 + g
      · refine .inr ⟨by simp [c1], ?_⟩
        by_cases c2 : x + r + 1 + g ≤ 57343
        · exact .inr ⟨by simp [c2], by simpa using next (57344) (by omega) (by omega) (by omega)⟩
        · exact .inl ⟨by simp [c2], by simpa using next (x + r + 1 + g) (by omega) (by omega) (by omega)⟩
      · exact .inl ⟨by simp [c1], by simpa using next (x + r + 1 + g) (by omega) (by omega) (by omega)⟩
theorem data_ranges : ∀ ds S Q R, sp__law_ranges ds S Q R → ds.length = 3 ∧ m__law_ranges (endsD Q R) (startE ["draws", "count", "many", "found", "first", "turn", "last", "number"] ds) S := by
  rintro ds S Q R ⟨p, c, m, rfl, hg, hc, hm0, hm, q⟩
  refine ⟨rfl, ?_⟩
  show m__law_ranges (endsD Q R) [.val (.obj p), .val (.int c), .val (.int m), .no, .no, .no, .no, .no] S
  simp [m__law_ranges, mSeq, mIfS, mNext, mOr, mAnd, mNot, mTru, mTst, mIsT, mVar, mOwn, mC, mRet, mOrV, mAndV, mNotV, mChain, mOp, T2, mSet, mSetO, mApp, mAppO, mDrop, mCall, mMeth, mMake, mFld, mSetF, mCB, mCF, mACons, mANil, mLst, mTup, mNeg, mIf, mRaise, mRetN, mFrz, mFrzF, mCell, mFro, endsD, insOf_ins, D.tru, D.ty, D.tyName, isT, mParK, mKVal, mKOwn, mKNil, setE, gNm, gTp, gC1, gN0, mIt, mItT, mRng1, mRng2, mFor, mPopO, int_i, abs_i, int2_ii, oLen, seqOf_lst, seqOf_tup, seqOf_fz, lenOf_lst, lenOf_tup, oIx, oII_ii, oIs, oIsNot, D.isN, mDIn, mDGet, mSetd, mNewD, mSortD, mSortSet, mRevL, mRetG, mSliceL, mNoP, mPart, oTupleOf, oListOf, eq_ii, ne_ii, eq_bb, ne_bb, eq_ss, ne_ss, eq_nil, ne_nil, take_ii]
  refine ⟨hg, fun x x0 x1 => ⟨by omega, by omega, ?_⟩⟩
  have hr : (rngD 0 m.toNat).length = m.toNat := by simp [rngD]
  have fin : ∀ (rs : List R3) x x5 x6, rawR (-1) rs = true → (∀ r ∈ rs, 0 ≤ r.2.2 ∧ r.2.2 < c) → rs.length ≤ m.toNat → m__law_ranges_R1 { nx := fun x S => Q D.non S, rt := Q, ex := fun c x S => R c S } [.val (.obj p), .val (.int c), .val (.int m), .own (dR rs), x, x5, x6, .no] S := fun rs x x5 x6 g1 g2 g3 => by
    simp [m__law_ranges_R1, mComp, wipeE, mSeq, mIfS, mNext, mOr, mAnd, mNot, mTru, mTst, mIsT, mVar, mOwn, mC, mRet, mOrV, mAndV, mNotV, mChain, mOp, T2, mSet, mSetO, mApp, mAppO, mDrop, mCall, mMeth, mMake, mFld, mSetF, mCB, mCF, mACons, mANil, mLst, mTup, mNeg, mIf, mRaise, mRetN, mFrz, mFrzF, mCell, mFro, endsD, insOf_ins, D.tru, D.ty, D.tyName, isT, mParK, mKVal, mKOwn, mKNil, setE, gNm, gTp, gC1, gN0, mIt, mItT, mRng1, mRng2, mFor, mPopO, int_i, abs_i, int2_ii, oLen, seqOf_lst, seqOf_tup, seqOf_fz, lenOf_lst, lenOf_tup, oIx, oII_ii, oIs, oIsNot, D.isN, mDIn, mDGet, mSetd, mNewD, mSortD, mSortSet, mRevL, mRetG, mSliceL, mNoP, mPart, oTupleOf, oListOf, eq_ii, ne_ii, eq_bb, ne_bb, eq_ss, ne_ss, eq_nil, ne_nil, take_ii]
    refine ⟨_, rfl, wComp_map (fun d => match d with | .tup [.int f, .int l, .int v] => tr (cutR (f, l, v)) | d => d) (by rfl) (dR rs) [] (fun d hd Ke hk => ?_) (by simpa using small4 (n := rs.length) (by omega)) ?_⟩
    · obtain ⟨⟨f, l, v⟩, _, rfl⟩ := List.mem_map.mp hd
      simp [m__law_ranges_C1e, tr, mSeq, mIfS, mNext, mOr, mAnd, mNot, mTru, mTst, mIsT, mVar, mOwn, mC, mRet, mOrV, mAndV, mNotV, mChain, mOp, T2, mSet, mSetO, mApp, mAppO, mDrop, mCall, mMeth, mMake, mFld, mSetF, mCB, mCF, mACons, mANil, mLst, mTup, mNeg, mIf, mRaise, mRetN, mFrz, mFrzF, mCell, mFro, endsD, insOf_ins, D.tru, D.ty, D.tyName, isT, mParK, mKVal, mKOwn, mKNil, setE, gNm, gTp, gC1, gN0, mIt, mItT, mRng1, mRng2, mFor, mPopO, int_i, abs_i, int2_ii, oLen, seqOf_lst, seqOf_tup, seqOf_fz, lenOf_lst, lenOf_tup, oIx, oII_ii, oIs, oIsNot, D.isN, mDIn, mDGet, mSetd, mNewD, mSortD, mSortSet, mRevL, mRetG, mSliceL, mNoP, mPart, oTupleOf, oListOf, eq_ii, ne_ii, eq_bb, ne_bb, eq_ss, ne_ss, eq_nil, ne_nil, take_ii]
      simp [tr, cutR] at hk
      by_cases h1 : f < 55296
      · refine .inr ⟨h1, small4 (by omega), ?_⟩
        simpa [h1] using hk
      · refine .inl ⟨by omega, small4 (by omega), ?_⟩
        simpa [h1] using hk
    · have := q (rs.map cutR) (raw_ok g1 (by omega) (by omega)) (fun r hr => by
        obtain ⟨r', h', rfl⟩ := List.mem_map.mp hr
        exact g2 r' h') (by simp; omega)
      simpa [Function.comp_def, tr] using this
  have := loop_ranges (E := { nx := fun env' S' => m__law_ranges_R1 { nx := fun x S => Q D.non S, rt := Q, ex := fun c x S => R c S } env' S', rt := Q, ex := fun c x S => R c S }) (P := fun _ => True) (S := S) (p := p) (c := c) (m := .val (.int m)) trivial hg hc (rngD 0 m.toNat) [] x .no .no rfl (by simp) (by simp) x0 (by omega) (by simp [hr]; omega) fun rs' x x5 x6 g1 g2 g3 => fin rs' x x5 x6 g1 g2 (by simpa [hr] using g3)
  simpa using this
end K01


set_option Elab.async false
set_option linter.all false
set_option maxRecDepth 100000
set_option maxHeartbeats 1000000
namespace K01
open PySem PySem.Spec PyProof.Rows L2 DL
/-! the least sign of a class -/
def firsts (n : Int) (rs : List R3) : List Int := (rs.filter fun r => decide (r.2.2 = n)).map (·.1)
theorem cls_mem {rs : List R3} {s : Int} (ok2 : rs.Pairwise fun x y => x.2.1 < y.1) {r : R3} (hr : r ∈ rs) (h1 : r.1 ≤ s) (h2 : s ≤ r.2.1) (le : ∀ x ∈ rs, x.1 ≤ x.2.1) : cls rs s = r.2.2 := by
  obtain ⟨i, hi⟩ := List.mem_iff_getElem?.mp hr
  exact cls_at (fun j y hj hy => by have := pw_get ok2 hy hi hj; omega) hi h1 h2
theorem cls_cov {s : Int} : ∀ {rs : List R3}, (∃ r ∈ rs, r.1 ≤ s ∧ s ≤ r.2.1 ∧ cls rs s = r.2.2) ∨ (cls rs s = 0 ∧ ∀ r ∈ rs, ¬ (r.1 ≤ s ∧ s ≤ r.2.1))
  | [] => .inr ⟨rfl, by simp⟩
  | r :: rs => by
    by_cases h : r.1 ≤ s ∧ s ≤ r.2.1
    · exact .inl ⟨r, List.mem_cons_self, h.1, h.2, by unfold cls; rw [if_pos h]⟩
    · have e : cls (r :: rs) s = cls rs s := by show (if r.1 ≤ s ∧ s ≤ r.2.1 then r.2.2 else cls rs s) = _; rw [if_neg h]
      rcases cls_cov (s := s) (rs := rs) with ⟨x, hx, h1, h2, h3⟩ | ⟨h1, h2⟩
      · exact .inl ⟨x, List.mem_cons_of_mem _ hx, h1, h2, e.trans h3⟩
      · refine .inr ⟨e.trans h1, fun x hx => ?_⟩
        rcases List.mem_cons.mp hx with hx | hx
        · rw [hx]; exact h
        · exact h2 x hx
/-- all that can be the least -/
structure Cand (rs : List R3) (n : Int) (ns : List Int) : Prop where
  ok : ∀ x ∈ ns, isSign x = true ∧ cls rs x = n
  all : ∀ s, isSign s = true → cls rs s = n → ∃ x ∈ ns, x ≤ s
theorem Cand.none {rs : List R3} {n : Int} (h : Cand rs n []) : Least rs n none := ⟨fun s h1 h2 => by obtain ⟨x, hx, _⟩ := h.all s h1 h2; simp at hx, fun z e => by cases e⟩
theorem Cand.some {rs : List R3} {n m : Int} {ns : List Int} (h : Cand rs n ns) (hm : m ∈ ns) (le : ∀ y ∈ ns, m ≤ y) : Least rs n (some m) :=
  ⟨fun s h1 h2 => by obtain ⟨x, hx, hl⟩ := h.all s h1 h2; exact ⟨m, rfl, by have := le x hx; omega⟩, fun z e => by cases e; exact h.ok m hm⟩
structure Free (pre : List R3) (z : Int) : Prop where
  lt : ∀ s, isSign s = true → s < z → ∃ r ∈ pre, r.1 ≤ s ∧ s ≤ r.2.1
  sg : isSign z = true ∨ 1114111 < z
  no : ∀ r ∈ pre, ¬ (r.1 ≤ z ∧ z ≤ r.2.1)
theorem sign_iff {i : Int} : isSign i = true ↔ ((0 ≤ i ∧ i < 55296) ∨ (57344 ≤ i ∧ i ≤ 1114111)) := by simp [isSign]
theorem Free.more {pre : List R3} {z : Int} {r : R3} {b : Int} (h : Free pre z) (o : OkX b r) (lt : ∀ y ∈ pre, y.2.1 < r.1) : Free (pre ++ [r]) (if r.1 ≤ z ∧ z ≤ r.2.1 then (if 55296 ≤ r.2.1 + 1 ∧ r.2.1 + 1 ≤ 57343 then 57344 else r.2.1 + 1) else z) := by
  have f1 := sign_iff.mp o.f
  have l1 := sign_iff.mp o.l
  have le := o.le
  by_cases hc : r.1 ≤ z ∧ z ≤ r.2.1
  · rw [if_pos hc]
    have key : ∀ z', (z' = r.2.1 + 1 ∧ ¬ (55296 ≤ r.2.1 + 1 ∧ r.2.1 + 1 ≤ 57343)) ∨ (z' = 57344 ∧ 55296 ≤ r.2.1 + 1 ∧ r.2.1 + 1 ≤ 57343) → Free (pre ++ [r]) z' := fun z' hz => by
      refine ⟨fun s hs hlt => ?_, ?_, fun y hy => ?_⟩
      · have hs' := sign_iff.mp hs
        by_cases h1 : s < z
        · obtain ⟨x, hx, h2⟩ := h.lt s hs h1
          exact ⟨x, List.mem_append_left _ hx, h2⟩
        · exact ⟨r, List.mem_append_right _ List.mem_cons_self, by omega, by omega⟩
      · rw [sign_iff]; omega
      · rcases List.mem_append.mp hy with hy | hy
        · have := lt y hy; omega
        · rw [List.mem_singleton.mp hy]; omega
    split
    · exact key _ (.inr ⟨rfl, by assumption⟩)
    · exact key _ (.inl ⟨rfl, by assumption⟩)
  · rw [if_neg hc]
    refine ⟨fun s hs hlt => ?_, h.sg, fun y hy => ?_⟩
    · obtain ⟨x, hx, h2⟩ := h.lt s hs hlt
      exact ⟨x, List.mem_append_left _ hx, h2⟩
    · rcases List.mem_append.mp hy with hy | hy
      · exact h.no y hy
      · rw [List.mem_singleton.mp hy]; exact hc
theorem loop_least1 {E : DEnds} {P : Store → Prop} {S : Store} {a b c : Sl} (hP : P S) {rs : List R3} (ok1 : ∀ x ∈ rs, OkX (-1) x) (ok2 : rs.Pairwise fun x y => x.2.1 < y.1) (q : ∀ z x3 x4 x5, Free rs z → E.nx [a, b, c, x3, x4, x5, .val (.int z)] S) :
    ∀ (l pre : List R3) (z : Int) (x3 x4 x5 : Sl), rs = pre ++ l → Free pre z → wFor (gTp (gC1 (gNm 3) (gC1 (gNm 4) (gC1 (gNm 5) gN0)))) m__law_least_L1 E P (dR l) [a, b, c, x3, x4, x5, .val (.int z)] S
  | [], pre, z, x3, x4, x5, e, h => ⟨hP, q z x3 x4 x5 (by rw [e, List.append_nil]; exact h)⟩
  | r :: l, pre, z, x3, x4, x5, e, h => by
    have hr : r ∈ rs := by rw [e]; exact List.mem_append_right _ List.mem_cons_self
    have nxt := h.more (ok1 r hr) fun y hy => by
      rw [e, List.pairwise_append] at ok2
      exact ok2.2.2 y hy r List.mem_cons_self
    have le := sign_iff.mp (ok1 r hr).l
    have go := fun z' x3 x4 x5 (hz : z' = _) => loop_least1 (E := E) (c := c) hP ok1 ok2 q l (pre ++ [r]) z' x3 x4 x5 (by rw [e]; simp) (hz ▸ nxt)
    show wFor _ _ _ _ (tr r :: dR l) _ _
    obtain ⟨f, la, v⟩ := r
    rw [wFor]
    generalize hW : wFor _ m__law_least_L1 _ P _ = W at go ⊢
    simp [hP, m__law_least_L1, tr, mSeq, mIfS, mNext, mOr, mAnd, mNot, mTru, mTst, mIsT, mVar, mOwn, mC, mRet, mOrV, mAndV, mNotV, mChain, mOp, T2, mSet, mSetO, mApp, mAppO, mDrop, mCall, mMeth, mMake, mFld, mSetF, mCB, mCF, mACons, mANil, mLst, mTup, mNeg, mIf, mRaise, mRetN, mFrz, mFrzF, mCell, mFro, endsD, insOf_ins, D.tru, D.ty, D.tyName, isT, mParK, mKVal, mKOwn, mKNil, setE, gNm, gTp, gC1, gN0, mIt, mItT, mRng1, mRng2, mFor, mPopO, int_i, abs_i, int2_ii, oLen, seqOf_lst, seqOf_tup, seqOf_fz, lenOf_lst, lenOf_tup, oIx, oII_ii, oIs, oIsNot, D.isN, mDIn, mDGet, mSetd, mNewD, mSortD, mSortSet, mRevL, mRetG, mSliceL, mNoP, mPart, oTupleOf, oListOf, eq_ii, ne_ii, eq_bb, ne_bb, eq_ss, ne_ss, eq_nil, ne_nil, take_ii]
    simp at go le
    by_cases h1 : f ≤ z
    · by_cases h2 : z ≤ la
      · refine .inr ⟨h1, .inr ⟨h2, .inr ⟨by omega, ?_⟩⟩⟩
        by_cases h3 : 55296 ≤ la + 1
        · by_cases h4 : la + 1 ≤ 57343
          · exact .inr ⟨by omega, .inr ⟨by omega, go _ _ _ _ (by simp [h1, h2, h3, h4])⟩⟩
          · exact .inr ⟨by omega, .inl ⟨by omega, go _ _ _ _ (by simp [h1, h2, h4])⟩⟩
        · exact .inl ⟨by omega, go _ _ _ _ (by simp [h1, h2, h3])⟩
      · exact .inr ⟨h1, .inl ⟨by omega, go _ _ _ _ (by simp [h2])⟩⟩
    · exact .inl ⟨by omega, go _ _ _ _ (by simp [h1])⟩
theorem loop_least2 {E : DEnds} {P : Store → Prop} {S : Store} {a b c : Sl} {z : Int} (hP : P S) (q : ∀ x3 x4 x5, E.nx [a, b, c, x3, x4, x5, .val (.int z)] S) : ∀ (l : List R3) (x3 x4 x5 : Sl), (∀ r ∈ l, ¬ (r.1 ≤ z ∧ z ≤ r.2.1)) →
    wFor (gTp (gC1 (gNm 3) (gC1 (gNm 4) (gC1 (gNm 5) gN0)))) m__law_least_L2 E P (dR l) [a, b, c, x3, x4, x5, .val (.int z)] S
  | [], x3, x4, x5, h => ⟨hP, q x3 x4 x5⟩
  | r :: l, x3, x4, x5, h => by
    have h0 := h r List.mem_cons_self
    have go := fun x3 x4 x5 => loop_least2 (E := E) hP q l x3 x4 x5 fun y hy => h y (List.mem_cons_of_mem _ hy)
    show wFor _ _ _ _ (tr r :: dR l) _ _
    obtain ⟨f, la, v⟩ := r
    rw [wFor]
    generalize hW : wFor _ m__law_least_L2 _ P _ = W at go ⊢
    simp [hP, m__law_least_L2, tr, mSeq, mIfS, mNext, mOr, mAnd, mNot, mTru, mTst, mIsT, mVar, mOwn, mC, mRet, mOrV, mAndV, mNotV, mChain, mOp, T2, mSet, mSetO, mApp, mAppO, mDrop, mCall, mMeth, mMake, mFld, mSetF, mCB, mCF, mACons, mANil, mLst, mTup, mNeg, mIf, mRaise, mRetN, mFrz, mFrzF, mCell, mFro, endsD, insOf_ins, D.tru, D.ty, D.tyName, isT, mParK, mKVal, mKOwn, mKNil, setE, gNm, gTp, gC1, gN0, mIt, mItT, mRng1, mRng2, mFor, mPopO, int_i, abs_i, int2_ii, oLen, seqOf_lst, seqOf_tup, seqOf_fz, lenOf_lst, lenOf_tup, oIx, oII_ii, oIs, oIsNot, D.isN, mDIn, mDGet, mSetd, mNewD, mSortD, mSortSet, mRevL, mRetG, mSliceL, mNoP, mPart, oTupleOf, oListOf, eq_ii, ne_ii, eq_bb, ne_bb, eq_ss, ne_ss, eq_nil, ne_nil, take_ii]
    simp at h0
    by_cases h1 : f ≤ z
    · exact .inr ⟨h1, .inl ⟨by have := h0 h1; omega, go _ _ _⟩⟩
    · exact .inl ⟨by omega, go _ _ _⟩
theorem cand_n {rs : List R3} {n : Int} (ok1 : ∀ x ∈ rs, OkX (-1) x) (ok2 : rs.Pairwise fun x y => x.2.1 < y.1) (hn : n ≠ 0) : Cand rs n (firsts n rs) where
  ok := fun x hx => by
    obtain ⟨r, hr, rfl⟩ := List.mem_map.mp hx
    obtain ⟨hr, e⟩ := List.mem_filter.mp hr
    exact ⟨(ok1 r hr).f, by rw [cls_mem ok2 hr (Int.le_refl _) (ok1 r hr).le fun x hx => (ok1 x hx).le]; simpa using e⟩
  all := fun s hs e => by
    rcases cls_cov (s := s) (rs := rs) with ⟨r, hr, h1, h2, h3⟩ | ⟨h1, _⟩
    · exact ⟨r.1, List.mem_map.mpr ⟨r, List.mem_filter.mpr ⟨hr, by simp; rw [← h3]; exact e⟩, rfl⟩, h1⟩
    · exact absurd (e.symm.trans h1) hn
theorem cand_0 {rs : List R3} {z : Int} (ok1 : ∀ x ∈ rs, OkX (-1) x) (ok2 : rs.Pairwise fun x y => x.2.1 < y.1) (h : Free rs z) : Cand rs 0 (firsts 0 rs ++ if z ≤ 1114111 then [z] else []) where
  ok := fun x hx => by
    rcases List.mem_append.mp hx with hx | hx
    · obtain ⟨r, hr, rfl⟩ := List.mem_map.mp hx
      obtain ⟨hr, e⟩ := List.mem_filter.mp hr
      exact ⟨(ok1 r hr).f, by rw [cls_mem ok2 hr (Int.le_refl _) (ok1 r hr).le fun x hx => (ok1 x hx).le]; simpa using e⟩
    · split at hx
      · rw [List.mem_singleton.mp hx]
        refine ⟨h.sg.resolve_right (by omega), cls_none h.no⟩
      · simp at hx
  all := fun s hs e => by
    rcases cls_cov (s := s) (rs := rs) with ⟨r, hr, h1, h2, h3⟩ | ⟨_, h2⟩
    · exact ⟨r.1, List.mem_append_left _ (List.mem_map.mpr ⟨r, List.mem_filter.mpr ⟨hr, by simp; rw [← h3]; exact e⟩, rfl⟩), h1⟩
    · have hz : z ≤ s := by
        by_cases hz : z ≤ s
        · exact hz
        · obtain ⟨r, hr, k⟩ := h.lt s hs (by omega)
          exact absurd k (h2 r hr)
      have := sign_iff.mp hs
      exact ⟨z, List.mem_append_right _ (by rw [if_pos (by omega)]; exact List.mem_cons_self), hz⟩
theorem found_eq {n : Int} : ∀ rs : List R3, (List.filter (fun d => match d with | D.tup [D.int f, D.int l, D.int v] => decide (v = n) | x => false) (dR rs)).map (fun d => match d with | D.tup [D.int f, D.int l, D.int v] => D.int f | d => d) = dI (firsts n rs)
  | [] => rfl
  | (f, l, v) :: rs => by
    have ih := found_eq (n := n) rs
    by_cases h : v = n
    · simp [firsts, tr, h] at ih ⊢; exact ih
    · simp [firsts, tr, h] at ih ⊢; exact ih
theorem data_least : ∀ ds S Q R, sp__law_least ds S Q R → ds.length = 2 ∧ m__law_least (endsD Q R) (startE ["ranges", "number", "found", "first", "last", "kind", "sign"] ds) S := by
  rintro ds S Q R ⟨d, rs, n, rfl, e, hl, ok, q⟩
  refine ⟨rfl, ?_⟩
  show m__law_least (endsD Q R) [.val d, .val (.int n), .no, .no, .no, .no, .no] S
  obtain ⟨ok1, ok2⟩ := okR_all ok
  have fin : ∀ (ns : List Int) x3 x4 x5 x6, Cand rs n ns → m__law_least_R3 { nx := fun x S => Q D.non S, rt := Q, ex := fun c x S => R c S } [.val d, .val (.int n), .val (.lst (dI ns)), x3, x4, x5, x6] S := fun ns x3 x4 x5 x6 hc => by
    simp [m__law_least_R3, mSeq, mIfS, mNext, mOr, mAnd, mNot, mTru, mTst, mIsT, mVar, mOwn, mC, mRet, mOrV, mAndV, mNotV, mChain, mOp, T2, mSet, mSetO, mApp, mAppO, mDrop, mCall, mMeth, mMake, mFld, mSetF, mCB, mCF, mACons, mANil, mLst, mTup, mNeg, mIf, mRaise, mRetN, mFrz, mFrzF, mCell, mFro, endsD, insOf_ins, D.tru, D.ty, D.tyName, isT, mParK, mKVal, mKOwn, mKNil, setE, gNm, gTp, gC1, gN0, mIt, mItT, mRng1, mRng2, mFor, mPopO, int_i, abs_i, int2_ii, oLen, seqOf_lst, seqOf_tup, seqOf_fz, lenOf_lst, lenOf_tup, oIx, oII_ii, oIs, oIsNot, D.isN, mDIn, mDGet, mSetd, mNewD, mSortD, mSortSet, mRevL, mRetG, mSliceL, mNoP, mPart, oTupleOf, oListOf, eq_ii, ne_ii, eq_bb, ne_bb, eq_ss, ne_ss, eq_nil, ne_nil, take_ii]
    refine ⟨fun x hx => rfl, ?_⟩
    by_cases h : ns = []
    · subst h
      exact .inl ⟨rfl, q _ hc.none⟩
    · refine .inr ⟨h, _, ns, rfl, rfl, intsOf_ints rfl, List.length_pos_iff.mpr h, fun m m1 m2 => q _ (hc.some m1 m2)⟩
  simp [m__law_least, mComp, wipeE, mSeq, mIfS, mNext, mOr, mAnd, mNot, mTru, mTst, mIsT, mVar, mOwn, mC, mRet, mOrV, mAndV, mNotV, mChain, mOp, T2, mSet, mSetO, mApp, mAppO, mDrop, mCall, mMeth, mMake, mFld, mSetF, mCB, mCF, mACons, mANil, mLst, mTup, mNeg, mIf, mRaise, mRetN, mFrz, mFrzF, mCell, mFro, endsD, insOf_ins, D.tru, D.ty, D.tyName, isT, mParK, mKVal, mKOwn, mKNil, setE, gNm, gTp, gC1, gN0, mIt, mItT, mRng1, mRng2, mFor, mPopO, int_i, abs_i, int2_ii, oLen, seqOf_lst, seqOf_tup, seqOf_fz, lenOf_lst, lenOf_tup, oIx, oII_ii, oIs, oIsNot, D.isN, mDIn, mDGet, mSetd, mNewD, mSortD, mSortSet, mRevL, mRetG, mSliceL, mNoP, mPart, oTupleOf, oListOf, eq_ii, ne_ii, eq_bb, ne_bb, eq_ss, ne_ss, eq_nil, ne_nil, take_ii]
  refine ⟨_, e, wComp_filter (fun d => match d with | .tup [.int f, .int l, .int v] => decide (v = n) | _ => false) (fun d => match d with | .tup [.int f, .int l, .int v] => .int f | d => d) e (dR rs) [] (fun d hd Ke Kn hq => ?_) (by simpa using small4 (n := rs.length) (by omega)) ?_⟩
  · obtain ⟨⟨f, l, v⟩, hr, rfl⟩ := List.mem_map.mp hd
    have f1 := sign_iff.mp (ok1 _ hr).f
    have l1 := sign_iff.mp (ok1 _ hr).l
    simp at f1 l1
    simp [m__law_least_C1t, m__law_least_C1e, tr, mSeq, mIfS, mNext, mOr, mAnd, mNot, mTru, mTst, mIsT, mVar, mOwn, mC, mRet, mOrV, mAndV, mNotV, mChain, mOp, T2, mSet, mSetO, mApp, mAppO, mDrop, mCall, mMeth, mMake, mFld, mSetF, mCB, mCF, mACons, mANil, mLst, mTup, mNeg, mIf, mRaise, mRetN, mFrz, mFrzF, mCell, mFro, endsD, insOf_ins, D.tru, D.ty, D.tyName, isT, mParK, mKVal, mKOwn, mKNil, setE, gNm, gTp, gC1, gN0, mIt, mItT, mRng1, mRng2, mFor, mPopO, int_i, abs_i, int2_ii, oLen, seqOf_lst, seqOf_tup, seqOf_fz, lenOf_lst, lenOf_tup, oIx, oII_ii, oIs, oIsNot, D.isN, mDIn, mDGet, mSetd, mNewD, mSortD, mSortSet, mRevL, mRetG, mSliceL, mNoP, mPart, oTupleOf, oListOf, eq_ii, ne_ii, eq_bb, ne_bb, eq_ss, ne_ss, eq_nil, ne_nil, take_ii]
    simp [tr] at hq
    by_cases hv : v = n
    · simp [hv] at hq
      refine .inr ⟨hv, ?_⟩
      by_cases h1 : f < 55296
      · exact .inl ⟨h1, .inl ⟨h1, hq⟩⟩
      · have := (ok1 _ hr).le
        simp at this
        exact .inr ⟨by omega, .inl ⟨by omega, .inr ⟨by omega, .inl ⟨by omega, hq⟩⟩⟩⟩
    · simp [hv] at hq
      exact .inl ⟨hv, hq⟩
  · rw [List.nil_append, found_eq]
    by_cases hn : n = 0
    · subst hn
      refine .inr ⟨rfl, _, e, ?_⟩
      refine loop_least1 e ok1 ok2 (fun z x3 x4 x5 hz => ?_) rs [] 0 _ _ _ rfl ⟨fun s hs hl => by have := sign_iff.mp hs; omega, .inl (by decide), by simp⟩
      simp [m__law_least_R2, mSeq, mIfS, mNext, mOr, mAnd, mNot, mTru, mTst, mIsT, mVar, mOwn, mC, mRet, mOrV, mAndV, mNotV, mChain, mOp, T2, mSet, mSetO, mApp, mAppO, mDrop, mCall, mMeth, mMake, mFld, mSetF, mCB, mCF, mACons, mANil, mLst, mTup, mNeg, mIf, mRaise, mRetN, mFrz, mFrzF, mCell, mFro, endsD, insOf_ins, D.tru, D.ty, D.tyName, isT, mParK, mKVal, mKOwn, mKNil, setE, gNm, gTp, gC1, gN0, mIt, mItT, mRng1, mRng2, mFor, mPopO, int_i, abs_i, int2_ii, oLen, seqOf_lst, seqOf_tup, seqOf_fz, lenOf_lst, lenOf_tup, oIx, oII_ii, oIs, oIsNot, D.isN, mDIn, mDGet, mSetd, mNewD, mSortD, mSortSet, mRevL, mRetG, mSliceL, mNoP, mPart, oTupleOf, oListOf, eq_ii, ne_ii, eq_bb, ne_bb, eq_ss, ne_ss, eq_nil, ne_nil, take_ii]
      refine ⟨_, e, loop_least2 e (fun x3 x4 x5 => ?_) rs _ _ _ hz.no⟩
      have hc := cand_0 ok1 ok2 hz
      have hlen : (firsts 0 rs).length ≤ rs.length := by
        unfold firsts
        rw [List.length_map]
        exact List.length_filter_le _ _
      simp [m__law_least_R1, mSeq, mIfS, mNext, mOr, mAnd, mNot, mTru, mTst, mIsT, mVar, mOwn, mC, mRet, mOrV, mAndV, mNotV, mChain, mOp, T2, mSet, mSetO, mApp, mAppO, mDrop, mCall, mMeth, mMake, mFld, mSetF, mCB, mCF, mACons, mANil, mLst, mTup, mNeg, mIf, mRaise, mRetN, mFrz, mFrzF, mCell, mFro, endsD, insOf_ins, D.tru, D.ty, D.tyName, isT, mParK, mKVal, mKOwn, mKNil, setE, gNm, gTp, gC1, gN0, mIt, mItT, mRng1, mRng2, mFor, mPopO, int_i, abs_i, int2_ii, oLen, seqOf_lst, seqOf_tup, seqOf_fz, lenOf_lst, lenOf_tup, oIx, oII_ii, oIs, oIsNot, D.isN, mDIn, mDGet, mSetd, mNewD, mSortD, mSortSet, mRevL, mRetG, mSliceL, mNoP, mPart, oTupleOf, oListOf, eq_ii, ne_ii, eq_bb, ne_bb, eq_ss, ne_ss, eq_nil, ne_nil, take_ii]
      by_cases h1 : z ≤ 1114111
      · rw [if_pos h1] at hc
        refine .inr ⟨h1, small4 (by omega), _, [.int z], rfl, rfl, small4 (by simp; omega), ?_⟩
        simpa using fin _ x3 x4 x5 (.val (.int z)) hc
      · rw [if_neg h1] at hc
        refine .inl ⟨by omega, _, [], rfl, rfl, small4 (by simp; omega), ?_⟩
        simpa using fin _ x3 x4 x5 (.val (.int z)) hc
    · exact .inl ⟨hn, fin _ _ _ _ _ (cand_n ok1 ok2 hn)⟩
end K01


set_option Elab.async false
set_option linter.all false
set_option maxRecDepth 100000
set_option maxHeartbeats 1000000
namespace K01
open PySem PySem.Spec PyProof.Rows L2 DL
theorem tbl_no {m : Str} {c : Int} {rs : List R3} {out : List Int} (h1 : ¬ m = "count" := by decide) (h2 : ¬ m = "ranges" := by decide) (h3 : ¬ m = "_samples" := by decide) : ∀ (a : Str) (b : D), (a, b) ∈ tblF c rs out → ¬ m = a := by
  intro a b h
  simp only [tblF, List.mem_cons, Prod.mk.injEq, List.not_mem_nil, or_false] at h
  rcases h with ⟨rfl, _⟩ | ⟨rfl, _⟩ | ⟨rfl, _⟩
  · exact h1
  · exact h2
  · exact h3
theorem data_told : ∀ ds S Q R, sp__law_told ds S Q R → ds.length = 3 ∧ m__law_told (endsD Q R) (startE ["which", "one", "other", "table", "e"] ds) S := by
  rintro ds S Q R (⟨c, d, rs, rfl, e, hl, ok, q⟩ | ⟨c, rs, out, n, rfl, q⟩ | ⟨c, rs, out, s, rfl, hl, ok, hs, q⟩ | ⟨c, rs, out, d, ns, rfl, e, hn, hl, ok, hs, q⟩)
  · refine ⟨rfl, ?_⟩
    show m__law_told (endsD Q R) [.val (.int 0), .val (.int c), .val d, .no, .no] S
    simp [m__law_told, mTryW, mSeq, mIfS, mNext, mOr, mAnd, mNot, mTru, mTst, mIsT, mVar, mOwn, mC, mRet, mOrV, mAndV, mNotV, mChain, mOp, T2, mSet, mSetO, mApp, mAppO, mDrop, mCall, mMeth, mMake, mFld, mSetF, mCB, mCF, mACons, mANil, mLst, mTup, mNeg, mIf, mRaise, mRetN, mFrz, mFrzF, mCell, mFro, endsD, insOf_ins, D.tru, D.ty, D.tyName, isT, mParK, mKVal, mKOwn, mKNil, setE, gNm, gTp, gC1, gN0, mIt, mItT, mRng1, mRng2, mFor, mPopO, int_i, abs_i, int2_ii, oLen, seqOf_lst, seqOf_tup, seqOf_fz, lenOf_lst, lenOf_tup, oIx, oII_ii, oIs, oIsNot, D.isN, mDIn, mDGet, mSetd, mNewD, mSortD, mSortSet, mRevL, mRetG, mSliceL, mNoP, mPart, oTupleOf, oListOf, eq_ii, ne_ii, eq_bb, ne_bb, eq_ss, ne_ss, eq_nil, ne_nil, take_ii]
    intro x hx
    refine ⟨x, d, c, rs, rfl, upd_same', itOf_upd e (fun l' z => by rw [hx] at z; cases z), hl, ?_⟩
    by_cases h1 : okC c rs = true
    · rw [if_pos h1] at q ⊢
      rw [if_neg (by rw [ok h1]; simp)]
      exact ⟨_, rfl, by rw [upd_era hx]; exact q⟩
    · rw [if_neg h1] at q ⊢
      exact ⟨_, rfl, by rw [upd_era hx]; exact q⟩
  · refine ⟨rfl, ?_⟩
    show m__law_told (endsD Q R) [.val (.int 1), .val (tbl c rs out), .val (.int n), .no, .no] S
    simp [m__law_told, mTryW, mSeq, mIfS, mNext, mOr, mAnd, mNot, mTru, mTst, mIsT, mVar, mOwn, mC, mRet, mOrV, mAndV, mNotV, mChain, mOp, T2, mSet, mSetO, mApp, mAppO, mDrop, mCall, mMeth, mMake, mFld, mSetF, mCB, mCF, mACons, mANil, mLst, mTup, mNeg, mIf, mRaise, mRetN, mFrz, mFrzF, mCell, mFro, endsD, insOf_ins, D.tru, D.ty, D.tyName, isT, mParK, mKVal, mKOwn, mKNil, setE, gNm, gTp, gC1, gN0, mIt, mItT, mRng1, mRng2, mFor, mPopO, int_i, abs_i, int2_ii, oLen, seqOf_lst, seqOf_tup, seqOf_fz, lenOf_lst, lenOf_tup, oIx, oII_ii, oIs, oIsNot, D.isN, mDIn, mDGet, mSetd, mNewD, mSortD, mSortSet, mRevL, mRetG, mSliceL, mNoP, mPart, oTupleOf, oListOf, eq_ii, ne_ii, eq_bb, ne_bb, eq_ss, ne_ss, eq_nil, ne_nil, take_ii]
    refine ⟨_, rfl, tbl_no, c, rs, out, n, rfl, ?_⟩
    by_cases h1 : n < 0 ∨ c ≤ n
    · rw [if_pos h1] at q ⊢
      exact ⟨_, rfl, q⟩
    · rw [if_neg h1] at q ⊢
      cases h2 : dGet (samples rs out) (.inl n) with
      | none => rw [h2] at q; exact ⟨_, rfl, q⟩
      | some v => rw [h2] at q; exact q
  · refine ⟨rfl, ?_⟩
    show m__law_told (endsD Q R) [.val (.int 2), .val (tbl c rs out), .val (.int s), .no, .no] S
    simp [m__law_told, mTryW, mSeq, mIfS, mNext, mOr, mAnd, mNot, mTru, mTst, mIsT, mVar, mOwn, mC, mRet, mOrV, mAndV, mNotV, mChain, mOp, T2, mSet, mSetO, mApp, mAppO, mDrop, mCall, mMeth, mMake, mFld, mSetF, mCB, mCF, mACons, mANil, mLst, mTup, mNeg, mIf, mRaise, mRetN, mFrz, mFrzF, mCell, mFro, endsD, insOf_ins, D.tru, D.ty, D.tyName, isT, mParK, mKVal, mKOwn, mKNil, setE, gNm, gTp, gC1, gN0, mIt, mItT, mRng1, mRng2, mFor, mPopO, int_i, abs_i, int2_ii, oLen, seqOf_lst, seqOf_tup, seqOf_fz, lenOf_lst, lenOf_tup, oIx, oII_ii, oIs, oIsNot, D.isN, mDIn, mDGet, mSetd, mNewD, mSortD, mSortSet, mRevL, mRetG, mSliceL, mNoP, mPart, oTupleOf, oListOf, eq_ii, ne_ii, eq_bb, ne_bb, eq_ss, ne_ss, eq_nil, ne_nil, take_ii]
    refine ⟨_, rfl, tbl_no, c, rs, out, s, rfl, hl, ok, ?_⟩
    rw [if_neg (by simp [hs])]
    exact ⟨_, rfl, q⟩
  · refine ⟨rfl, ?_⟩
    show m__law_told (endsD Q R) [.val (.int 3), .val (tbl c rs out), .val d, .no, .no] S
    simp [m__law_told, mTryW, mSeq, mIfS, mNext, mOr, mAnd, mNot, mTru, mTst, mIsT, mVar, mOwn, mC, mRet, mOrV, mAndV, mNotV, mChain, mOp, T2, mSet, mSetO, mApp, mAppO, mDrop, mCall, mMeth, mMake, mFld, mSetF, mCB, mCF, mACons, mANil, mLst, mTup, mNeg, mIf, mRaise, mRetN, mFrz, mFrzF, mCell, mFro, endsD, insOf_ins, D.tru, D.ty, D.tyName, isT, mParK, mKVal, mKOwn, mKNil, setE, gNm, gTp, gC1, gN0, mIt, mItT, mRng1, mRng2, mFor, mPopO, int_i, abs_i, int2_ii, oLen, seqOf_lst, seqOf_tup, seqOf_fz, lenOf_lst, lenOf_tup, oIx, oII_ii, oIs, oIsNot, D.isN, mDIn, mDGet, mSetd, mNewD, mSortD, mSortSet, mRevL, mRetG, mSliceL, mNoP, mPart, oTupleOf, oListOf, eq_ii, ne_ii, eq_bb, ne_bb, eq_ss, ne_ss, eq_nil, ne_nil, take_ii]
    refine ⟨_, rfl, tbl_no, c, rs, out, d, ns, rfl, e, hn, hl, ok, ?_⟩
    rw [if_neg (by simp [hs])]
    exact ⟨_, rfl, q⟩
end K01


set_option Elab.async false
set_option linter.all false
set_option maxRecDepth 100000
set_option maxHeartbeats 1000000
namespace K01
open PySem PySem.Spec PyProof.Rows L2 DL
/-! ### the samples are the least signs -/
theorem dGet_app {kvs : List (Key × D)} {k k' : Key} {v : D} (h : dGet kvs k = none) : dGet (kvs ++ [(k, v)]) k' = if k = k' then some v else dGet kvs k' := by
  unfold dGet at h ⊢
  rw [List.find?_append]
  by_cases e : k = k'
  · subst e
    rw [if_pos rfl]
    have h' : List.find? (fun kv => decide (kv.1 = k)) kvs = none := by
      cases hf : List.find? (fun kv => decide (kv.1 = k)) kvs with
      | none => rfl
      | some x => rw [hf] at h; cases h
    rw [h']; simp
  · rw [if_neg e]
    cases hf : List.find? (fun kv => decide (kv.1 = k')) kvs <;> simp [e]
theorem dPut_app {kvs : List (Key × D)} {k : Key} {v : D} (h : dGet kvs k = none) : dPut kvs k v = kvs ++ [(k, v)] := by
  unfold dPut
  rw [if_neg]
  intro z
  obtain ⟨x, hx, e⟩ := List.any_eq_true.mp z
  unfold dGet at h
  cases hf : List.find? (fun kv => decide (kv.1 = k)) kvs with
  | none => exact absurd e (by simpa using List.find?_eq_none.mp hf x hx)
  | some y => rw [hf] at h; cases h
def hit (rs : List R3) (n : Int) (s : Int) : Bool := isSign s && decide (cls rs s = n)
theorem fold_get {rs : List R3} {n : Int} : ∀ (out : List Int) (kvs : List (Key × D)), dGet (out.foldl (addS rs) kvs) (.inl n) = match dGet kvs (.inl n) with
    | some v => some v
    | none => (out.find? (hit rs n)).map .int
  | [], kvs => by cases h : dGet kvs (.inl n) <;> simp [h]
  | s :: out, kvs => by
    rw [List.foldl_cons, fold_get out, List.find?_cons]
    unfold addS
    cases hs : isSign s with
    | false => simp [hit, hs]
    | true =>
      simp only [if_true]
      by_cases h1 : (dGet kvs (.inl (cls rs s))).isSome = true
      · rw [if_pos h1]
        by_cases h2 : cls rs s = n
        · rw [h2] at h1
          obtain ⟨v, hv⟩ := Option.isSome_iff_exists.mp h1
          rw [hv]
        · have : hit rs n s = false := by simp [hit, h2]
          rw [this]
      · rw [if_neg h1]
        have h1' : dGet kvs (.inl (cls rs s)) = none := by cases h : dGet kvs (.inl (cls rs s)) <;> simp_all
        rw [dPut_app h1', dGet_app h1']
        by_cases h2 : cls rs s = n
        · subst h2
          rw [if_pos rfl, h1']
          simp [hit, hs]
        · rw [if_neg (by simpa using h2)]
          have : hit rs n s = false := by simp [hit, h2]
          rw [this]
/-- the least sign of a class is a cut -/
theorem least_cut {rs : List R3} {n : Int} (ok1 : ∀ x ∈ rs, OkX (-1) x) (ok2 : rs.Pairwise fun x y => x.2.1 < y.1) {k : Int} (h1 : isSign k = true) (h2 : cls rs k = n) (h3 : ∀ s, isSign s = true → cls rs s = n → k ≤ s) : k ∈ cutsL rs := by
  have fl : ∀ r ∈ rs, r.1 ∈ cutsL rs ∧ r.2.1 + 1 ∈ cutsL rs := fun r hr => by
    have : ∀ x, x ∈ [r.1, r.2.1 + 1] → x ∈ cutsL rs := fun x hx => List.mem_cons_of_mem _ (List.mem_cons_of_mem _ (List.mem_flatMap.mpr ⟨r, hr, hx⟩))
    exact ⟨this _ (by simp), this _ (by simp)⟩
  rcases cls_cov (s := k) (rs := rs) with ⟨r, hr, a, b, c⟩ | ⟨a, b⟩
  · have e : cls rs r.1 = n := by rw [cls_mem ok2 hr (Int.le_refl _) (ok1 r hr).le fun x hx => (ok1 x hx).le, ← c]; exact h2
    have := h3 r.1 (ok1 r hr).f e
    have e2 : k = r.1 := by omega
    rw [e2]; exact (fl r hr).1
  · have hk := sign_iff.mp h1
    by_cases k0 : k = 0
    · rw [k0]; exact List.mem_cons_self
    by_cases k1 : k = 57344
    · rw [k1]; exact List.mem_cons_of_mem _ List.mem_cons_self
    have hs : isSign (k - 1) = true := sign_iff.mpr (by omega)
    rcases cls_cov (s := k - 1) (rs := rs) with ⟨r, hr, c1, c2, c3⟩ | ⟨c1, c2⟩
    · have := b r hr
      have e2 : k = r.2.1 + 1 := by omega
      rw [e2]; exact (fl r hr).2
    · have := h3 (k - 1) hs (c1.trans (a.symm.trans h2))
      omega
theorem has_least {rs : List R3} {n : Int} : ∀ (m : Nat) (s : Int), s.toNat ≤ m → isSign s = true → cls rs s = n → ∃ k, isSign k = true ∧ cls rs k = n ∧ ∀ s, isSign s = true → cls rs s = n → k ≤ s := by
  intro m
  induction m with
  | zero =>
    intro s h1 h2 h3
    refine ⟨s, h2, h3, fun s' h4 _ => ?_⟩
    have := sign_iff.mp h2
    have := sign_iff.mp h4
    omega
  | succ m ih =>
    intro s h1 h2 h3
    by_cases h : ∃ s', isSign s' = true ∧ cls rs s' = n ∧ s' < s
    · obtain ⟨s', a, b, c⟩ := h
      have := sign_iff.mp a
      have := sign_iff.mp h2
      exact ih s' (by omega) a b
    · refine ⟨s, h2, h3, fun s' h4 h5 => ?_⟩
      by_cases hl : s ≤ s'
      · exact hl
      · exact absurd ⟨s', h4, h5, by omega⟩ h
theorem find_up {p : Int → Bool} : ∀ {out : List Int} {k : Int}, out.Pairwise (· < ·) → k ∈ out → p k = true → (∀ s ∈ out, p s = true → k ≤ s) → out.find? p = some k
  | [], k, _, h, _, _ => by simp at h
  | a :: out, k, up, h, hp, hl => by
    obtain ⟨u1, u2⟩ := List.pairwise_cons.mp up
    rw [List.find?_cons]
    rcases List.mem_cons.mp h with rfl | hk
    · rw [hp]
    · have := u1 k hk
      have hn : p a = false := by
        cases e : p a with
        | false => rfl
        | true => have := hl a List.mem_cons_self e; omega
      rw [hn]
      exact find_up u2 hk hp fun s hs => hl s (List.mem_cons_of_mem _ hs)
/-- the least sign of a class, as the table has it -/
def lf (rs : List R3) (out : List Int) (n : Int) : Option Int := out.find? (hit rs n)
theorem lf_get {rs : List R3} {out : List Int} {n : Int} : dGet (samples rs out) (.inl n) = (lf rs out n).map .int := by
  unfold samples lf
  rw [fold_get]; rfl
theorem lf_least {rs : List R3} {out : List Int} (ok : okR (-1) rs = true) (hc : Cuts rs out) (n : Int) : Least rs n (lf rs out n) := by
  obtain ⟨ok1, ok2⟩ := okR_all ok
  unfold lf
  by_cases h : ∃ s, isSign s = true ∧ cls rs s = n
  · obtain ⟨s, h1, h2⟩ := h
    obtain ⟨k, a, b, c⟩ := has_least s.toNat s (Nat.le_refl _) h1 h2
    have e := find_up (p := hit rs n) hc.up ((hc.mem k).mpr (least_cut ok1 ok2 a b c)) (by simp [hit, a, b]) fun s _ hs => by
      simp [hit] at hs; exact c s hs.1 hs.2
    rw [e]
    exact ⟨fun s x y => ⟨k, rfl, c s x y⟩, fun z hz => by cases hz; exact ⟨a, b⟩⟩
  · have e : out.find? (hit rs n) = none := List.find?_eq_none.mpr fun s _ hs => h ⟨s, by simpa [hit] using hs⟩
    rw [e]
    exact ⟨fun s x y => absurd ⟨s, x, y⟩ h, fun z hz => by cases hz⟩
theorem least_eq {rs : List R3} {n : Int} {r r' : Option Int} (h : Least rs n r) (h' : Least rs n r') : r = r' := by
  cases r with
  | none =>
    cases r' with
    | none => rfl
    | some z => obtain ⟨a, b⟩ := h'.2 z rfl; obtain ⟨_, e, _⟩ := h.1 z a b; cases e
  | some z =>
    obtain ⟨a, b⟩ := h.2 z rfl
    obtain ⟨z', e, l⟩ := h'.1 z a b
    subst e
    obtain ⟨a', b'⟩ := h'.2 z' rfl
    obtain ⟨z2, e, l'⟩ := h.1 z' a' b'
    cases e
    congr 1; omega
/-! keys -/
theorem fold_nodup {rs : List R3} : ∀ (out : List Int) (kvs : List (Key × D)), (kvs.map (·.1)).Nodup → ((out.foldl (addS rs) kvs).map (·.1)).Nodup
  | [], kvs, h => h
  | s :: out, kvs, h => by
    rw [List.foldl_cons]
    refine fold_nodup out _ ?_
    unfold addS
    split
    · split
      · exact h
      · rename_i h1
        have h1' : dGet kvs (.inl (cls rs s)) = none := by cases h : dGet kvs (.inl (cls rs s)) <;> simp_all
        rw [dPut_app h1', List.map_append, List.nodup_append]
        refine ⟨h, by simp, fun a ha b hb e => ?_⟩
        simp at hb
        subst hb e
        obtain ⟨x, hx, e⟩ := List.mem_map.mp ha
        unfold dGet at h1'
        cases hf : List.find? (fun kv => decide (kv.1 = .inl (cls rs s))) kvs with
        | none => exact absurd e (by simpa using List.find?_eq_none.mp hf x hx)
        | some y => rw [hf] at h1'; cases h1'
    · exact h
theorem mem_keys {kvs : List (Key × D)} {k : Key} : k ∈ kvs.map (·.1) ↔ (dGet kvs k).isSome = true := by
  unfold dGet
  rw [Option.isSome_map, List.find?_isSome]
  constructor
  · intro h
    obtain ⟨x, hx, e⟩ := List.mem_map.mp h
    exact ⟨x, hx, by simpa using e⟩
  · rintro ⟨x, hx, e⟩
    exact List.mem_map.mpr ⟨x, hx, by simpa using e⟩
theorem up_ext : ∀ {l m : List Int}, l.Pairwise (· < ·) → m.Pairwise (· < ·) → (∀ k, k ∈ l ↔ k ∈ m) → l = m
  | [], [], _, _, _ => rfl
  | [], b :: m, _, _, h => by have := (h b).mpr List.mem_cons_self; simp at this
  | a :: l, [], _, _, h => by have := (h a).mp List.mem_cons_self; simp at this
  | a :: l, b :: m, h1, h2, h => by
    obtain ⟨a1, a2⟩ := List.pairwise_cons.mp h1
    obtain ⟨b1, b2⟩ := List.pairwise_cons.mp h2
    have e : a = b := by
      have x := (h a).mp List.mem_cons_self
      have y := (h b).mpr List.mem_cons_self
      rcases List.mem_cons.mp x with x | x
      · exact x
      · rcases List.mem_cons.mp y with y | y
        · exact y.symm
        · have := a1 b y; have := b1 a x; omega
    subst e
    congr 1
    refine up_ext a2 b2 fun k => ⟨fun hk => ?_, fun hk => ?_⟩
    · rcases List.mem_cons.mp ((h k).mp (List.mem_cons_of_mem _ hk)) with e | x
      · have := a1 k hk; omega
      · exact x
    · rcases List.mem_cons.mp ((h k).mpr (List.mem_cons_of_mem _ hk)) with e | x
      · have := b1 k hk; omega
      · exact x
/-- the classes that some sign has -/
def pres (c : Int) (rs : List R3) (out : List Int) : List Int := ((List.range c.toNat).map fun (i : Nat) => (i : Int)).filter fun n => (lf rs out n).isSome
theorem okV_mem {c : Int} : ∀ {rs : List R3}, okV c rs = true → ∀ r ∈ rs, 0 ≤ r.2.2 ∧ r.2.2 < c
  | [], _, r, h => by simp at h
  | x :: rs, h, r, hr => by
    simp [okV] at h
    rcases List.mem_cons.mp hr with e | hr
    · rw [e]; exact h.1
    · exact okV_mem h.2 r hr
theorem pres_eq {c : Int} {rs : List R3} {out : List Int} {ys : List Int} (hv : okV c rs = true) (hc : 0 < c) (h1 : ys.Pairwise (· ≤ ·)) (h2 : ((samples rs out).map (·.1)).Perm (ys.map .inl)) : ys = pres c rs out := by
  have nd : ys.Nodup := by
    have : (ys.map (Sum.inl : Int → Key)).Nodup := h2.nodup_iff.mp (fold_nodup out [] (by simp))
    exact List.Pairwise.of_map _ (fun a b h e => h (by rw [e])) this
  refine up_ext (L2.lt_of_le_nodup ys h1 nd) ?_ fun k => ?_
  · refine List.Pairwise.filter _ (List.pairwise_map.mpr ?_)
    exact (List.pairwise_lt_range).imp fun h => by omega
  · have e1 : k ∈ ys ↔ (lf rs out k).isSome = true := by
      rw [show k ∈ ys ↔ (Sum.inl k : Key) ∈ ys.map .inl by simp, ← h2.mem_iff, mem_keys, lf_get, Option.isSome_map]
    rw [e1]
    unfold pres
    rw [List.mem_filter]
    refine ⟨fun h => ⟨?_, h⟩, fun h => h.2⟩
    obtain ⟨s, hs⟩ := Option.isSome_iff_exists.mp h
    have hh := List.find?_some hs
    simp [hit] at hh
    have : 0 ≤ k ∧ k < c := by
      rcases cls_cov (s := s) (rs := rs) with ⟨r, hr, _, _, e⟩ | ⟨e, _⟩
      · have := okV_mem hv r hr; omega
      · omega
    exact List.mem_map.mpr ⟨k.toNat, List.mem_range.mpr (by omega), by omega⟩
end K01


set_option Elab.async false
set_option linter.all false
set_option maxRecDepth 100000
set_option maxHeartbeats 1000000
namespace K01
open PySem PySem.Spec PyProof.Rows L2 DL
/-! ### the law itself, from its end -/
structure Tab (S : Store) (p : Addr) (c : Int) (rs : List R3) : Prop where
  g : S p = some .gen
  c1 : 1 ≤ c
  c2 : c ≤ 64
  v : okV c rs = true
  ok : okR (-1) rs = true
  len : rs.length ≤ 300
theorem Tab.okC {S : Store} {p : Addr} {c : Int} {rs : List R3} (h : Tab S p c rs) : okC c rs = true := by simp [K01.okC, h.c1, h.c2, h.v]
theorem shd_tr (n : Nat) (h : 2 ≤ n) : ∀ r : R3, shd n (tr r) = true := fun r => by
  match n, h with
  | n + 2, _ => simp [tr, shd]
theorem refused {S : Store} {p : Addr} {c : Int} {rs : List R3} {l : List R3} {Q : QE} {R : RE} (T : Tab S p c rs) (h1 : okV c l = true) (h2 : okR (-1) l = false) (hl : l.length ≤ 1000) (q : Q (.str "refused") S) : sp__law_told [.int 0, .int c, .lst (dR l)] S Q R := by
  refine .inl ⟨c, _, l, rfl, rfl, hl, fun _ => h2, ?_⟩
  have : okC c l = true := by simp [okC, T.c1, T.c2, h1]
  rw [this]; exact q
theorem fin10 {S : Store} {p : Addr} {c : Int} {rs : List R3} {E : DEnds} (T : Tab S p c rs) (hrt : ∀ S, E.rt (.bl true) S) (a0 a3 a4 a5 a6 a7 a8 a9 a10 a11 a12 a13 a14 a15 a16 a17 a18 a19 a20 a21 a22 a24 : Sl) (bad : List (List R3)) (h : ∀ l ∈ bad, okV c l = true ∧ okR (-1) l = false ∧ l.length ≤ 1000) (hb : bad.length ≤ 20) (R : RE) :
    mComp [24] (mIt (mVar 23)) (gNm 24) m_law_C16t m_law_C16e [a0, .val (.obj p), .val (.int c), a3, a4, a5, a6, a7, a8, a9, a10, a11, a12, a13, a14, a15, a16, a17, a18, a19, a20, a21, a22, .val (.lst (bad.map fun l => .lst (dR l))), a24] S (fun x S1 => oEq x (.lst []) S1 fun z => E.rt z S1) R := by
  simp [mComp, wipeE, mSeq, mIfS, mNext, mOr, mAnd, mNot, mTru, mTst, mIsT, mVar, mOwn, mC, mRet, mOrV, mAndV, mNotV, mChain, mOp, T2, mSet, mSetO, mApp, mAppO, mDrop, mCall, mMeth, mMake, mFld, mSetF, mCB, mCF, mACons, mANil, mLst, mTup, mNeg, mIf, mRaise, mRetN, mFrz, mFrzF, mCell, mFro, endsD, insOf_ins, D.tru, D.ty, D.tyName, isT, mParK, mKVal, mKOwn, mKNil, setE, gNm, gTp, gC1, gN0, mIt, mItT, mRng1, mRng2, mFor, mPopO, int_i, abs_i, int2_ii, oLen, seqOf_lst, seqOf_tup, seqOf_fz, lenOf_lst, lenOf_tup, oIx, oII_ii, oIs, oIsNot, D.isN, mDIn, mDGet, mSetd, mNewD, mSortD, mSortSet, mRevL, mRetG, mSliceL, mNoP, mPart, oTupleOf, oListOf, eq_ii, ne_ii, eq_bb, ne_bb, eq_ss, ne_ss, eq_nil, ne_nil, take_ii]
  refine ⟨_, rfl, wComp_filter (fun _ => false) id (by rfl) (bad.map fun l => D.lst (dR l)) [] (fun d hd Ke Kn hq => ?_) (by simpa using small4 (n := bad.length) (by omega)) ?_⟩
  · obtain ⟨l, hl, rfl⟩ := List.mem_map.mp hd
    obtain ⟨h1, h2, h3⟩ := h l hl
    have hs : PyData.strOk (Str.ofString "refused") = true := by decide +kernel
    simp [m_law_C16t, mSeq, mIfS, mNext, mOr, mAnd, mNot, mTru, mTst, mIsT, mVar, mOwn, mC, mRet, mOrV, mAndV, mNotV, mChain, mOp, T2, mSet, mSetO, mApp, mAppO, mDrop, mCall, mMeth, mMake, mFld, mSetF, mCB, mCF, mACons, mANil, mLst, mTup, mNeg, mIf, mRaise, mRetN, mFrz, mFrzF, mCell, mFro, endsD, insOf_ins, D.tru, D.ty, D.tyName, isT, mParK, mKVal, mKOwn, mKNil, setE, gNm, gTp, gC1, gN0, mIt, mItT, mRng1, mRng2, mFor, mPopO, int_i, abs_i, int2_ii, oLen, seqOf_lst, seqOf_tup, seqOf_fz, lenOf_lst, lenOf_tup, oIx, oII_ii, oIs, oIsNot, D.isN, mDIn, mDGet, mSetd, mNewD, mSortD, mSortSet, mRevL, mRetG, mSliceL, mNoP, mPart, oTupleOf, oListOf, eq_ii, ne_ii, eq_bb, ne_bb, eq_ss, ne_ss, eq_nil, ne_nil, take_ii]
    exact refused T h1 h2 h3 (by simpa [ne_ss, hs] using hq)
  · rw [List.filter_eq_nil_iff.mpr (by simp)]
    simpa [eq_nil] using hrt S
theorem okV_sub {c : Int} : ∀ {l m : List R3}, okV c m = true → (∀ r ∈ l, r ∈ m) → okV c l = true
  | [], _, _, _ => rfl
  | r :: l, m, h, k => by
    have := okV_mem h r (k r List.mem_cons_self)
    simp [okV, this, okV_sub h fun x hx => k x (List.mem_cons_of_mem _ hx)]
theorem okR_no {l : List R3} {i j : Nat} {x y : R3} (hi : l[i]? = some x) (hj : l[j]? = some y) (lt : i < j) (h : y.1 ≤ x.2.1) (b : Int) : okR b l = false := by
  cases e : okR b l with
  | false => rfl
  | true => have := pw_get (okR_all e).2 hi hj lt; omega
theorem mid_get {rs : List R3} {n : Nat} {x : R3} (h : rs[n]? = some x) : (rs.take n ++ (rs.drop n).take 1 ++ rs.drop n)[n]? = some x ∧ (rs.take n ++ (rs.drop n).take 1 ++ rs.drop n)[n + 1]? = some x := by
  obtain ⟨hn, e⟩ := List.getElem?_eq_some_iff.mp h
  have ed : rs.drop n = x :: rs.drop (n + 1) := by rw [List.drop_eq_getElem_cons hn, e]
  have et : (rs.drop n).take 1 = [x] := by rw [ed]; rfl
  have lt : (rs.take n).length = n := by rw [List.length_take]; omega
  rw [et, ed]
  constructor
  · rw [List.getElem?_append_left (by simp; omega), List.getElem?_append_right (by omega), lt]; simp
  · rw [List.getElem?_append_right (by simp; omega)]; simp [lt]
theorem b10 {S : Store} {p : Addr} {c : Int} {rs : List R3} {E : DEnds} (T : Tab S p c rs) (hrt : ∀ S, E.rt (.bl true) S) (a0 a4 a5 a6 a7 a8 a9 a10 a11 a12 a13 a14 a15 a16 a17 a18 a19 a20 a21 a22 a23 a24 : Sl) :
    m_law_B10 E [a0, .val (.obj p), .val (.int c), .val (.lst (dR rs)), a4, a5, a6, a7, a8, a9, a10, a11, a12, a13, a14, a15, a16, a17, a18, a19, a20, a21, a22, a23, a24] S := by
  have c1 := T.c1
  have c2 := T.c2
  have hlen := T.len
  simp [m_law_B10, T.g, mSeq, mIfS, mNext, mOr, mAnd, mNot, mTru, mTst, mIsT, mVar, mOwn, mC, mRet, mOrV, mAndV, mNotV, mChain, mOp, T2, mSet, mSetO, mApp, mAppO, mDrop, mCall, mMeth, mMake, mFld, mSetF, mCB, mCF, mACons, mANil, mLst, mTup, mNeg, mIf, mRaise, mRetN, mFrz, mFrzF, mCell, mFro, endsD, insOf_ins, D.tru, D.ty, D.tyName, isT, mParK, mKVal, mKOwn, mKNil, setE, gNm, gTp, gC1, gN0, mIt, mItT, mRng1, mRng2, mFor, mPopO, int_i, abs_i, int2_ii, oLen, seqOf_lst, seqOf_tup, seqOf_fz, lenOf_lst, lenOf_tup, oIx, oII_ii, oIs, oIsNot, D.isN, mDIn, mDGet, mSetd, mNewD, mSortD, mSortSet, mRevL, mRetG, mSliceL, mNoP, mPart, oTupleOf, oListOf, eq_ii, ne_ii, eq_bb, ne_bb, eq_ss, ne_ss, eq_nil, ne_nil, take_ii]
  refine ⟨by split <;> omega, fun k k0 k1 => ?_⟩
  simp only [sizeLine_eq]
  refine ⟨by omega, by omega, by omega, by omega, by omega, by omega, by omega, by omega, by omega, by omega, by omega, by omega, by omega, by omega, by omega, ?_⟩
  have base : ∀ l ∈ [[((5 : Int), (4 : Int), (0 : Int))], [(5, 9, 0), (9, 10, 0)], [(5, 9, 0), (1, 2, 0)], [(-1, 3, 0)], [(1114100, 1114112, 0)], [(55296, 60000, 0)], [(3, 56000, 0)]], okV c l = true ∧ okR (-1) l = false ∧ l.length ≤ 1000 := fun l hl => by
    have h0 : (0 : Int) < c := by omega
    simp only [List.mem_cons, List.not_mem_nil, or_false] at hl
    rcases hl with rfl | rfl | rfl | rfl | rfl | rfl | rfl <;> refine ⟨by simp [okV, h0], by decide, by simp⟩
  by_cases h1 : rs.length ≤ 1
  · exact .inl ⟨by omega, fin10 T hrt _ _ _ _ _ _ _ _ _ _ _ _ _ _ _ _ _ _ _ _ _ _ _ base (by simp) _⟩
  · refine .inr ⟨by omega, ?_⟩
    rw [if_neg (by omega)] at k1
    obtain ⟨n, rfl⟩ : ∃ n : Nat, k = n := ⟨k.toNat, by omega⟩
    have hn : n < rs.length := by omega
    refine ⟨_, rfl, _, rfl, _, rfl, ⟨_, _, rfl, rfl, ?_, _, rfl, ⟨_, _, rfl, rfl, ?_, by omega, ⟨_, _, rfl, rfl, ?_, ?_⟩⟩⟩⟩
    · rw [cut_take, show ((n : Int) + 1) = ((n + 1 : Nat) : Int) by simp, cut_mid (by omega) (by simp; omega)]
      rw [sizeLine_eq]; simp; omega
    · rw [cut_take, cut_drop, show ((n : Int) + 1) = ((n + 1 : Nat) : Int) by simp, cut_mid (by omega) (by simp; omega)]
      rw [sizeLine_eq]; simp; omega
    · rw [sizeLine_eq]; simp
    · have eD : cutD (dR rs) none (some (n : Int)) ++ cutD (dR rs) (some (n : Int)) (some ((n : Int) + 1)) ++ cutD (dR rs) (some (n : Int)) none = dR (rs.take n ++ (rs.drop n).take 1 ++ rs.drop n) := by
        rw [cut_take, cut_drop, show ((n : Int) + 1) = ((n + 1 : Nat) : Int) by simp, cut_mid (by omega) (by simp; omega)]
        simp [List.map_take, List.map_drop]
      rw [eD, show (dR rs).reverse = dR rs.reverse by simp]
      refine fin10 T hrt _ _ _ _ _ _ _ _ _ _ _ _ _ _ _ _ _ _ _ _ _ _ ([[((5 : Int), (4 : Int), (0 : Int))], [(5, 9, 0), (9, 10, 0)], [(5, 9, 0), (1, 2, 0)], [(-1, 3, 0)], [(1114100, 1114112, 0)], [(55296, 60000, 0)], [(3, 56000, 0)]] ++ [rs.reverse, rs.take n ++ (rs.drop n).take 1 ++ rs.drop n]) (fun l hl => ?_) (by simp) _
      rcases List.mem_append.mp hl with hl | hl
      · exact base l hl
      · obtain ⟨r0, e0⟩ : ∃ x, rs[0]? = some x := ⟨_, List.getElem?_eq_getElem (by omega)⟩
        obtain ⟨r1, e1⟩ : ∃ x, rs[1]? = some x := ⟨_, List.getElem?_eq_getElem (by omega)⟩
        obtain ⟨rn, en⟩ : ∃ x, rs[n]? = some x := ⟨_, List.getElem?_eq_getElem hn⟩
        obtain ⟨o1, o2⟩ := okR_all T.ok
        simp only [List.mem_cons, List.not_mem_nil, or_false] at hl
        rcases hl with rfl | rfl
        · refine ⟨okV_sub T.v fun r hr => List.mem_reverse.mp hr, okR_no (i := rs.length - 2) (j := rs.length - 1) (x := r1) (y := r0) ?_ ?_ (by omega) ?_ _, by simp; omega⟩
          · rw [List.getElem?_reverse (by omega), ← e1]; congr 1; omega
          · rw [List.getElem?_reverse (by omega), ← e0]; congr 1; omega
          · have := pw_get o2 e0 e1 (by omega)
            have := (o1 r0 (List.mem_of_getElem? e0)).le
            have := (o1 r1 (List.mem_of_getElem? e1)).le
            omega
        · refine ⟨okV_sub T.v fun r hr => ?_, okR_no (i := n) (j := n + 1) (x := rn) (y := rn) ?_ ?_ (by omega) (o1 rn (List.mem_of_getElem? en)).le _, by simp; omega⟩
          · rcases List.mem_append.mp hr with hr | hr
            · rcases List.mem_append.mp hr with hr | hr
              · exact List.mem_of_mem_take hr
              · exact List.mem_of_mem_drop (List.mem_of_mem_take hr)
            · exact List.mem_of_mem_drop hr
          · exact (mid_get en).1
          · exact (mid_get en).2
/-! words of what is none -/
theorem ne_same {d : D} {S : Store} {Q : D → Prop} (h : shd 8 d = true) (q : Q (.bl false)) : oNe d d S Q := ⟨h, h, by rw [eqd_self h]; exact q⟩
theorem okStr : PyData.strOk (Str.ofString "range") = true := by decide +kernel
theorem okStr2 : PyData.strOk (Str.ofString "none") = true := by decide +kernel
theorem ranged {S : Store} {c : Int} {l : List R3} {Q : QE} {R : RE} (h1 : okC c l = false) (hl : l.length ≤ 1000) (q : Q (.str "range") S) : sp__law_told [.int 0, .int c, .lst (dR l)] S Q R := by
  refine .inl ⟨c, _, l, rfl, rfl, hl, (fun h => absurd (h1.symm.trans h) (by simp)), ?_⟩
  rw [h1]; exact q
theorem b9 {S : Store} {p : Addr} {c : Int} {rs : List R3} {E : DEnds} (T : Tab S p c rs) (hrt : ∀ S, E.rt (.bl true) S) (a0 a4 a5 a6 a7 a8 a9 a10 a11 a12 a13 a14 a15 a16 a17 a18 a19 a20 a21 a22 a23 a24 : Sl) :
    m_law_B9 E [a0, .val (.obj p), .val (.int c), .val (.lst (dR rs)), a4, a5, a6, a7, a8, a9, a10, a11, a12, a13, a14, a15, a16, a17, a18, a19, a20, a21, a22, a23, a24] S := by
  have c1 := T.c1
  have c2 := T.c2
  simp [m_law_B9, mComp, wipeE, mSeq, mIfS, mNext, mOr, mAnd, mNot, mTru, mTst, mIsT, mVar, mOwn, mC, mRet, mOrV, mAndV, mNotV, mChain, mOp, T2, mSet, mSetO, mApp, mAppO, mDrop, mCall, mMeth, mMake, mFld, mSetF, mCB, mCF, mACons, mANil, mLst, mTup, mNeg, mIf, mRaise, mRetN, mFrz, mFrzF, mCell, mFro, endsD, insOf_ins, D.tru, D.ty, D.tyName, isT, mParK, mKVal, mKOwn, mKNil, setE, gNm, gTp, gC1, gN0, mIt, mItT, mRng1, mRng2, mFor, mPopO, int_i, abs_i, int2_ii, oLen, seqOf_lst, seqOf_tup, seqOf_fz, lenOf_lst, lenOf_tup, oIx, oII_ii, oIs, oIsNot, D.isN, mDIn, mDGet, mSetd, mNewD, mSortD, mSortSet, mRevL, mRetG, mSliceL, mNoP, mPart, oTupleOf, oListOf, eq_ii, ne_ii, eq_bb, ne_bb, eq_ss, ne_ss, eq_nil, ne_nil, take_ii]
  simp only [sizeLine_eq]
  refine ⟨by omega, by omega, by omega, by omega, by omega, by omega, by omega, by omega, _, rfl, wComp_map (fun _ => .str "range") (by rfl) [D.tup [D.int 0, D.lst []], D.tup [D.int 65, D.lst []], D.tup [D.int c, D.lst [D.tup [D.int 5, D.int 4, D.int c]]], D.tup [D.int c, D.lst [D.tup [D.int 5, D.int 6, D.int (-1)]]]] [] (fun d hd Ke hk => ?_) (by simp [sizeLine_eq]) ?_⟩
  · simp only [List.mem_cons, List.not_mem_nil, or_false] at hd
    rcases hd with rfl | rfl | rfl | rfl
    · simp [m_law_C15e, mSeq, mIfS, mNext, mOr, mAnd, mNot, mTru, mTst, mIsT, mVar, mOwn, mC, mRet, mOrV, mAndV, mNotV, mChain, mOp, T2, mSet, mSetO, mApp, mAppO, mDrop, mCall, mMeth, mMake, mFld, mSetF, mCB, mCF, mACons, mANil, mLst, mTup, mNeg, mIf, mRaise, mRetN, mFrz, mFrzF, mCell, mFro, endsD, insOf_ins, D.tru, D.ty, D.tyName, isT, mParK, mKVal, mKOwn, mKNil, setE, gNm, gTp, gC1, gN0, mIt, mItT, mRng1, mRng2, mFor, mPopO, int_i, abs_i, int2_ii, oLen, seqOf_lst, seqOf_tup, seqOf_fz, lenOf_lst, lenOf_tup, oIx, oII_ii, oIs, oIsNot, D.isN, mDIn, mDGet, mSetd, mNewD, mSortD, mSortSet, mRevL, mRetG, mSliceL, mNoP, mPart, oTupleOf, oListOf, eq_ii, ne_ii, eq_bb, ne_bb, eq_ss, ne_ss, eq_nil, ne_nil, take_ii]
      exact ranged (l := []) (by decide) (by simp) hk
    · simp [m_law_C15e, mSeq, mIfS, mNext, mOr, mAnd, mNot, mTru, mTst, mIsT, mVar, mOwn, mC, mRet, mOrV, mAndV, mNotV, mChain, mOp, T2, mSet, mSetO, mApp, mAppO, mDrop, mCall, mMeth, mMake, mFld, mSetF, mCB, mCF, mACons, mANil, mLst, mTup, mNeg, mIf, mRaise, mRetN, mFrz, mFrzF, mCell, mFro, endsD, insOf_ins, D.tru, D.ty, D.tyName, isT, mParK, mKVal, mKOwn, mKNil, setE, gNm, gTp, gC1, gN0, mIt, mItT, mRng1, mRng2, mFor, mPopO, int_i, abs_i, int2_ii, oLen, seqOf_lst, seqOf_tup, seqOf_fz, lenOf_lst, lenOf_tup, oIx, oII_ii, oIs, oIsNot, D.isN, mDIn, mDGet, mSetd, mNewD, mSortD, mSortSet, mRevL, mRetG, mSliceL, mNoP, mPart, oTupleOf, oListOf, eq_ii, ne_ii, eq_bb, ne_bb, eq_ss, ne_ss, eq_nil, ne_nil, take_ii]
      exact ranged (l := []) (by decide) (by simp) hk
    · simp [m_law_C15e, mSeq, mIfS, mNext, mOr, mAnd, mNot, mTru, mTst, mIsT, mVar, mOwn, mC, mRet, mOrV, mAndV, mNotV, mChain, mOp, T2, mSet, mSetO, mApp, mAppO, mDrop, mCall, mMeth, mMake, mFld, mSetF, mCB, mCF, mACons, mANil, mLst, mTup, mNeg, mIf, mRaise, mRetN, mFrz, mFrzF, mCell, mFro, endsD, insOf_ins, D.tru, D.ty, D.tyName, isT, mParK, mKVal, mKOwn, mKNil, setE, gNm, gTp, gC1, gN0, mIt, mItT, mRng1, mRng2, mFor, mPopO, int_i, abs_i, int2_ii, oLen, seqOf_lst, seqOf_tup, seqOf_fz, lenOf_lst, lenOf_tup, oIx, oII_ii, oIs, oIsNot, D.isN, mDIn, mDGet, mSetd, mNewD, mSortD, mSortSet, mRevL, mRetG, mSliceL, mNoP, mPart, oTupleOf, oListOf, eq_ii, ne_ii, eq_bb, ne_bb, eq_ss, ne_ss, eq_nil, ne_nil, take_ii]
      exact ranged (l := [(5, 4, c)]) (by simp [okC, okV]) (by simp) hk
    · simp [m_law_C15e, mSeq, mIfS, mNext, mOr, mAnd, mNot, mTru, mTst, mIsT, mVar, mOwn, mC, mRet, mOrV, mAndV, mNotV, mChain, mOp, T2, mSet, mSetO, mApp, mAppO, mDrop, mCall, mMeth, mMake, mFld, mSetF, mCB, mCF, mACons, mANil, mLst, mTup, mNeg, mIf, mRaise, mRetN, mFrz, mFrzF, mCell, mFro, endsD, insOf_ins, D.tru, D.ty, D.tyName, isT, mParK, mKVal, mKOwn, mKNil, setE, gNm, gTp, gC1, gN0, mIt, mItT, mRng1, mRng2, mFor, mPopO, int_i, abs_i, int2_ii, oLen, seqOf_lst, seqOf_tup, seqOf_fz, lenOf_lst, lenOf_tup, oIx, oII_ii, oIs, oIsNot, D.isN, mDIn, mDGet, mSetd, mNewD, mSortD, mSortSet, mRevL, mRetG, mSliceL, mNoP, mPart, oTupleOf, oListOf, eq_ii, ne_ii, eq_bb, ne_bb, eq_ss, ne_ss, eq_nil, ne_nil, take_ii]
      exact ranged (l := [(5, 6, -1)]) (by simp [okC, okV]) (by simp) hk
  · refine ⟨by omega, _, 4, rfl, rfl, by omega, by omega, by simp [sizeLine_eq], ?_⟩
    refine ne_same (by simp [shd, okStr]) (.inl ⟨rfl, b10 T hrt _ _ _ _ _ _ _ _ _ _ _ _ _ _ _ _ _ _ _ _ _ _⟩)
theorem b8 {S : Store} {p : Addr} {c : Int} {rs : List R3} {out : List Int} {E : DEnds} (T : Tab S p c rs) (hrt : ∀ S, E.rt (.bl true) S) (a0 a4 a5 a6 a8 a9 a10 a11 a12 a13 a14 a15 a16 a17 a18 a19 a20 a21 a22 a23 a24 : Sl) :
    m_law_B8 E [a0, .val (.obj p), .val (.int c), .val (.lst (dR rs)), a4, a5, a6, .val (tbl c rs out), a8, a9, a10, a11, a12, a13, a14, a15, a16, a17, a18, a19, a20, a21, a22, a23, a24] S := by
  have c1 := T.c1
  have c2 := T.c2
  have hlen := T.len
  simp [m_law_B8, mComp, wipeE, mSeq, mIfS, mNext, mOr, mAnd, mNot, mTru, mTst, mIsT, mVar, mOwn, mC, mRet, mOrV, mAndV, mNotV, mChain, mOp, T2, mSet, mSetO, mApp, mAppO, mDrop, mCall, mMeth, mMake, mFld, mSetF, mCB, mCF, mACons, mANil, mLst, mTup, mNeg, mIf, mRaise, mRetN, mFrz, mFrzF, mCell, mFro, endsD, insOf_ins, D.tru, D.ty, D.tyName, isT, mParK, mKVal, mKOwn, mKNil, setE, gNm, gTp, gC1, gN0, mIt, mItT, mRng1, mRng2, mFor, mPopO, int_i, abs_i, int2_ii, oLen, seqOf_lst, seqOf_tup, seqOf_fz, lenOf_lst, lenOf_tup, oIx, oII_ii, oIs, oIsNot, D.isN, mDIn, mDGet, mSetd, mNewD, mSortD, mSortSet, mRevL, mRetG, mSliceL, mNoP, mPart, oTupleOf, oListOf, eq_ii, ne_ii, eq_bb, ne_bb, eq_ss, ne_ss, eq_nil, ne_nil, take_ii]
  simp only [sizeLine_eq]
  refine ⟨by omega, _, rfl, wComp_map (fun _ => .str "range") (by rfl) [D.int (-1), D.int c] [] (fun d hd Ke hk => ?_) (by simp [sizeLine_eq]) ?_⟩
  · simp only [List.mem_cons, List.not_mem_nil, or_false] at hd
    rcases hd with rfl | rfl
    · simp [m_law_C13e, mSeq, mIfS, mNext, mOr, mAnd, mNot, mTru, mTst, mIsT, mVar, mOwn, mC, mRet, mOrV, mAndV, mNotV, mChain, mOp, T2, mSet, mSetO, mApp, mAppO, mDrop, mCall, mMeth, mMake, mFld, mSetF, mCB, mCF, mACons, mANil, mLst, mTup, mNeg, mIf, mRaise, mRetN, mFrz, mFrzF, mCell, mFro, endsD, insOf_ins, D.tru, D.ty, D.tyName, isT, mParK, mKVal, mKOwn, mKNil, setE, gNm, gTp, gC1, gN0, mIt, mItT, mRng1, mRng2, mFor, mPopO, int_i, abs_i, int2_ii, oLen, seqOf_lst, seqOf_tup, seqOf_fz, lenOf_lst, lenOf_tup, oIx, oII_ii, oIs, oIsNot, D.isN, mDIn, mDGet, mSetd, mNewD, mSortD, mSortSet, mRevL, mRetG, mSliceL, mNoP, mPart, oTupleOf, oListOf, eq_ii, ne_ii, eq_bb, ne_bb, eq_ss, ne_ss, eq_nil, ne_nil, take_ii]
      exact .inr (.inl ⟨c, rs, out, -1, rfl, by rw [if_pos (by omega)]; exact hk⟩)
    · simp [m_law_C13e, mSeq, mIfS, mNext, mOr, mAnd, mNot, mTru, mTst, mIsT, mVar, mOwn, mC, mRet, mOrV, mAndV, mNotV, mChain, mOp, T2, mSet, mSetO, mApp, mAppO, mDrop, mCall, mMeth, mMake, mFld, mSetF, mCB, mCF, mACons, mANil, mLst, mTup, mNeg, mIf, mRaise, mRetN, mFrz, mFrzF, mCell, mFro, endsD, insOf_ins, D.tru, D.ty, D.tyName, isT, mParK, mKVal, mKOwn, mKNil, setE, gNm, gTp, gC1, gN0, mIt, mItT, mRng1, mRng2, mFor, mPopO, int_i, abs_i, int2_ii, oLen, seqOf_lst, seqOf_tup, seqOf_fz, lenOf_lst, lenOf_tup, oIx, oII_ii, oIs, oIsNot, D.isN, mDIn, mDGet, mSetd, mNewD, mSortD, mSortSet, mRevL, mRetG, mSliceL, mNoP, mPart, oTupleOf, oListOf, eq_ii, ne_ii, eq_bb, ne_bb, eq_ss, ne_ss, eq_nil, ne_nil, take_ii]
      exact .inr (.inl ⟨c, rs, out, c, rfl, by rw [if_pos (by omega)]; exact hk⟩)
  refine ⟨by omega, _, rfl, wComp_map (fun _ => .str "range") (by rfl) [D.int (-1), D.int 55296, D.int 57343, D.int 1114112] [] (fun d hd Ke hk => ?_) (by simp [sizeLine_eq]) ?_⟩
  · simp only [List.mem_cons, List.not_mem_nil, or_false] at hd
    rcases hd with rfl | rfl | rfl | rfl
    · simp [m_law_C14e, mSeq, mIfS, mNext, mOr, mAnd, mNot, mTru, mTst, mIsT, mVar, mOwn, mC, mRet, mOrV, mAndV, mNotV, mChain, mOp, T2, mSet, mSetO, mApp, mAppO, mDrop, mCall, mMeth, mMake, mFld, mSetF, mCB, mCF, mACons, mANil, mLst, mTup, mNeg, mIf, mRaise, mRetN, mFrz, mFrzF, mCell, mFro, endsD, insOf_ins, D.tru, D.ty, D.tyName, isT, mParK, mKVal, mKOwn, mKNil, setE, gNm, gTp, gC1, gN0, mIt, mItT, mRng1, mRng2, mFor, mPopO, int_i, abs_i, int2_ii, oLen, seqOf_lst, seqOf_tup, seqOf_fz, lenOf_lst, lenOf_tup, oIx, oII_ii, oIs, oIsNot, D.isN, mDIn, mDGet, mSetd, mNewD, mSortD, mSortSet, mRevL, mRetG, mSliceL, mNoP, mPart, oTupleOf, oListOf, eq_ii, ne_ii, eq_bb, ne_bb, eq_ss, ne_ss, eq_nil, ne_nil, take_ii]
      exact .inr (.inr (.inl ⟨c, rs, out, -1, rfl, by omega, T.ok, by decide, hk⟩))
    · simp [m_law_C14e, mSeq, mIfS, mNext, mOr, mAnd, mNot, mTru, mTst, mIsT, mVar, mOwn, mC, mRet, mOrV, mAndV, mNotV, mChain, mOp, T2, mSet, mSetO, mApp, mAppO, mDrop, mCall, mMeth, mMake, mFld, mSetF, mCB, mCF, mACons, mANil, mLst, mTup, mNeg, mIf, mRaise, mRetN, mFrz, mFrzF, mCell, mFro, endsD, insOf_ins, D.tru, D.ty, D.tyName, isT, mParK, mKVal, mKOwn, mKNil, setE, gNm, gTp, gC1, gN0, mIt, mItT, mRng1, mRng2, mFor, mPopO, int_i, abs_i, int2_ii, oLen, seqOf_lst, seqOf_tup, seqOf_fz, lenOf_lst, lenOf_tup, oIx, oII_ii, oIs, oIsNot, D.isN, mDIn, mDGet, mSetd, mNewD, mSortD, mSortSet, mRevL, mRetG, mSliceL, mNoP, mPart, oTupleOf, oListOf, eq_ii, ne_ii, eq_bb, ne_bb, eq_ss, ne_ss, eq_nil, ne_nil, take_ii]
      exact .inr (.inr (.inl ⟨c, rs, out, 55296, rfl, by omega, T.ok, by decide, hk⟩))
    · simp [m_law_C14e, mSeq, mIfS, mNext, mOr, mAnd, mNot, mTru, mTst, mIsT, mVar, mOwn, mC, mRet, mOrV, mAndV, mNotV, mChain, mOp, T2, mSet, mSetO, mApp, mAppO, mDrop, mCall, mMeth, mMake, mFld, mSetF, mCB, mCF, mACons, mANil, mLst, mTup, mNeg, mIf, mRaise, mRetN, mFrz, mFrzF, mCell, mFro, endsD, insOf_ins, D.tru, D.ty, D.tyName, isT, mParK, mKVal, mKOwn, mKNil, setE, gNm, gTp, gC1, gN0, mIt, mItT, mRng1, mRng2, mFor, mPopO, int_i, abs_i, int2_ii, oLen, seqOf_lst, seqOf_tup, seqOf_fz, lenOf_lst, lenOf_tup, oIx, oII_ii, oIs, oIsNot, D.isN, mDIn, mDGet, mSetd, mNewD, mSortD, mSortSet, mRevL, mRetG, mSliceL, mNoP, mPart, oTupleOf, oListOf, eq_ii, ne_ii, eq_bb, ne_bb, eq_ss, ne_ss, eq_nil, ne_nil, take_ii]
      exact .inr (.inr (.inl ⟨c, rs, out, 57343, rfl, by omega, T.ok, by decide, hk⟩))
    · simp [m_law_C14e, mSeq, mIfS, mNext, mOr, mAnd, mNot, mTru, mTst, mIsT, mVar, mOwn, mC, mRet, mOrV, mAndV, mNotV, mChain, mOp, T2, mSet, mSetO, mApp, mAppO, mDrop, mCall, mMeth, mMake, mFld, mSetF, mCB, mCF, mACons, mANil, mLst, mTup, mNeg, mIf, mRaise, mRetN, mFrz, mFrzF, mCell, mFro, endsD, insOf_ins, D.tru, D.ty, D.tyName, isT, mParK, mKVal, mKOwn, mKNil, setE, gNm, gTp, gC1, gN0, mIt, mItT, mRng1, mRng2, mFor, mPopO, int_i, abs_i, int2_ii, oLen, seqOf_lst, seqOf_tup, seqOf_fz, lenOf_lst, lenOf_tup, oIx, oII_ii, oIs, oIsNot, D.isN, mDIn, mDGet, mSetd, mNewD, mSortD, mSortSet, mRevL, mRetG, mSliceL, mNoP, mPart, oTupleOf, oListOf, eq_ii, ne_ii, eq_bb, ne_bb, eq_ss, ne_ss, eq_nil, ne_nil, take_ii]
      exact .inr (.inr (.inl ⟨c, rs, out, 1114112, rfl, by omega, T.ok, by decide, hk⟩))
  refine ⟨_, _, rfl, rfl, by simp [sizeLine_eq], by omega, .inr (.inr (.inr ⟨c, rs, out, _, [65, 56000], rfl, rfl, by simp, by omega, T.ok, by decide, by omega, _, _, rfl, rfl, by simp [sizeLine_eq], by omega, _, 7, rfl, rfl, by omega, by omega, by simp [sizeLine_eq], ?_⟩))⟩
  refine ne_same (by simp [shd, okStr]) (.inl ⟨rfl, b9 T hrt _ _ _ _ _ _ _ _ _ _ _ _ _ _ _ _ _ _ _ _ _ _⟩)
end K01


set_option Elab.async false
set_option linter.all false
set_option maxRecDepth 100000
set_option maxHeartbeats 1000000
namespace K01
open PySem PySem.Spec PyProof.Rows L2 DL
theorem Al_int {n : Nat} {S : Store} {i : Int} : Al (n + 1) S (.int i) (.int i) := .inl ⟨rfl, .inr (.inr (.inl ⟨i, rfl⟩))⟩
theorem Al_str {n : Nat} {S : Store} {x : Str} (h : PyData.strOk x = true) : Al (n + 1) S (.str x) (.str x) := .inl ⟨rfl, .inr (.inr (.inr ⟨x, rfl, h⟩))⟩
theorem Al_lst {n : Nat} {S : Store} {l : List D} (hl : l.length ≤ 1000) (h : ∀ x ∈ l, Al n S x x) : Al (n + 1) S (.lst l) (.lst l) :=
  .inr (.inl ⟨l, l, rfl, .inl rfl, rfl, hl, fun i x y e e' => by rw [e] at e'; cases e'; exact h x (List.mem_of_getElem? e)⟩)
theorem Al_obj {n : Nat} {S : Store} {a : Addr} {l : List D} (hs : S a = some (.lst l)) (hl : l.length ≤ 1000) (h : ∀ x ∈ l, Al n S x x) : Al (n + 1) S (.obj a) (.lst l) :=
  .inr (.inl ⟨l, l, rfl, .inr ⟨a, rfl, hs⟩, rfl, hl, fun i x y e e' => by rw [e] at e'; cases e'; exact h x (List.mem_of_getElem? e)⟩)
theorem Al_tup {n : Nat} {S : Store} {l : List D} (hl : l.length ≤ 1000) (h : ∀ x ∈ l, Al n S x x) : Al (n + 1) S (.tup l) (.tup l) :=
  .inr (.inr ⟨l, l, rfl, rfl, rfl, hl, fun i x y e e' => by rw [e] at e'; cases e'; exact h x (List.mem_of_getElem? e)⟩)
theorem Al_dI {n : Nat} {S : Store} {l : List Int} : ∀ x ∈ dI l, Al (n + 1) S x x := fun x hx => by
  obtain ⟨i, _, rfl⟩ := List.mem_map.mp hx
  exact Al_int
theorem pres_len {c : Int} {rs : List R3} {out : List Int} (h : c ≤ 64) : (pres c rs out).length ≤ 64 := by
  unfold pres
  refine Nat.le_trans (List.length_filter_le _ _) ?_
  rw [List.length_map, List.length_range]; omega
theorem Tab.upd {S : Store} {p q : Addr} {c : Int} {rs : List R3} {cc : Cell} (T : Tab S p c rs) (h : q ≠ p) : Tab (S.upd q cc) p c rs := ⟨by rw [upd_other (Ne.symm h)]; exact T.g, T.c1, T.c2, T.v, T.ok, T.len⟩
theorem Tab.ne {S : Store} {p q : Addr} {c : Int} {rs : List R3} (T : Tab S p c rs) (h : S q ≠ some .gen) : q ≠ p := fun z => h (z ▸ T.g)
theorem b7 {S : Store} {p q : Addr} {c : Int} {rs : List R3} {out : List Int} {E : DEnds} {l : List D} (T : Tab S p c rs) (hq : S q = some (.lst l)) (hl : l.length ≤ 1000) (hrt : ∀ S, E.rt (.bl true) S) (a0 a4 a5 a6 a8 a9 a10 a11 a12 a13 a14 a15 a16 a17 a20 a21 a22 a23 a24 : Sl) :
    m_law_B7 E [a0, .val (.obj p), .val (.int c), .val (.lst (dR rs)), a4, a5, a6, .val (tbl c rs out), a8, a9, a10, a11, a12, a13, a14, a15, a16, a17, .val (.lst (dI (pres c rs out))), .val (.obj q), a20, a21, a22, a23, a24] S := by
  simp [m_law_B7, hq, mSeq, mIfS, mNext, mOr, mAnd, mNot, mTru, mTst, mIsT, mVar, mOwn, mC, mRet, mOrV, mAndV, mNotV, mChain, mOp, T2, mSet, mSetO, mApp, mAppO, mDrop, mCall, mMeth, mMake, mFld, mSetF, mCB, mCF, mACons, mANil, mLst, mTup, mNeg, mIf, mRaise, mRetN, mFrz, mFrzF, mCell, mFro, endsD, insOf_ins, D.tru, D.ty, D.tyName, isT, mParK, mKVal, mKOwn, mKNil, setE, gNm, gTp, gC1, gN0, mIt, mItT, mRng1, mRng2, mFor, mPopO, int_i, abs_i, int2_ii, oLen, seqOf_lst, seqOf_tup, seqOf_fz, lenOf_lst, lenOf_tup, oIx, oII_ii, oIs, oIsNot, D.isN, mDIn, mDGet, mSetd, mNewD, mSortD, mSortSet, mRevL, mRetG, mSliceL, mNoP, mPart, oTupleOf, oListOf, eq_ii, ne_ii, eq_bb, ne_bb, eq_ss, ne_ss, eq_nil, ne_nil, take_ii]
  refine ⟨small5 (by omega), _, rfl, tbl_no, c, rs, out, rfl, fun ys p' h1 h2 h3 => ?_⟩
  have hp : ys = pres c rs out := pres_eq T.v (by have := T.c1; omega) h1 h2
  subst hp
  have nq : q ≠ p := T.ne (by rw [hq]; simp)
  have T2 := T.upd (cc := .lst (l ++ [.int 5])) nq
  have np : p' ≠ p := T2.ne (by rw [h3]; simp)
  have := pres_len (c := c) (rs := rs) (out := out) T.c2
  refine (show sp__law_alike 5 [_, _] _ _ _ from ⟨_, _, rfl, Al_obj upd_same' (by rw [List.length_map]; omega) Al_dI, ?_⟩)
  simp
  exact b8 (T2.upd np) hrt _ _ _ _ _ _ _ _ _ _ _ _ _ _ _ _ _ _ _ _ _
/-- the least signs, as the list has them -/
def leasts (c : Int) (rs : List R3) (out : List Int) : List D := (rngD 0 c.toNat).map fun d => match d with | .int i => optD (lf rs out i) | d => d
def wordD : Option Int → D
  | none => .str "none"
  | some i => .int i
theorem b6 {S : Store} {p : Addr} {c : Int} {rs : List R3} {out : List Int} {E : DEnds} (T : Tab S p c rs) (hrt : ∀ S, E.rt (.bl true) S) (a0 a4 a5 a6 a8 a9 a10 a11 a12 a13 a14 a15 a16 a19 a20 a21 a22 a23 a24 : Sl) :
    m_law_B6 E [a0, .val (.obj p), .val (.int c), .val (.lst (dR rs)), a4, a5, a6, .val (tbl c rs out), a8, a9, a10, a11, a12, a13, a14, a15, a16, .val (.lst (leasts c rs out)), .val (.lst (dI (pres c rs out))), a19, a20, a21, a22, a23, a24] S := by
  simp [m_law_B6, mComp, wipeE, mSeq, mIfS, mNext, mOr, mAnd, mNot, mTru, mTst, mIsT, mVar, mOwn, mC, mRet, mOrV, mAndV, mNotV, mChain, mOp, T2, mSet, mSetO, mApp, mAppO, mDrop, mCall, mMeth, mMake, mFld, mSetF, mCB, mCF, mACons, mANil, mLst, mTup, mNeg, mIf, mRaise, mRetN, mFrz, mFrzF, mCell, mFro, endsD, insOf_ins, D.tru, D.ty, D.tyName, isT, mParK, mKVal, mKOwn, mKNil, setE, gNm, gTp, gC1, gN0, mIt, mItT, mRng1, mRng2, mFor, mPopO, int_i, abs_i, int2_ii, oLen, seqOf_lst, seqOf_tup, seqOf_fz, lenOf_lst, lenOf_tup, oIx, oII_ii, oIs, oIsNot, D.isN, mDIn, mDGet, mSetd, mNewD, mSortD, mSortSet, mRevL, mRetG, mSliceL, mNoP, mPart, oTupleOf, oListOf, eq_ii, ne_ii, eq_bb, ne_bb, eq_ss, ne_ss, eq_nil, ne_nil, take_ii]
  refine ⟨_, rfl, tbl_no, c, rs, out, rfl, fun ys q h1 h2 h3 => ?_⟩
  have hp : ys = pres c rs out := pres_eq T.v (by have := T.c1; omega) h1 h2
  subst hp
  have nq : q ≠ p := T.ne (by rw [h3]; simp)
  have T2 := T.upd (cc := .lst (dI (pres c rs out))) nq
  have := pres_len (c := c) (rs := rs) (out := out) T.c2
  have c1 := T.c1
  have c2 := T.c2
  refine (show sp__law_alike 5 [_, _] _ _ _ from ⟨_, _, rfl, Al_obj upd_same' (by rw [List.length_map]; omega) Al_dI, ?_⟩)
  simp
  have hn : (rngD 0 c.toNat).length = c.toNat := by simp [rngD]
  refine ⟨by omega, by omega, wComp_map (fun d => match d with | .int i => wordD (lf rs out i) | d => d) trivial _ [] (fun d hd Ke hk => ?_) (by rw [hn]; exact small4 (by simp; omega)) ?_⟩
  · obtain ⟨i, hi, rfl⟩ := rng_mem hd
    simp [m_law_C12e, mSeq, mIfS, mNext, mOr, mAnd, mNot, mTru, mTst, mIsT, mVar, mOwn, mC, mRet, mOrV, mAndV, mNotV, mChain, mOp, T2, mSet, mSetO, mApp, mAppO, mDrop, mCall, mMeth, mMake, mFld, mSetF, mCB, mCF, mACons, mANil, mLst, mTup, mNeg, mIf, mRaise, mRetN, mFrz, mFrzF, mCell, mFro, endsD, insOf_ins, D.tru, D.ty, D.tyName, isT, mParK, mKVal, mKOwn, mKNil, setE, gNm, gTp, gC1, gN0, mIt, mItT, mRng1, mRng2, mFor, mPopO, int_i, abs_i, int2_ii, oLen, seqOf_lst, seqOf_tup, seqOf_fz, lenOf_lst, lenOf_tup, oIx, oII_ii, oIs, oIsNot, D.isN, mDIn, mDGet, mSetd, mNewD, mSortD, mSortSet, mRevL, mRetG, mSliceL, mNoP, mPart, oTupleOf, oListOf, eq_ii, ne_ii, eq_bb, ne_bb, eq_ss, ne_ss, eq_nil, ne_nil, take_ii]
    refine .inr (.inl ⟨c, rs, out, i, rfl, ?_⟩)
    rw [if_neg (by omega), lf_get]
    cases h : lf rs out i with
    | none => simpa [h, wordD] using hk
    | some z => simpa [h, wordD] using hk
  refine ⟨_, rfl, wComp_map (fun d => match d with | .non => .str "none" | d => d) (by rfl) (leasts c rs out) [] (fun d hd Ke hk => ?_) (by unfold leasts; rw [List.length_map, hn]; exact small4 (by simp; omega)) ?_⟩
  · obtain ⟨d', hd', rfl⟩ := List.mem_map.mp hd
    obtain ⟨i, hi, rfl⟩ := rng_mem hd'
    simp [m_law_C11e, mSeq, mIfS, mNext, mOr, mAnd, mNot, mTru, mTst, mIsT, mVar, mOwn, mC, mRet, mOrV, mAndV, mNotV, mChain, mOp, T2, mSet, mSetO, mApp, mAppO, mDrop, mCall, mMeth, mMake, mFld, mSetF, mCB, mCF, mACons, mANil, mLst, mTup, mNeg, mIf, mRaise, mRetN, mFrz, mFrzF, mCell, mFro, endsD, insOf_ins, D.tru, D.ty, D.tyName, isT, mParK, mKVal, mKOwn, mKNil, setE, gNm, gTp, gC1, gN0, mIt, mItT, mRng1, mRng2, mFor, mPopO, int_i, abs_i, int2_ii, oLen, seqOf_lst, seqOf_tup, seqOf_fz, lenOf_lst, lenOf_tup, oIx, oII_ii, oIs, oIsNot, D.isN, mDIn, mDGet, mSetd, mNewD, mSortD, mSortSet, mRevL, mRetG, mSliceL, mNoP, mPart, oTupleOf, oListOf, eq_ii, ne_ii, eq_bb, ne_bb, eq_ss, ne_ss, eq_nil, ne_nil, take_ii]
    simp at hk
    cases h : lf rs out i with
    | none => simp [h, optD] at hk ⊢; exact hk
    | some z => simp [h, optD] at hk ⊢; exact hk
  have eW : (leasts c rs out).map (fun d => match d with | D.non => D.str "none" | d => d) = (rngD 0 c.toNat).map (fun d => match d with | .int i => wordD (lf rs out i) | d => d) := by
    unfold leasts
    rw [List.map_map]
    refine List.map_congr_left fun d hd => ?_
    obtain ⟨i, hi, rfl⟩ := rng_mem hd
    simp only [Function.comp]
    cases lf rs out i <;> rfl
  rw [List.nil_append, List.nil_append, eW]
  refine (show sp__law_alike 5 [_, _] _ _ _ from ⟨_, _, rfl, Al_lst (by rw [List.length_map, hn]; omega) (fun x hx => ?_), ?_⟩)
  · obtain ⟨d, hd, rfl⟩ := List.mem_map.mp hx
    obtain ⟨i, hi, rfl⟩ := rng_mem hd
    show Al 4 _ (wordD (lf rs out i)) (wordD (lf rs out i))
    cases lf rs out i with
    | none => exact Al_str okStr2
    | some z => exact Al_int
  simp
  exact b7 T2 upd_same' (by rw [List.length_map]; omega) hrt _ _ _ _ _ _ _ _ _ _ _ _ _ _ _ _ _ _ _
theorem b5 {S : Store} {p : Addr} {c : Int} {rs : List R3} {out : List Int} {E : DEnds} (T : Tab S p c rs) (hc : Cuts rs out) (hrt : ∀ S, E.rt (.bl true) S) (a0 a4 a5 a6 a8 a9 a10 a11 a12 a13 a14 a15 a16 a17 a18 a19 a20 a21 a22 a23 a24 : Sl) :
    m_law_B5 E [a0, .val (.obj p), .val (.int c), .val (.lst (dR rs)), a4, a5, a6, .val (tbl c rs out), a8, a9, a10, a11, a12, a13, a14, a15, a16, a17, a18, a19, a20, a21, a22, a23, a24] S := by
  have c1 := T.c1
  have c2 := T.c2
  have hlen := T.len
  have hn : (rngD 0 c.toNat).length = c.toNat := by simp [rngD]
  simp [m_law_B5, mComp, wipeE, mSeq, mIfS, mNext, mOr, mAnd, mNot, mTru, mTst, mIsT, mVar, mOwn, mC, mRet, mOrV, mAndV, mNotV, mChain, mOp, T2, mSet, mSetO, mApp, mAppO, mDrop, mCall, mMeth, mMake, mFld, mSetF, mCB, mCF, mACons, mANil, mLst, mTup, mNeg, mIf, mRaise, mRetN, mFrz, mFrzF, mCell, mFro, endsD, insOf_ins, D.tru, D.ty, D.tyName, isT, mParK, mKVal, mKOwn, mKNil, setE, gNm, gTp, gC1, gN0, mIt, mItT, mRng1, mRng2, mFor, mPopO, int_i, abs_i, int2_ii, oLen, seqOf_lst, seqOf_tup, seqOf_fz, lenOf_lst, lenOf_tup, oIx, oII_ii, oIs, oIsNot, D.isN, mDIn, mDGet, mSetd, mNewD, mSortD, mSortSet, mRevL, mRetG, mSliceL, mNoP, mPart, oTupleOf, oListOf, eq_ii, ne_ii, eq_bb, ne_bb, eq_ss, ne_ss, eq_nil, ne_nil, take_ii]
  refine ⟨by omega, by omega, wComp_map (fun d => match d with | .int i => optD (lf rs out i) | d => d) trivial _ [] (fun d hd Ke hk => ?_) (by rw [hn]; exact small4 (by simp; omega)) ?_⟩
  · obtain ⟨i, hi, rfl⟩ := rng_mem hd
    simp [m_law_C9e, mSeq, mIfS, mNext, mOr, mAnd, mNot, mTru, mTst, mIsT, mVar, mOwn, mC, mRet, mOrV, mAndV, mNotV, mChain, mOp, T2, mSet, mSetO, mApp, mAppO, mDrop, mCall, mMeth, mMake, mFld, mSetF, mCB, mCF, mACons, mANil, mLst, mTup, mNeg, mIf, mRaise, mRetN, mFrz, mFrzF, mCell, mFro, endsD, insOf_ins, D.tru, D.ty, D.tyName, isT, mParK, mKVal, mKOwn, mKNil, setE, gNm, gTp, gC1, gN0, mIt, mItT, mRng1, mRng2, mFor, mPopO, int_i, abs_i, int2_ii, oLen, seqOf_lst, seqOf_tup, seqOf_fz, lenOf_lst, lenOf_tup, oIx, oII_ii, oIs, oIsNot, D.isN, mDIn, mDGet, mSetd, mNewD, mSortD, mSortSet, mRevL, mRetG, mSliceL, mNoP, mPart, oTupleOf, oListOf, eq_ii, ne_ii, eq_bb, ne_bb, eq_ss, ne_ss, eq_nil, ne_nil, take_ii]
    refine (show sp__law_least [_, _] _ _ _ from ⟨_, rs, i, rfl, rfl, by omega, T.ok, fun r hr => ?_⟩)
    rw [least_eq hr (lf_least T.ok hc i)]
    exact hk
  rw [List.nil_append]
  refine ⟨by omega, by omega, wComp_filter (fun d => match d with | .int i => (lf rs out i).isSome | _ => false) id trivial _ [] (fun d hd Ke Kn hq => ?_) (by rw [hn]; exact small4 (by simp; omega)) ?_⟩
  · obtain ⟨i, hi, rfl⟩ := rng_mem hd
    simp [m_law_C10t, m_law_C10e, mSeq, mIfS, mNext, mOr, mAnd, mNot, mTru, mTst, mIsT, mVar, mOwn, mC, mRet, mOrV, mAndV, mNotV, mChain, mOp, T2, mSet, mSetO, mApp, mAppO, mDrop, mCall, mMeth, mMake, mFld, mSetF, mCB, mCF, mACons, mANil, mLst, mTup, mNeg, mIf, mRaise, mRetN, mFrz, mFrzF, mCell, mFro, endsD, insOf_ins, D.tru, D.ty, D.tyName, isT, mParK, mKVal, mKOwn, mKNil, setE, gNm, gTp, gC1, gN0, mIt, mItT, mRng1, mRng2, mFor, mPopO, int_i, abs_i, int2_ii, oLen, seqOf_lst, seqOf_tup, seqOf_fz, lenOf_lst, lenOf_tup, oIx, oII_ii, oIs, oIsNot, D.isN, mDIn, mDGet, mSetd, mNewD, mSortD, mSortSet, mRevL, mRetG, mSliceL, mNoP, mPart, oTupleOf, oListOf, eq_ii, ne_ii, eq_bb, ne_bb, eq_ss, ne_ss, eq_nil, ne_nil, take_ii]
    refine ⟨optD (lf rs out i), L2.atI_nat (by rw [List.getElem?_map, show (rngD 0 c.toNat)[i]? = some (.int i) by simp [rngD, hi]]; rfl), ?_⟩
    cases h : lf rs out i with
    | none => simpa [h, optD] using hq
    | some z => simpa [h, optD] using hq
  have eP : ((rngD 0 c.toNat).filter (fun d => match d with | .int i => (lf rs out i).isSome | _ => false)).map id = dI (pres c rs out) := by
    unfold pres rngD
    rw [List.map_id, dI, List.filter_map, List.filter_map, List.map_map]
    simp [Function.comp_def]
  rw [List.nil_append, eP]
  exact b6 T hrt _ _ _ _ _ _ _ _ _ _ _ _ _ _ _ _ _ _ _
theorem b4 {S : Store} {p : Addr} {c : Int} {rs : List R3} {out so : List Int} {E : DEnds} (T : Tab S p c rs) (hc : Cuts rs out) (hso : so.all isSign = true) (hl : so.length ≤ 1000) (hrt : ∀ S, E.rt (.bl true) S) (a0 a4 a5 a6 a8 a9 a10 a11 a12 a13 a15 a16 a17 a18 a19 a20 a21 a22 a23 a24 : Sl) :
    m_law_B4 E [a0, .val (.obj p), .val (.int c), .val (.lst (dR rs)), a4, a5, a6, .val (tbl c rs out), a8, a9, a10, a11, a12, a13, .val (.lst (dI so)), a15, a16, a17, a18, a19, a20, a21, a22, a23, a24] S := by
  have hlen := T.len
  simp [m_law_B4, mComp, wipeE, mSeq, mIfS, mNext, mOr, mAnd, mNot, mTru, mTst, mIsT, mVar, mOwn, mC, mRet, mOrV, mAndV, mNotV, mChain, mOp, T2, mSet, mSetO, mApp, mAppO, mDrop, mCall, mMeth, mMake, mFld, mSetF, mCB, mCF, mACons, mANil, mLst, mTup, mNeg, mIf, mRaise, mRetN, mFrz, mFrzF, mCell, mFro, endsD, insOf_ins, D.tru, D.ty, D.tyName, isT, mParK, mKVal, mKOwn, mKNil, setE, gNm, gTp, gC1, gN0, mIt, mItT, mRng1, mRng2, mFor, mPopO, int_i, abs_i, int2_ii, oLen, seqOf_lst, seqOf_tup, seqOf_fz, lenOf_lst, lenOf_tup, oIx, oII_ii, oIs, oIsNot, D.isN, mDIn, mDGet, mSetd, mNewD, mSortD, mSortSet, mRevL, mRetG, mSliceL, mNoP, mPart, oTupleOf, oListOf, eq_ii, ne_ii, eq_bb, ne_bb, eq_ss, ne_ss, eq_nil, ne_nil, take_ii]
  refine ⟨_, rfl, wComp_map (fun d => match d with | .int i => .int (cls rs i) | d => d) (by rfl) (dI so) [] (fun d hd Ke hk => ?_) (by simpa using small4 (n := so.length) (by omega)) ?_⟩
  · obtain ⟨i, _, rfl⟩ := List.mem_map.mp hd
    simp [m_law_C7e, mSeq, mIfS, mNext, mOr, mAnd, mNot, mTru, mTst, mIsT, mVar, mOwn, mC, mRet, mOrV, mAndV, mNotV, mChain, mOp, T2, mSet, mSetO, mApp, mAppO, mDrop, mCall, mMeth, mMake, mFld, mSetF, mCB, mCF, mACons, mANil, mLst, mTup, mNeg, mIf, mRaise, mRetN, mFrz, mFrzF, mCell, mFro, endsD, insOf_ins, D.tru, D.ty, D.tyName, isT, mParK, mKVal, mKOwn, mKNil, setE, gNm, gTp, gC1, gN0, mIt, mItT, mRng1, mRng2, mFor, mPopO, int_i, abs_i, int2_ii, oLen, seqOf_lst, seqOf_tup, seqOf_fz, lenOf_lst, lenOf_tup, oIx, oII_ii, oIs, oIsNot, D.isN, mDIn, mDGet, mSetd, mNewD, mSortD, mSortSet, mRevL, mRetG, mSliceL, mNoP, mPart, oTupleOf, oListOf, eq_ii, ne_ii, eq_bb, ne_bb, eq_ss, ne_ss, eq_nil, ne_nil, take_ii]
    exact (show sp__law_class [_, _] _ _ _ from ⟨_, rs, i, rfl, rfl, hk⟩)
  have eD : (dI so).map (fun d => match d with | .int i => .int (cls rs i) | d => d) = dI (so.map (cls rs)) := by simp [Function.comp_def]
  rw [List.nil_append, eD]
  refine ⟨_, rfl, tbl_no, (show sp_ClassTable_row [_, _] _ _ _ from ⟨c, rs, out, _, so, rfl, rfl, hl, by omega, T.ok, ?_⟩)⟩
  rw [if_pos hso]
  refine ⟨_, rfl, wComp_map (fun d => match d with | .int i => .int (cls rs i) | d => d) (by rfl) (dI so) [] (fun d hd Ke hk => ?_) (by simpa using small4 (n := so.length) (by omega)) ?_⟩
  · obtain ⟨i, hi, rfl⟩ := List.mem_map.mp hd
    simp [m_law_C8e, mSeq, mIfS, mNext, mOr, mAnd, mNot, mTru, mTst, mIsT, mVar, mOwn, mC, mRet, mOrV, mAndV, mNotV, mChain, mOp, T2, mSet, mSetO, mApp, mAppO, mDrop, mCall, mMeth, mMake, mFld, mSetF, mCB, mCF, mACons, mANil, mLst, mTup, mNeg, mIf, mRaise, mRetN, mFrz, mFrzF, mCell, mFro, endsD, insOf_ins, D.tru, D.ty, D.tyName, isT, mParK, mKVal, mKOwn, mKNil, setE, gNm, gTp, gC1, gN0, mIt, mItT, mRng1, mRng2, mFor, mPopO, int_i, abs_i, int2_ii, oLen, seqOf_lst, seqOf_tup, seqOf_fz, lenOf_lst, lenOf_tup, oIx, oII_ii, oIs, oIsNot, D.isN, mDIn, mDGet, mSetd, mNewD, mSortD, mSortSet, mRevL, mRetG, mSliceL, mNoP, mPart, oTupleOf, oListOf, eq_ii, ne_ii, eq_bb, ne_bb, eq_ss, ne_ss, eq_nil, ne_nil, take_ii]
    refine ⟨_, rfl, tbl_no, (show sp_ClassTable_class_of [_, _] _ _ _ from ⟨c, rs, out, i, rfl, by omega, T.ok, ?_⟩)⟩
    rw [if_pos (List.all_eq_true.mp hso i hi)]
    exact hk
  rw [List.nil_append, eD]
  refine ⟨by simp [sizeLine_eq], (show sp__law_alike 5 [_, _] _ _ _ from ⟨_, _, rfl, ?_, ?_⟩)⟩
  · have e2 : (so.map fun s => D.int (cls rs s)) = dI (so.map (cls rs)) := by simp [Function.comp_def]
    rw [e2]
    refine Al_lst (by simp) fun x hx => ?_
    have : x = .lst (dI (so.map (cls rs))) := by simpa using hx
    rw [this]
    exact Al_lst (by simpa using hl) Al_dI
  simp
  exact b5 T hc hrt _ _ _ _ _ _ _ _ _ _ _ _ _ _ _ _ _ _ _ _ _
end K01


set_option Elab.async false
set_option linter.all false
set_option maxRecDepth 100000
set_option maxHeartbeats 1000000
namespace K01
open PySem PySem.Spec PyProof.Rows L2 DL
theorem signs_of : ∀ {ds ys : List D}, ys.length = ds.length → (∀ (i : Nat) d y, ds[i]? = some d → ys[i]? = some y → ∃ s, y = .int s ∧ isSign s = true) → ∃ so : List Int, ys = dI so ∧ so.all isSign = true ∧ so.length = ds.length
  | [], [], _, _ => ⟨[], rfl, rfl, rfl⟩
  | d :: ds, y :: ys, hl, h => by
    obtain ⟨s, rfl, hs⟩ := h 0 d y rfl rfl
    obtain ⟨so, rfl, h1, h2⟩ := signs_of (ds := ds) (ys := ys) (by simpa using hl) fun i d y e e' => h (i + 1) d y (by simpa using e) (by simpa using e')
    exact ⟨s :: so, rfl, by simpa [hs] using h1, by simp [h2]⟩
  | [], _ :: _, hl, _ => by simp at hl
  | _ :: _, [], hl, _ => by simp at hl
theorem b3 {S : Store} {p : Addr} {c : Int} {rs : List R3} {out sg : List Int} {E : DEnds} (T : Tab S p c rs) (hc : Cuts rs out) (hsg : sg.all isSign = true) (h0 : sg ≠ []) (hl : sg.length ≤ 10000) (hrt : ∀ S, E.rt (.bl true) S) (a0 a4 a5 a6 a8 a9 a10 a11 a13 a14 a15 a16 a17 a18 a19 a20 a21 a22 a23 a24 : Sl) :
    m_law_B3 E [a0, .val (.obj p), .val (.int c), .val (.lst (dR rs)), a4, a5, a6, .val (tbl c rs out), a8, a9, a10, a11, .val (.lst (dI sg)), a13, a14, a15, a16, a17, a18, a19, a20, a21, a22, a23, a24] S := by
  have h40 : (rngD 0 40).length = 40 := by simp [rngD]
  have h10 : (rngD 0 10).length = 10 := by simp [rngD]
  simp [m_law_B3, mComp, wipeE, mSeq, mIfS, mNext, mOr, mAnd, mNot, mTru, mTst, mIsT, mVar, mOwn, mC, mRet, mOrV, mAndV, mNotV, mChain, mOp, T2, mSet, mSetO, mApp, mAppO, mDrop, mCall, mMeth, mMake, mFld, mSetF, mCB, mCF, mACons, mANil, mLst, mTup, mNeg, mIf, mRaise, mRetN, mFrz, mFrzF, mCell, mFro, endsD, insOf_ins, D.tru, D.ty, D.tyName, isT, mParK, mKVal, mKOwn, mKNil, setE, gNm, gTp, gC1, gN0, mIt, mItT, mRng1, mRng2, mFor, mPopO, int_i, abs_i, int2_ii, oLen, seqOf_lst, seqOf_tup, seqOf_fz, lenOf_lst, lenOf_tup, oIx, oII_ii, oIs, oIsNot, D.isN, mDIn, mDGet, mSetd, mNewD, mSortD, mSortSet, mRevL, mRetG, mSliceL, mNoP, mPart, oTupleOf, oListOf, eq_ii, ne_ii, eq_bb, ne_bb, eq_ss, ne_ss, eq_nil, ne_nil, take_ii]
  refine wComp_rel (fun _ y => ∃ s, y = .int s ∧ isSign s = true) trivial (rngD 0 40) [] (fun d hd Ke hk => ?_) (by rw [h40]; exact small4 (by simp)) fun ys l1 l2 => ?_
  · simp [m_law_C5e, T.g, mSeq, mIfS, mNext, mOr, mAnd, mNot, mTru, mTst, mIsT, mVar, mOwn, mC, mRet, mOrV, mAndV, mNotV, mChain, mOp, T2, mSet, mSetO, mApp, mAppO, mDrop, mCall, mMeth, mMake, mFld, mSetF, mCB, mCF, mACons, mANil, mLst, mTup, mNeg, mIf, mRaise, mRetN, mFrz, mFrzF, mCell, mFro, endsD, insOf_ins, D.tru, D.ty, D.tyName, isT, mParK, mKVal, mKOwn, mKNil, setE, gNm, gTp, gC1, gN0, mIt, mItT, mRng1, mRng2, mFor, mPopO, int_i, abs_i, int2_ii, oLen, seqOf_lst, seqOf_tup, seqOf_fz, lenOf_lst, lenOf_tup, oIx, oII_ii, oIs, oIsNot, D.isN, mDIn, mDGet, mSetd, mNewD, mSortD, mSortSet, mRevL, mRetG, mSliceL, mNoP, mPart, oTupleOf, oListOf, eq_ii, ne_ii, eq_bb, ne_bb, eq_ss, ne_ss, eq_nil, ne_nil, take_ii]
    refine ⟨List.length_pos_iff.mpr h0, fun k k0 k1 => ?_⟩
    obtain ⟨v, hv, ev⟩ := atI_ints (l := sg) k0 (by simpa using k1)
    exact ⟨_, ev, hk _ ⟨v, rfl, List.all_eq_true.mp hsg v hv⟩⟩
  obtain ⟨so, rfl, o1, o2⟩ := signs_of l1 l2
  refine wComp_rel (fun _ y => ∃ s, y = .int s ∧ isSign s = true) trivial (rngD 0 10) [] (fun d hd Ke hk => ?_) (by rw [h10]; exact small4 (by simp)) fun ys m1 m2 => ?_
  · simp [m_law_C6e, T.g, mSeq, mIfS, mNext, mOr, mAnd, mNot, mTru, mTst, mIsT, mVar, mOwn, mC, mRet, mOrV, mAndV, mNotV, mChain, mOp, T2, mSet, mSetO, mApp, mAppO, mDrop, mCall, mMeth, mMake, mFld, mSetF, mCB, mCF, mACons, mANil, mLst, mTup, mNeg, mIf, mRaise, mRetN, mFrz, mFrzF, mCell, mFro, endsD, insOf_ins, D.tru, D.ty, D.tyName, isT, mParK, mKVal, mKOwn, mKNil, setE, gNm, gTp, gC1, gN0, mIt, mItT, mRng1, mRng2, mFor, mPopO, int_i, abs_i, int2_ii, oLen, seqOf_lst, seqOf_tup, seqOf_fz, lenOf_lst, lenOf_tup, oIx, oII_ii, oIs, oIsNot, D.isN, mDIn, mDGet, mSetd, mNewD, mSortD, mSortSet, mRevL, mRetG, mSliceL, mNoP, mPart, oTupleOf, oListOf, eq_ii, ne_ii, eq_bb, ne_bb, eq_ss, ne_ss, eq_nil, ne_nil, take_ii]
    exact fun k k0 k1 => hk _ ⟨k, rfl, sign_iff.mpr (by omega)⟩
  obtain ⟨so2, rfl, p1, p2⟩ := signs_of m1 m2
  refine ⟨_, _, rfl, rfl, by simp [sizeLine_eq]; omega, ?_⟩
  have e : dI so ++ dI so2 = dI (so ++ so2) := by simp
  simp only [List.nil_append]
  rw [e]
  exact b4 T hc (by simp [o1, p1]) (by simp; omega) hrt _ _ _ _ _ _ _ _ _ _ _ _ _ _ _ _ _ _ _ _
theorem col {g : R3 → Int} {f : D → D} (h : ∀ r, f (tr r) = .int (g r)) (rs : List R3) : (dR rs).map f = dI (rs.map g) := by
  rw [dR, dI, List.map_map, List.map_map]
  exact List.map_congr_left fun r _ => h r
def edL (rs : List R3) : List Int := [0, 1114111, 55295, 57344] ++ rs.map (fun r => r.1) ++ rs.map (fun r => r.2.1) ++ rs.map (fun r => r.2.1 + 1)
theorem b2 {S : Store} {p : Addr} {c : Int} {rs : List R3} {out : List Int} {E : DEnds} (T : Tab S p c rs) (hc : Cuts rs out) (hrt : ∀ S, E.rt (.bl true) S) (a0 a4 a5 a6 a8 a9 a10 a11 a12 a13 a14 a15 a16 a17 a18 a19 a20 a21 a22 a23 a24 : Sl) :
    m_law_B2 E [a0, .val (.obj p), .val (.int c), .val (.lst (dR rs)), a4, a5, a6, .val (tbl c rs out), a8, a9, a10, a11, a12, a13, a14, a15, a16, a17, a18, a19, a20, a21, a22, a23, a24] S := by
  have hlen := T.len
  obtain ⟨ok1, ok2⟩ := okR_all T.ok
  simp [m_law_B2, mComp, wipeE, mSeq, mIfS, mNext, mOr, mAnd, mNot, mTru, mTst, mIsT, mVar, mOwn, mC, mRet, mOrV, mAndV, mNotV, mChain, mOp, T2, mSet, mSetO, mApp, mAppO, mDrop, mCall, mMeth, mMake, mFld, mSetF, mCB, mCF, mACons, mANil, mLst, mTup, mNeg, mIf, mRaise, mRetN, mFrz, mFrzF, mCell, mFro, endsD, insOf_ins, D.tru, D.ty, D.tyName, isT, mParK, mKVal, mKOwn, mKNil, setE, gNm, gTp, gC1, gN0, mIt, mItT, mRng1, mRng2, mFor, mPopO, int_i, abs_i, int2_ii, oLen, seqOf_lst, seqOf_tup, seqOf_fz, lenOf_lst, lenOf_tup, oIx, oII_ii, oIs, oIsNot, D.isN, mDIn, mDGet, mSetd, mNewD, mSortD, mSortSet, mRevL, mRetG, mSliceL, mNoP, mPart, oTupleOf, oListOf, eq_ii, ne_ii, eq_bb, ne_bb, eq_ss, ne_ss, eq_nil, ne_nil, take_ii]
  refine ⟨by simp [sizeLine_eq], _, rfl, wComp_map (fun d => match d with | .tup [.int f, .int l, .int v] => .int f | d => d) (by rfl) (dR rs) [] (fun d hd Ke hk => ?_) (by simpa using small4 (n := rs.length) (by omega)) ?_⟩
  · obtain ⟨r, _, rfl⟩ := List.mem_map.mp hd
    simpa [m_law_C1e, tr, mSeq, mIfS, mNext, mOr, mAnd, mNot, mTru, mTst, mIsT, mVar, mOwn, mC, mRet, mOrV, mAndV, mNotV, mChain, mOp, T2, mSet, mSetO, mApp, mAppO, mDrop, mCall, mMeth, mMake, mFld, mSetF, mCB, mCF, mACons, mANil, mLst, mTup, mNeg, mIf, mRaise, mRetN, mFrz, mFrzF, mCell, mFro, endsD, insOf_ins, D.tru, D.ty, D.tyName, isT, mParK, mKVal, mKOwn, mKNil, setE, gNm, gTp, gC1, gN0, mIt, mItT, mRng1, mRng2, mFor, mPopO, int_i, abs_i, int2_ii, oLen, seqOf_lst, seqOf_tup, seqOf_fz, lenOf_lst, lenOf_tup, oIx, oII_ii, oIs, oIsNot, D.isN, mDIn, mDGet, mSetd, mNewD, mSortD, mSortSet, mRevL, mRetG, mSliceL, mNoP, mPart, oTupleOf, oListOf, eq_ii, ne_ii, eq_bb, ne_bb, eq_ss, ne_ss, eq_nil, ne_nil, take_ii] using hk
  refine ⟨_, _, rfl, rfl, by simp [sizeLine_eq]; omega, _, rfl, wComp_map (fun d => match d with | .tup [.int f, .int l, .int v] => .int l | d => d) (by rfl) (dR rs) [] (fun d hd Ke hk => ?_) (by simpa using small4 (n := rs.length) (by omega)) ?_⟩
  · obtain ⟨r, _, rfl⟩ := List.mem_map.mp hd
    simpa [m_law_C2e, tr, mSeq, mIfS, mNext, mOr, mAnd, mNot, mTru, mTst, mIsT, mVar, mOwn, mC, mRet, mOrV, mAndV, mNotV, mChain, mOp, T2, mSet, mSetO, mApp, mAppO, mDrop, mCall, mMeth, mMake, mFld, mSetF, mCB, mCF, mACons, mANil, mLst, mTup, mNeg, mIf, mRaise, mRetN, mFrz, mFrzF, mCell, mFro, endsD, insOf_ins, D.tru, D.ty, D.tyName, isT, mParK, mKVal, mKOwn, mKNil, setE, gNm, gTp, gC1, gN0, mIt, mItT, mRng1, mRng2, mFor, mPopO, int_i, abs_i, int2_ii, oLen, seqOf_lst, seqOf_tup, seqOf_fz, lenOf_lst, lenOf_tup, oIx, oII_ii, oIs, oIsNot, D.isN, mDIn, mDGet, mSetd, mNewD, mSortD, mSortSet, mRevL, mRetG, mSliceL, mNoP, mPart, oTupleOf, oListOf, eq_ii, ne_ii, eq_bb, ne_bb, eq_ss, ne_ss, eq_nil, ne_nil, take_ii] using hk
  refine ⟨_, _, rfl, rfl, by simp [sizeLine_eq]; omega, _, rfl, wComp_map (fun d => match d with | .tup [.int f, .int l, .int v] => .int (l + 1) | d => d) (by rfl) (dR rs) [] (fun d hd Ke hk => ?_) (by simpa using small4 (n := rs.length) (by omega)) ?_⟩
  · obtain ⟨r, _, rfl⟩ := List.mem_map.mp hd
    simpa [m_law_C3e, tr, mSeq, mIfS, mNext, mOr, mAnd, mNot, mTru, mTst, mIsT, mVar, mOwn, mC, mRet, mOrV, mAndV, mNotV, mChain, mOp, T2, mSet, mSetO, mApp, mAppO, mDrop, mCall, mMeth, mMake, mFld, mSetF, mCB, mCF, mACons, mANil, mLst, mTup, mNeg, mIf, mRaise, mRetN, mFrz, mFrzF, mCell, mFro, endsD, insOf_ins, D.tru, D.ty, D.tyName, isT, mParK, mKVal, mKOwn, mKNil, setE, gNm, gTp, gC1, gN0, mIt, mItT, mRng1, mRng2, mFor, mPopO, int_i, abs_i, int2_ii, oLen, seqOf_lst, seqOf_tup, seqOf_fz, lenOf_lst, lenOf_tup, oIx, oII_ii, oIs, oIsNot, D.isN, mDIn, mDGet, mSetd, mNewD, mSortD, mSortSet, mRevL, mRetG, mSliceL, mNoP, mPart, oTupleOf, oListOf, eq_ii, ne_ii, eq_bb, ne_bb, eq_ss, ne_ss, eq_nil, ne_nil, take_ii] using hk
  refine ⟨_, _, rfl, rfl, by simp [sizeLine_eq]; omega, _, rfl, ?_⟩
  simp only [List.nil_append]
  rw [col (g := fun r => r.1) (fun r => rfl), col (g := fun r => r.2.1) (fun r => rfl), col (g := fun r => r.2.1 + 1) (fun r => rfl)]
  have eE : [D.int 0, D.int 1114111, D.int 55295, D.int 57344] ++ dI (rs.map fun r => r.1) ++ dI (rs.map fun r => r.2.1) ++ dI (rs.map fun r => r.2.1 + 1) = dI (edL rs) := by simp [edL]
  rw [eE]
  have nn : ∀ s ∈ edL rs, (0 : Int) ≤ s := fun s hs => by
    unfold edL at hs
    rcases List.mem_append.mp hs with hs | hs
    · rcases List.mem_append.mp hs with hs | hs
      · rcases List.mem_append.mp hs with hs | hs
        · simp at hs; omega
        · obtain ⟨r, hr, rfl⟩ := List.mem_map.mp hs
          have := sign_iff.mp (ok1 r hr).f; omega
      · obtain ⟨r, hr, rfl⟩ := List.mem_map.mp hs
        have := sign_iff.mp (ok1 r hr).l; omega
    · obtain ⟨r, hr, rfl⟩ := List.mem_map.mp hs
      have := sign_iff.mp (ok1 r hr).l; omega
  have h0 : (0 : Int) ∈ edL rs := by simp [edL]
  have hle : (edL rs).length ≤ 10000 := by simp [edL]; omega
  generalize edL rs = ed at nn h0 hle ⊢
  refine wComp_filter (fun d => match d with | .int s => isSign s | _ => false) id (by rfl) (dI ed) [] (fun d hd Ke Kn hq => ?_) (by simpa using small4 (n := ed.length) (by omega)) ?_
  · obtain ⟨s, hs, rfl⟩ := List.mem_map.mp hd
    have := nn s hs
    simp [m_law_C4t, m_law_C4e, mSeq, mIfS, mNext, mOr, mAnd, mNot, mTru, mTst, mIsT, mVar, mOwn, mC, mRet, mOrV, mAndV, mNotV, mChain, mOp, T2, mSet, mSetO, mApp, mAppO, mDrop, mCall, mMeth, mMake, mFld, mSetF, mCB, mCF, mACons, mANil, mLst, mTup, mNeg, mIf, mRaise, mRetN, mFrz, mFrzF, mCell, mFro, endsD, insOf_ins, D.tru, D.ty, D.tyName, isT, mParK, mKVal, mKOwn, mKNil, setE, gNm, gTp, gC1, gN0, mIt, mItT, mRng1, mRng2, mFor, mPopO, int_i, abs_i, int2_ii, oLen, seqOf_lst, seqOf_tup, seqOf_fz, lenOf_lst, lenOf_tup, oIx, oII_ii, oIs, oIsNot, D.isN, mDIn, mDGet, mSetd, mNewD, mSortD, mSortSet, mRevL, mRetG, mSliceL, mNoP, mPart, oTupleOf, oListOf, eq_ii, ne_ii, eq_bb, ne_bb, eq_ss, ne_ss, eq_nil, ne_nil, take_ii]
    simp only at hq
    by_cases h1 : 55296 ≤ s
    · by_cases h2 : s ≤ 57343
      · rw [if_neg (by rw [sign_iff]; omega)] at hq
        exact .inr ⟨h1, .inr ⟨h2, hq⟩⟩
      · refine .inr ⟨h1, .inl ⟨by omega, ?_⟩⟩
        by_cases h3 : s ≤ 1114111
        · rw [if_pos (by rw [sign_iff]; omega)] at hq
          exact .inr ⟨h3, hq⟩
        · rw [if_neg (by rw [sign_iff]; omega)] at hq
          exact .inl ⟨by omega, hq⟩
    · rw [if_pos (by rw [sign_iff]; omega)] at hq
      exact .inl ⟨by omega, .inr ⟨by omega, hq⟩⟩
  · have e : ((dI ed).filter fun d => match d with | .int s => isSign s | _ => false).map id = dI (ed.filter isSign) := by
      rw [List.map_id, dI, dI, List.filter_map]
      rfl
    rw [List.nil_append, e]
    exact b3 T hc (List.all_eq_true.mpr fun s hs => (List.mem_filter.mp hs).2) (fun z => by have : (0 : Int) ∈ ed.filter isSign := List.mem_filter.mpr ⟨h0, by decide⟩; rw [z] at this; simp at this) (Nat.le_trans (List.length_filter_le _ _) hle) hrt _ _ _ _ _ _ _ _ _ _ _ _ _ _ _ _ _ _ _ _
theorem b1 {S : Store} {p : Addr} {c : Int} {rs : List R3} {E : DEnds} (T : Tab S p c rs) (hrt : ∀ S, E.rt (.bl true) S) (a0 a4 a5 a6 a7 a8 a9 a10 a11 a12 a13 a14 a15 a16 a17 a18 a19 a20 a21 a22 a23 a24 : Sl) :
    m_law_B1 E [a0, .val (.obj p), .val (.int c), .val (.lst (dR rs)), a4, a5, a6, a7, a8, a9, a10, a11, a12, a13, a14, a15, a16, a17, a18, a19, a20, a21, a22, a23, a24] S := by
  have hlen := T.len
  simp [m_law_B1, mSeq, mIfS, mNext, mOr, mAnd, mNot, mTru, mTst, mIsT, mVar, mOwn, mC, mRet, mOrV, mAndV, mNotV, mChain, mOp, T2, mSet, mSetO, mApp, mAppO, mDrop, mCall, mMeth, mMake, mFld, mSetF, mCB, mCF, mACons, mANil, mLst, mTup, mNeg, mIf, mRaise, mRetN, mFrz, mFrzF, mCell, mFro, endsD, insOf_ins, D.tru, D.ty, D.tyName, isT, mParK, mKVal, mKOwn, mKNil, setE, gNm, gTp, gC1, gN0, mIt, mItT, mRng1, mRng2, mFor, mPopO, int_i, abs_i, int2_ii, oLen, seqOf_lst, seqOf_tup, seqOf_fz, lenOf_lst, lenOf_tup, oIx, oII_ii, oIs, oIsNot, D.isN, mDIn, mDGet, mSetd, mNewD, mSortD, mSortSet, mRevL, mRetG, mSliceL, mNoP, mPart, oTupleOf, oListOf, eq_ii, ne_ii, eq_bb, ne_bb, eq_ss, ne_ss, eq_nil, ne_nil, take_ii]
  intro o ho x hx
  have xo : x ≠ o := fun z => by rw [z, upd_same'] at hx; cases hx
  refine (show sp_ClassTable_init [_, _, _] _ _ _ from ⟨x, .obj o, c, rs, rfl, upd_same', ?_, by omega, ?_⟩)
  · have : itOf (S.upd o (.lst (dR rs))) (.obj o) = some (dR rs) := by simp [itOf, upd_same']
    exact itOf_upd this fun l' z => by rw [hx] at z; cases z
  rw [if_pos T.okC, if_pos T.ok]
  intro out hc
  have no : o ≠ p := T.ne (by rw [ho]; simp)
  have e1 : (((S.upd o (.lst (dR rs))).upd x (.ins 6 [])).upd x (.ins 6 (tblF c rs out))).era x = S.upd o (.lst (dR rs)) := by rw [upd_upd', upd_era hx]
  refine ⟨rfl, _, upd_same', ?_⟩
  rw [e1]
  refine ⟨⟨_, upd_same'⟩, _, upd_same', small5 (by simp; omega), _, rfl, _, rfl, by simp [sizeLine_eq], (show sp__law_alike 5 [_, _] _ _ _ from ⟨_, _, rfl, Al_lst (by simp) (fun y hy => ?_), ?_⟩)⟩
  · simp only [List.mem_cons, List.not_mem_nil, or_false] at hy
    rcases hy with rfl | rfl
    · exact Al_int
    · refine Al_tup (by simp; omega) fun z hz => ?_
      obtain ⟨r, _, rfl⟩ := List.mem_map.mp hz
      refine Al_tup (by simp) fun u hu => ?_
      simp only [List.mem_cons, List.not_mem_nil, or_false] at hu
      rcases hu with rfl | rfl | rfl <;> exact Al_int
  · rw [upd_upd']
    simp
    exact b2 (T.upd no) hc hrt _ _ _ _ _ _ _ _ _ _ _ _ _ _ _ _ _ _ _ _ _
theorem okV_of {c : Int} : ∀ {rs : List R3}, (∀ r ∈ rs, 0 ≤ r.2.2 ∧ r.2.2 < c) → okV c rs = true
  | [], _ => rfl
  | r :: rs, h => by
    have h1 := h r List.mem_cons_self
    simp [okV, h1.1, h1.2, okV_of fun x hx => h x (List.mem_cons_of_mem _ hx)]
theorem data_law : ∀ ds S Q R, sp_law ds S Q R → ds.length = 1 ∧ m_law (endsD Q R) (startE ["script", "draws", "count", "ranges", "way", "cut", "own", "table", "edges", "first", "last", "number", "signs", "sign", "some", "k", "due", "least", "present", "told", "one", "other", "at", "bad", "value"] ds) S := by
  rintro ds S Q R ⟨d, ns, rfl, e, e2, hl, hb, hS, q⟩
  refine ⟨rfl, ?_⟩
  show m_law (endsD Q R) [.val d, .no, .no, .no, .no, .no, .no, .no, .no, .no, .no, .no, .no, .no, .no, .no, .no, .no, .no, .no, .no, .no, .no, .no, .no] S
  simp [m_law, mSeq, mIfS, mNext, mOr, mAnd, mNot, mTru, mTst, mIsT, mVar, mOwn, mC, mRet, mOrV, mAndV, mNotV, mChain, mOp, T2, mSet, mSetO, mApp, mAppO, mDrop, mCall, mMeth, mMake, mFld, mSetF, mCB, mCF, mACons, mANil, mLst, mTup, mNeg, mIf, mRaise, mRetN, mFrz, mFrzF, mCell, mFro, endsD, insOf_ins, D.tru, D.ty, D.tyName, isT, mParK, mKVal, mKOwn, mKNil, setE, gNm, gTp, gC1, gN0, mIt, mItT, mRng1, mRng2, mFor, mPopO, int_i, abs_i, int2_ii, oLen, seqOf_lst, seqOf_tup, seqOf_fz, lenOf_lst, lenOf_tup, oIx, oII_ii, oIs, oIsNot, D.isN, mDIn, mDGet, mSetd, mNewD, mSortD, mSortSet, mRevL, mRetG, mSliceL, mNoP, mPart, oTupleOf, oListOf, eq_ii, ne_ii, eq_bb, ne_bb, eq_ss, ne_ss, eq_nil, ne_nil, take_ii]
  refine (show sp__law_draws [_] _ _ _ from ⟨_, ns, rfl, e, e2, hl, hb, fun p hp => ?_⟩)
  have hg : (S.upd p .gen) p = some .gen := upd_same'
  generalize S.upd p .gen = G at hg
  refine ⟨by simp [sizeLine_eq], take_ii.mpr ⟨hg, by omega, fun k k0 k1 => ?_⟩⟩
  obtain ⟨c, hc, ec⟩ := atI_ints (l := [1, 2, 7, 40, 64]) k0 (by simpa using k1)
  refine ⟨k, rfl, _, ec, by simp [sizeLine_eq], take_ii.mpr ⟨hg, by omega, fun j j0 j1 => ?_⟩⟩
  obtain ⟨m, hm, em⟩ := atI_ints (l := [0, 1, 5, 64, 65, 300]) j0 (by simpa using j1)
  have c1 : 1 ≤ c ∧ c ≤ 64 := by simp at hc; omega
  have m1 : 0 ≤ m ∧ m ≤ 300 := by simp at hm; omega
  refine ⟨j, rfl, _, em, (show sp__law_ranges [_, _, _] _ _ _ from ⟨p, c, m, rfl, hg, by omega, m1.1, by omega, fun rs h1 h2 h3 => ?_⟩)⟩
  have T : Tab G p c rs := ⟨hg, c1.1, c1.2, okV_of h2, h1, by omega⟩
  refine take_ii.mpr ⟨hg, by omega, fun w w0 w1 => eq_ii.mpr ?_⟩
  by_cases hw : w = 0
  · refine .inr ⟨by simp [hw], eq_nil.mpr ⟨List.all_eq_true.mpr fun x hx => ?_, ?_⟩⟩
    · obtain ⟨r, _, rfl⟩ := List.mem_map.mp hx
      exact shd_tr 7 (by omega) r
    by_cases hr : rs = []
    · subst hr
      refine .inr ⟨rfl, take_ii.mpr ⟨hg, by omega, fun u u0 u1 => oII_ii.mpr ⟨trivial, oII_ii.mpr ⟨trivial, by simp [sizeLine_eq], oII_ii.mpr ⟨trivial, take_ii.mpr ⟨hg, by omega, fun v v0 v1 => ⟨by simp [sizeLine_eq], oII_ii.mpr ⟨by simp [CDiv], by simp [sizeLine_eq], ?_⟩⟩⟩⟩⟩⟩⟩⟩
      refine b1 (rs := [(0, 1 + u, c - 1), (1 + u + 1, 60000, v), (60001, 1114111, c / 2)]) ⟨hg, c1.1, c1.2, ?_, ?_, by simp⟩ q _ _ _ _ _ _ _ _ _ _ _ _ _ _ _ _ _ _ _ _ _ _
      · simp [okV]; omega
      · simp [okR, isSign]; omega
    · refine .inl ⟨by simp [hr], b1 T q _ _ _ _ _ _ _ _ _ _ _ _ _ _ _ _ _ _ _ _ _ _⟩
  · exact .inl ⟨by simp [hw], b1 T q _ _ _ _ _ _ _ _ _ _ _ _ _ _ _ _ _ _ _ _ _ _⟩
end K01


set_option Elab.async false
set_option linter.all false
set_option maxRecDepth 100000
set_option maxHeartbeats 2000000
namespace K01
open PySem PySem.Spec PyProof.Rows L2 DL
theorem sc__law_word : FnScope ["e", "kinds", "one"] ["e"] (defScope s__law_word) := ⟨rfl, rfl, rfl, by decide +kernel, rfl, by decide +kernel, by decide +kernel⟩
/-- the classes that the def of words asks for -/
structure WG (mg : Str → Option Value) (cl : Nat → Addr) : Prop where
  g1 : mg "OutOfRange" = some (.ref (cl 1))
  g2 : mg "Malformed" = some (.ref (cl 2))
  g3 : mg "NotThere" = some (.ref (cl 4))
  g4 : mg "Refused" = some (.ref (cl 3))
  g5 : mg "BadLine" = some (.ref (cl 5))
  bi : mg "isinstance" = none
  bl : mg "len" = none
/-- what isinstance answers for the class D -/
structure WD (K : PySem.W.Frag) (cl : Nat → Addr) (D : Nat) (b1 b2 b3 b4 b5 : Bool) : Prop where
  ex : ExcC K (cl D)
  k1 : PySem.W.kitOne K (.ref (cl D)) (.ref (cl 1)) = some b1
  k2 : PySem.W.kitOne K (.ref (cl D)) (.ref (cl 2)) = some b2
  k3 : PySem.W.kitOne K (.ref (cl D)) (.ref (cl 4)) = some b3
  k4 : PySem.W.kitOne K (.ref (cl D)) (.ref (cl 3)) = some b4
  k5 : PySem.W.kitOne K (.ref (cl D)) (.ref (cl 5)) = some b5
section
variable {P : Program} {w : World} {K : PySem.W.Frag} {cl : Nat → Addr} {mg : Str → Option Value} {base : Heap}
theorem word_one {f : Addr} {fd : FuncData} (F : Fun K "_law_word" "_law_word" s__law_word f fd) (G : WG mg cl) {D : Nat} {b1 b2 b3 b4 b5 : Bool} (T : WD K cl D b1 b2 b3 b4 b5) {z : Str} {j : Nat} {a : Addr} {oe : Obj} (hz : Zc (.ref (cl D)) none oe) (hf : ∃ vs, oe.data = .fields vs)
    (h1 : ([V.bl b1, .bl b2, .bl b3, .bl b4, .bl b5].filter fun v => decide (v = .bl true)) = [.bl true]) (h2 : [V.bl b1, .bl b2, .bl b3, .bl b4, .bl b5][j]? = some (.bl true)) (h3 : ∀ (m : Nat) z', m < j → [V.bl b1, .bl b2, .bl b3, .bl b4, .bl b5][m]? = some z' → eqV z' (.bl true) = false)
    (h4 : [V.str "range", .str "form", .str "none", .str "refused", .str "line"][j]? = some (.str z)) : FnP P w K mg base 4 f fd ["e"] (a, oe) (spWord a z) := by
  refine fnP F sc__law_word (fun vs H Q E h => by rw [h.1]; rfl) fun cd A outer s H vs Q E hot hr h => ?_
  have I : ∀ {x : Str} {C : Nat} {p p2 q pos : Pos} (hgl : Gl (L2H.cxH (L2N.CX P w) P w K mg base ["e", "kinds", "one"] "_law_word" (defScope s__law_word) f cd A outer s H E (a, oe)) x) (hm : mg x = some (.ref (cl C))) (hdb : (x == ("__debug__" : Str)) = false),
      PE (L2H.cxH (L2N.CX P w) P w K mg base ["e", "kinds", "one"] "_law_word" (defScope s__law_word) f cd A outer s H E (a, oe)) (.Call (.Name "isinstance" p) [.Name "e" p2, .Name x q] [] pos) (tCB (rIsE K (cl D) a) (tCons (tVar 0) (tCons (tC (.ref (cl C))) tNil))) := fun hgl hm hdb =>
    pe_callB (call_isP T.ex hz hf List.mem_cons_self) (by rfl) G.bi (by rfl) (pa_cons (pv 0) (pa_cons (pe_glob hgl hm rfl hdb) pa_nil))
  refine ⟨_, pss_cons (ps_set (i := 1) sc__law_word.nd (by rfl) (Or.inl (by rfl)) (pe_lst (pa_cons (I (by rfl) G.g1 (by decide)) (pa_cons (I (by rfl) G.g2 (by decide)) (pa_cons (I (by rfl) G.g3 (by decide)) (pa_cons (I (by rfl) G.g4 (by decide)) (pa_cons (I (by rfl) G.g5 (by decide)) pa_nil)))))))
      (pss_cons (ps_if (pt_cmpR op_ne (pe_callB call_len_seq (by rfl) G.bl (by rfl) (pa_cons (pe_lcH (own := [("one", 2)]) ⟨_, hot, List.mem_cons_self⟩ sc__law_word.nd (pv 1) (blkOk_by (own := [("one", 2)]) (N := ["e", "kinds", "one"]) (sc := defScope s__law_word) (by decide +kernel))
          (fun _ _ _ _ _ => pg_name (i := 2) sc__law_word.nd (by rfl) (Or.inl (by rfl))) (fun _ _ _ _ _ => show PTs _ _ (fun σ H Q => tVar 2 σ H fun x H' => ∃ k, TruV K x H' k ∧ Q k H') from pts_one (pt_truth (pv 2) (by intro _; rfl))) (fun _ _ _ _ _ => pv 2)) pa_nil)) pe_int (nomark _)) (pss_one (ps_ret pe_str)) pss_nil)
        (pss_one (ps_ret (pe_ix ix_list (pe_lst (pa_cons pe_str (pa_cons pe_str (pa_cons pe_str (pa_cons pe_str (pa_cons pe_str pa_nil)))))) (pe_bm PySem.F.plainAttrs_list PySem.F.slot_list_index PySem.F.type_list_index mt_index (pv 1) (pa_cons pe_bl pa_nil)) (fun _ _ => rfl))))), ?_⟩
  obtain ⟨rfl, q⟩ := h
  have is1 : ∀ {C : Nat} {b : Bool} {σ : L2.St} {H : Hp} {Q : VK}, PySem.W.kitOne K (.ref (cl D)) (.ref (cl C)) = some b → σ[0]? = some (some (.ref a)) → Q (.bl b) H → tCB (rIsE K (cl D) a) (tCons (tVar 0) (tCons (tC (.ref (cl C))) tNil)) σ H Q := fun hk hs hq => ⟨_, hs, .ref _, .ref _, _, rfl, fun u h => h, hk, hq⟩
  refine is1 T.k1 rfl (is1 T.k2 rfl (is1 T.k3 rfl (is1 T.k4 rfl (is1 T.k5 rfl ⟨(by show 5 ≤ sizeLine; rw [sizeLine_eq]; omega), fun p hp => ?_⟩))))
  have hk : ∀ v ∈ [V.bl b1, .bl b2, .bl b3, .bl b4, .bl b5], ∃ b, v = .bl b := fun v hv => by
    simp only [List.mem_cons, List.not_mem_nil, or_false] at hv
    rcases hv with rfl | rfl | rfl | rfl | rfl <;> exact ⟨_, rfl⟩
  have h5 : [V.bl b1, .bl b2, .bl b3, .bl b4, .bl b5].length ≤ 5 := Nat.le_refl _
  generalize [V.bl b1, .bl b2, .bl b3, .bl b4, .bl b5] = ks at h1 h2 h3 h5 hk ⊢
  have old : ∀ b o, H b = some o → (upd H p (.lst ks)) b = some o := fun b o e => by rw [upd_ne (ne_of_none e hp)]; exact e
  refine ⟨.ref p, rfl, p, ks, rfl, SqL.of upd_same, fun L hL => ?_⟩
  have Lp : L ≠ p := fun z => by rw [z, upd_same] at hL; cases hL
  have tk : ∀ i, ks.length ≤ i → (ks.take i).filter (fun v => decide (v = .bl true)) = [.bl true] := fun i hi => by rw [List.take_of_length_le hi]; exact h1
  refine ⟨fun i H' => H' p = some (.lst ks) ∧ H' L = some (.lst ((ks.take i).filter fun v => decide (v = .bl true))) ∧ ∀ b o, H b = some o → H' b = some o, ⟨by rw [upd_ne (Ne.symm Lp)]; exact upd_same, upd_same, fun b o e => by rw [upd_ne (ne_of_none (old b o e) hL)]; exact old b o e⟩, ?_⟩
  rintro i H' ⟨w1, w2, w3⟩
  refine ⟨SqL.of w1, fun hi => ?_, fun x hx => ?_⟩
  · rw [tk i hi] at w2
    refine ⟨L, [.bl true], rfl, .inl (SqL.of w2), rfl, false, by simp, ?_⟩
    refine ⟨(by show 5 ≤ sizeLine; rw [sizeLine_eq]; omega), fun p3 hp3 => ?_⟩
    have w1' : (upd H' p3 (.lst [V.str "range", .str "form", .str "none", .str "refused", .str "line"])) p = some (.lst ks) := by rw [upd_ne (ne_of_none w1 hp3)]; exact w1
    refine ⟨.ref p, rfl, .inl ⟨rfl, ks, .inl (.inl w1')⟩, p, ks, .bl true, j, .bl true, rfl, rfl, SqL.of w1', rfl, List.all_eq_true.mpr fun v hv => ?_, h2, rfl, h3, ?_⟩
    · obtain ⟨b, rfl⟩ := hk v hv; rfl
    · exact ⟨p3, _, j, .str z, rfl, rfl, SqL.of upd_same, L2.atI_nat h4, q _ fun b o e => by rw [upd_ne (ne_of_none (w3 b o e) hp3)]; exact w3 b o e⟩
  · obtain ⟨b, rfl⟩ := hk x (List.mem_of_getElem? hx)
    have ht : ks.take (i + 1) = ks.take i ++ [.bl b] := by rw [List.take_add_one, hx]; rfl
    refine ⟨rfl, .bl b, rfl, b, rfl, ?_⟩
    cases b with
    | false =>
      refine ⟨w1, ?_, w3⟩
      rw [w2, ht, List.filter_append]; simp
    | true =>
      refine ⟨.bl true, rfl, _, w2, small5 (Nat.le_trans (List.length_filter_le _ _) (by rw [List.length_take]; omega)), ?_, ?_, ?_⟩
      · rw [upd_ne (Ne.symm Lp)]; exact w1
      · rw [upd_same, ht, List.filter_append]; simp
      · intro b o e
        have hb : b ≠ L := ne_of_none (old b o e) hL
        rw [upd_ne hb]; exact w3 b o e
theorem words {f : Addr} {fd : FuncData} (F : Fun K "_law_word" "_law_word" s__law_word f fd) (G : WG mg cl) (T1 : WD K cl 1 true false false false false) (T3 : WD K cl 3 false false false true false) (T4 : WD K cl 4 false false true false false) : Words P w K mg base cl 4 f fd ["e"] wd__law_word where
  one := fun C z a oe e hz hf => by
    match C, e with
    | 1, e => cases e; exact word_one F G T1 (j := 0) hz hf (by simp) rfl (fun m z' hm => by omega) rfl
    | 3, e => cases e; exact word_one F G T3 (j := 3) hz hf (by simp) rfl (fun m z' hm h => by match m, hm with | 0, _ => cases h; rfl | 1, _ => cases h; rfl | 2, _ => cases h; rfl) rfl
    | 4, e => cases e; exact word_one F G T4 (j := 2) hz hf (by simp) rfl (fun m z' hm h => by match m, hm with | 0, _ => cases h; rfl | 1, _ => cases h; rfl) rfl
end
end K01


set_option Elab.async false
set_option linter.all false
set_option maxRecDepth 100000
set_option maxHeartbeats 2000000
namespace K01
open PySem PySem.Spec PyProof.Rows L2 DL
/-! ### the end -/
def spLaw (K : PySem.W.Frag) : Sp := fun vs H Q _ => ∃ (a : Addr) (ns : List Int), vs = [.ref a] ∧ SqL K H a (ns.map V.int) ∧ ns.length ≤ 63 ∧ (∀ z ∈ ns, Builtin.Int.intBits z ≤ 1048576) ∧ ∀ H', Q (.bl true) H'
theorem exm_sub {K : PySem.W.Frag} {S D : Addr} (h1 : PySem.W.subIn K (.ref S) (.type "BaseException") = some true) (h2 : PySem.W.isClsIn K S = true) (h3 : PySem.W.typeIn K (.ref S) = some (.type "type")) (h4 : PySem.W.subIn K (.ref D) (.ref S) = some true) : PySem.W.exmOne K (.ref D) (.ref S) = some true := by
  have e1 : (PySem.W.subIn K (.ref S) (.type "BaseException") == some true) = true := by rw [h1] <;> rfl
  have e2 : ((PySem.W.clsIn K S).isSome && PySem.W.typeIn K (.ref S) == some (.type "type")) = true := by
    rw [show (PySem.W.clsIn K S).isSome = true from h2, h3] <;> rfl
  show (if (PySem.W.subIn K (.ref S) (.type "BaseException") == some true) = true then (if ((PySem.W.clsIn K S).isSome && PySem.W.typeIn K (.ref S) == some (.type "type")) = true then PySem.W.subIn K (.ref D) (.ref S) else none) else none) = some true
  rw [if_pos e1, if_pos e2]
  exact h4
theorem kit_sub {K : PySem.W.Frag} {D C : Addr} {b : Bool} (hj : PySem.W.isClsIn K C = true) (ht : PySem.W.typeIn K (.ref C) = some (.type "type")) (hs : PySem.W.subIn K (.ref D) (.ref C) = some b) (hn : b = true ∨ (Value.ref D == Value.ref C) = false) : PySem.W.kitOne K (.ref D) (.ref C) = some b := by
  have e2 : ((PySem.W.clsIn K C).isSome && PySem.W.typeIn K (.ref C) == some (.type "type")) = true := by
    rw [show (PySem.W.clsIn K C).isSome = true from hj, ht] <;> rfl
  have e3 : PySem.W.kitCls K (.ref D) (.ref C) = some b := by
    show (if ((PySem.W.clsIn K C).isSome && PySem.W.typeIn K (.ref C) == some (.type "type")) = true then PySem.W.subIn K (.ref D) (.ref C) else none) = some b
    rw [if_pos e2]; exact hs
  unfold PySem.W.kitOne
  rcases hn with h | h
  · subst h
    split
    · rfl
    · exact e3
  · rw [if_neg (by rw [h]; simp)]
    exact e3
/-- the script as data -/
theorem start_law {K : KC} {f : DSpec} (hf : ∀ (d : D) (ns : List Int) (Q : QE) (R : RE), itOf (fun _ => none) d = some (ns.map .int) → seqOf (fun _ => none) d = some (ns.map .int) → ns.length ≤ 63 → (∀ z ∈ ns, Builtin.Int.intBits z ≤ 1048576) → (∀ S', Q (.bl true) S') → f [d] (fun _ => none) Q R) {vs : List V} {H : Hp} {Q : VK} {E : XK} (h : spLaw K.K vs H Q E) : spD K f vs H Q E := by
  obtain ⟨a, ns, rfl, sq, hl, hb, q⟩ := h
  have st : StOk K (fun _ => False) H (fun _ => none) := ⟨(fun a c e => by cases e), fun a m => m.elim⟩
  have go : ∀ d : D, Den K (fun _ => False) H d (.ref a) → itOf (fun _ => none) d = some (ns.map .int) → seqOf (fun _ => none) d = some (ns.map .int) → spD K f [.ref a] H Q E := fun d dn e1 e2 =>
    ⟨fun _ => False, fun _ => none, [d], fun d _ => d = .bl true, fun _ _ => False, by simp only [DenL, and_true]; exact dn, st, hf d ns _ _ e1 e2 hl hb fun _ => rfl, fun d S' v M' H' e _ _ dv => by subst e; simp only [Den] at dv; rw [dv]; exact q H', fun _ _ _ _ z _ _ => z.elim⟩
  rcases sq with (h | ⟨o, h⟩) | h
  · exact go (.lst (ns.map .int)) (by simp only [Den]; exact ⟨a, _, rfl, h, fun z => z, den_ints ns⟩) rfl rfl
  · exact go (.fz (ns.map .int)) (by simp only [Den]; exact ⟨a, _, rfl, .inl ⟨⟨o, h⟩, fun z => z⟩, den_ints ns⟩) rfl rfl
  · exact go (.fz (ns.map .int)) (by simp only [Den]; exact ⟨a, _, rfl, .inr fun H' => .inr h, den_ints ns⟩) rfl rfl

def clOf (l : List Addr) : Nat → Addr := fun n => l.getD n 0
set_option maxHeartbeats 8000000 in
theorem all_mk {P : Program} {w : World} {K : PySem.W.Frag} {h : Heap} {mg : Str → Option Value} {fa : Addr} (X : K.In h) (G : h.Ns mainGlobals mg) (hfa : mg "law" = some (.ref fa))
    {C0 C1 C2 C3 C4 C5 C6 a_GAP fis_sign fcheck_text fcheck_ranges flook_up fcuts fClassTable_init fClassTable_class_of fClassTable_row fClassTable_present fClassTable_sample f_law_draws f_law_take f_law_alike f_law_ranges f_law_class f_law_least f_law_told flaw f_law_word : Addr}
    {ocis_sign kVis_sign dcis_sign pmis_sign cdis_sign ctis_sign occheck_text kVcheck_text dccheck_text pmcheck_text cdcheck_text ctcheck_text occheck_ranges kVcheck_ranges dccheck_ranges pmcheck_ranges cdcheck_ranges ctcheck_ranges oclook_up kVlook_up dclook_up pmlook_up cdlook_up ctlook_up occuts kVcuts dccuts pmcuts cdcuts ctcuts ocClassTable_init kVClassTable_init dcClassTable_init pmClassTable_init cdClassTable_init ctClassTable_init ocClassTable_class_of kVClassTable_class_of dcClassTable_class_of pmClassTable_class_of cdClassTable_class_of ctClassTable_class_of ocClassTable_row kVClassTable_row dcClassTable_row pmClassTable_row cdClassTable_row ctClassTable_row ocClassTable_present kVClassTable_present dcClassTable_present pmClassTable_present cdClassTable_present ctClassTable_present ocClassTable_sample kVClassTable_sample dcClassTable_sample pmClassTable_sample cdClassTable_sample ctClassTable_sample oc_law_draws kV_law_draws dc_law_draws pm_law_draws cd_law_draws ct_law_draws oc_law_take kV_law_take dc_law_take pm_law_take cd_law_take ct_law_take oc_law_alike kV_law_alike dc_law_alike pm_law_alike cd_law_alike ct_law_alike oc_law_ranges kV_law_ranges dc_law_ranges pm_law_ranges cd_law_ranges ct_law_ranges oc_law_class kV_law_class dc_law_class pm_law_class cd_law_class ct_law_class oc_law_least kV_law_least dc_law_least pm_law_least cd_law_least ct_law_least oc_law_told kV_law_told dc_law_told pm_law_told cd_law_told ct_law_told oclaw kVlaw dclaw pmlaw cdlaw ctlaw oc_law_word kV_law_word dc_law_word pm_law_word cd_law_word ct_law_word : Value} {odis_sign anis_sign odcheck_text ancheck_text odcheck_ranges ancheck_ranges odlook_up anlook_up odcuts ancuts odClassTable_init anClassTable_init odClassTable_class_of anClassTable_class_of odClassTable_row anClassTable_row odClassTable_present anClassTable_present odClassTable_sample anClassTable_sample od_law_draws an_law_draws od_law_take an_law_take od_law_alike an_law_alike od_law_ranges an_law_ranges od_law_class an_law_class od_law_least an_law_least od_law_told an_law_told odlaw anlaw od_law_word an_law_word d_GAP : Option Addr} {slis_sign slcheck_text slcheck_ranges sllook_up slcuts slClassTable_init slClassTable_class_of slClassTable_row slClassTable_present slClassTable_sample sl_law_draws sl_law_take sl_law_alike sl_law_ranges sl_law_class sl_law_least sl_law_told sllaw sl_law_word sl_GAP : Array (Option Value)}
    {t_LAST_SIGN t_MOST_CLASSES t0_GAP t1_GAP : Tok}
    {n_GAP : Nat}
    (z_abs : PySem.W.nsIn K mainGlobals "abs" = some none)
    (z_bool : PySem.W.nsIn K mainGlobals "bool" = some none)
    (z_int : PySem.W.nsIn K mainGlobals "int" = some none)
    (z_isinstance : PySem.W.nsIn K mainGlobals "isinstance" = some none)
    (z_len : PySem.W.nsIn K mainGlobals "len" = some none)
    (z_list : PySem.W.nsIn K mainGlobals "list" = some none)
    (z_max : PySem.W.nsIn K mainGlobals "max" = some none)
    (z_min : PySem.W.nsIn K mainGlobals "min" = some none)
    (z_range : PySem.W.nsIn K mainGlobals "range" = some none)
    (z_reversed : PySem.W.nsIn K mainGlobals "reversed" = some none)
    (z_set : PySem.W.nsIn K mainGlobals "set" = some none)
    (z_sorted : PySem.W.nsIn K mainGlobals "sorted" = some none)
    (z_str : PySem.W.nsIn K mainGlobals "str" = some none)
    (z_tuple : PySem.W.nsIn K mainGlobals "tuple" = some none)
    (g_ScriptError : PySem.W.nsIn K mainGlobals "ScriptError" = some (some (.ref C0)))
    (g_OutOfRange : PySem.W.nsIn K mainGlobals "OutOfRange" = some (some (.ref C1)))
    (g_Malformed : PySem.W.nsIn K mainGlobals "Malformed" = some (some (.ref C2)))
    (g_Refused : PySem.W.nsIn K mainGlobals "Refused" = some (some (.ref C3)))
    (g_NotThere : PySem.W.nsIn K mainGlobals "NotThere" = some (some (.ref C4)))
    (g_BadLine : PySem.W.nsIn K mainGlobals "BadLine" = some (some (.ref C5)))
    (g_ClassTable : PySem.W.nsIn K mainGlobals "ClassTable" = some (some (.ref C6)))
    (q_LAST_SIGN : PySem.W.nsIn K mainGlobals "LAST_SIGN" = some (some (.int 1114111 t_LAST_SIGN)))
    (q_MOST_CLASSES : PySem.W.nsIn K mainGlobals "MOST_CLASSES" = some (some (.int 64 t_MOST_CLASSES)))
    (q_GAP : PySem.W.nsIn K mainGlobals "GAP" = some (some (.ref a_GAP)))
    (r_GAP : K.lookup a_GAP = some ⟨.type "tuple", d_GAP, .seq [.int 55296 t0_GAP, .int 57344 t1_GAP].toArray n_GAP, sl_GAP⟩)
    (ais_sign : PySem.W.nsIn K mainGlobals "is_sign" = some (some (.ref fis_sign)))
    (lis_sign : K.lookup fis_sign = some ⟨ocis_sign, odis_sign, .func (PySem.W.fnOf "is_sign" "is_sign" (defArgs s_is_sign) (defBody s_is_sign) (defScope s_is_sign) .none kVis_sign dcis_sign pmis_sign anis_sign cdis_sign ctis_sign), slis_sign⟩)
    (cis_sign : PySem.W.codeIn K cdis_sign "is_sign" = true)
    (kis_sign : PySem.W.keepIn K (.ref fis_sign) = true)
    (acheck_text : PySem.W.nsIn K mainGlobals "check_text" = some (some (.ref fcheck_text)))
    (lcheck_text : K.lookup fcheck_text = some ⟨occheck_text, odcheck_text, .func (PySem.W.fnOf "check_text" "check_text" (defArgs s_check_text) (defBody s_check_text) (defScope s_check_text) .none kVcheck_text dccheck_text pmcheck_text ancheck_text cdcheck_text ctcheck_text), slcheck_text⟩)
    (ccheck_text : PySem.W.codeIn K cdcheck_text "check_text" = true)
    (kcheck_text : PySem.W.keepIn K (.ref fcheck_text) = true)
    (acheck_ranges : PySem.W.nsIn K mainGlobals "check_ranges" = some (some (.ref fcheck_ranges)))
    (lcheck_ranges : K.lookup fcheck_ranges = some ⟨occheck_ranges, odcheck_ranges, .func (PySem.W.fnOf "check_ranges" "check_ranges" (defArgs s_check_ranges) (defBody s_check_ranges) (defScope s_check_ranges) .none kVcheck_ranges dccheck_ranges pmcheck_ranges ancheck_ranges cdcheck_ranges ctcheck_ranges), slcheck_ranges⟩)
    (ccheck_ranges : PySem.W.codeIn K cdcheck_ranges "check_ranges" = true)
    (kcheck_ranges : PySem.W.keepIn K (.ref fcheck_ranges) = true)
    (alook_up : PySem.W.nsIn K mainGlobals "look_up" = some (some (.ref flook_up)))
    (llook_up : K.lookup flook_up = some ⟨oclook_up, odlook_up, .func (PySem.W.fnOf "look_up" "look_up" (defArgs s_look_up) (defBody s_look_up) (defScope s_look_up) .none kVlook_up dclook_up pmlook_up anlook_up cdlook_up ctlook_up), sllook_up⟩)
    (clook_up : PySem.W.codeIn K cdlook_up "look_up" = true)
    (klook_up : PySem.W.keepIn K (.ref flook_up) = true)
    (acuts : PySem.W.nsIn K mainGlobals "cuts" = some (some (.ref fcuts)))
    (lcuts : K.lookup fcuts = some ⟨occuts, odcuts, .func (PySem.W.fnOf "cuts" "cuts" (defArgs s_cuts) (defBody s_cuts) (defScope s_cuts) .none kVcuts dccuts pmcuts ancuts cdcuts ctcuts), slcuts⟩)
    (ccuts : PySem.W.codeIn K cdcuts "cuts" = true)
    (kcuts : PySem.W.keepIn K (.ref fcuts) = true)
    (aClassTable_init : PySem.W.findIn K (.ref C6) "__init__" = some (some (.ref fClassTable_init)))
    (iClassTable_init : PySem.W.isFn K (.ref fClassTable_init) = true)
    (lClassTable_init : K.lookup fClassTable_init = some ⟨ocClassTable_init, odClassTable_init, .func (PySem.W.fnOf "__init__" "ClassTable.__init__" (defArgs s_ClassTable_init) (defBody s_ClassTable_init) (defScope s_ClassTable_init) .none kVClassTable_init dcClassTable_init pmClassTable_init anClassTable_init cdClassTable_init ctClassTable_init), slClassTable_init⟩)
    (cClassTable_init : PySem.W.codeIn K cdClassTable_init "ClassTable.__init__" = true)
    (kClassTable_init : PySem.W.keepIn K (.ref fClassTable_init) = true)
    (aClassTable_class_of : PySem.W.findIn K (.ref C6) "class_of" = some (some (.ref fClassTable_class_of)))
    (iClassTable_class_of : PySem.W.isFn K (.ref fClassTable_class_of) = true)
    (lClassTable_class_of : K.lookup fClassTable_class_of = some ⟨ocClassTable_class_of, odClassTable_class_of, .func (PySem.W.fnOf "class_of" "ClassTable.class_of" (defArgs s_ClassTable_class_of) (defBody s_ClassTable_class_of) (defScope s_ClassTable_class_of) .none kVClassTable_class_of dcClassTable_class_of pmClassTable_class_of anClassTable_class_of cdClassTable_class_of ctClassTable_class_of), slClassTable_class_of⟩)
    (cClassTable_class_of : PySem.W.codeIn K cdClassTable_class_of "ClassTable.class_of" = true)
    (kClassTable_class_of : PySem.W.keepIn K (.ref fClassTable_class_of) = true)
    (aClassTable_row : PySem.W.findIn K (.ref C6) "row" = some (some (.ref fClassTable_row)))
    (iClassTable_row : PySem.W.isFn K (.ref fClassTable_row) = true)
    (lClassTable_row : K.lookup fClassTable_row = some ⟨ocClassTable_row, odClassTable_row, .func (PySem.W.fnOf "row" "ClassTable.row" (defArgs s_ClassTable_row) (defBody s_ClassTable_row) (defScope s_ClassTable_row) .none kVClassTable_row dcClassTable_row pmClassTable_row anClassTable_row cdClassTable_row ctClassTable_row), slClassTable_row⟩)
    (cClassTable_row : PySem.W.codeIn K cdClassTable_row "ClassTable.row" = true)
    (kClassTable_row : PySem.W.keepIn K (.ref fClassTable_row) = true)
    (aClassTable_present : PySem.W.findIn K (.ref C6) "present" = some (some (.ref fClassTable_present)))
    (iClassTable_present : PySem.W.isFn K (.ref fClassTable_present) = true)
    (lClassTable_present : K.lookup fClassTable_present = some ⟨ocClassTable_present, odClassTable_present, .func (PySem.W.fnOf "present" "ClassTable.present" (defArgs s_ClassTable_present) (defBody s_ClassTable_present) (defScope s_ClassTable_present) .none kVClassTable_present dcClassTable_present pmClassTable_present anClassTable_present cdClassTable_present ctClassTable_present), slClassTable_present⟩)
    (cClassTable_present : PySem.W.codeIn K cdClassTable_present "ClassTable.present" = true)
    (kClassTable_present : PySem.W.keepIn K (.ref fClassTable_present) = true)
    (aClassTable_sample : PySem.W.findIn K (.ref C6) "sample" = some (some (.ref fClassTable_sample)))
    (iClassTable_sample : PySem.W.isFn K (.ref fClassTable_sample) = true)
    (lClassTable_sample : K.lookup fClassTable_sample = some ⟨ocClassTable_sample, odClassTable_sample, .func (PySem.W.fnOf "sample" "ClassTable.sample" (defArgs s_ClassTable_sample) (defBody s_ClassTable_sample) (defScope s_ClassTable_sample) .none kVClassTable_sample dcClassTable_sample pmClassTable_sample anClassTable_sample cdClassTable_sample ctClassTable_sample), slClassTable_sample⟩)
    (cClassTable_sample : PySem.W.codeIn K cdClassTable_sample "ClassTable.sample" = true)
    (kClassTable_sample : PySem.W.keepIn K (.ref fClassTable_sample) = true)
    (a_law_draws : PySem.W.nsIn K mainGlobals "_law_draws" = some (some (.ref f_law_draws)))
    (l_law_draws : K.lookup f_law_draws = some ⟨oc_law_draws, od_law_draws, .func (PySem.W.fnOf "_law_draws" "_law_draws" (defArgs s__law_draws) (defBody s__law_draws) (defScope s__law_draws) .none kV_law_draws dc_law_draws pm_law_draws an_law_draws cd_law_draws ct_law_draws), sl_law_draws⟩)
    (c_law_draws : PySem.W.codeIn K cd_law_draws "_law_draws" = true)
    (k_law_draws : PySem.W.keepIn K (.ref f_law_draws) = true)
    (a_law_take : PySem.W.nsIn K mainGlobals "_law_take" = some (some (.ref f_law_take)))
    (l_law_take : K.lookup f_law_take = some ⟨oc_law_take, od_law_take, .func (PySem.W.fnOf "_law_take" "_law_take" (defArgs s__law_take) (defBody s__law_take) (defScope s__law_take) .none kV_law_take dc_law_take pm_law_take an_law_take cd_law_take ct_law_take), sl_law_take⟩)
    (c_law_take : PySem.W.codeIn K cd_law_take "_law_take" = true)
    (k_law_take : PySem.W.keepIn K (.ref f_law_take) = true)
    (a_law_alike : PySem.W.nsIn K mainGlobals "_law_alike" = some (some (.ref f_law_alike)))
    (l_law_alike : K.lookup f_law_alike = some ⟨oc_law_alike, od_law_alike, .func (PySem.W.fnOf "_law_alike" "_law_alike" (defArgs s__law_alike) (defBody s__law_alike) (defScope s__law_alike) .none kV_law_alike dc_law_alike pm_law_alike an_law_alike cd_law_alike ct_law_alike), sl_law_alike⟩)
    (c_law_alike : PySem.W.codeIn K cd_law_alike "_law_alike" = true)
    (k_law_alike : PySem.W.keepIn K (.ref f_law_alike) = true)
    (a_law_ranges : PySem.W.nsIn K mainGlobals "_law_ranges" = some (some (.ref f_law_ranges)))
    (l_law_ranges : K.lookup f_law_ranges = some ⟨oc_law_ranges, od_law_ranges, .func (PySem.W.fnOf "_law_ranges" "_law_ranges" (defArgs s__law_ranges) (defBody s__law_ranges) (defScope s__law_ranges) .none kV_law_ranges dc_law_ranges pm_law_ranges an_law_ranges cd_law_ranges ct_law_ranges), sl_law_ranges⟩)
    (c_law_ranges : PySem.W.codeIn K cd_law_ranges "_law_ranges" = true)
    (k_law_ranges : PySem.W.keepIn K (.ref f_law_ranges) = true)
    (a_law_class : PySem.W.nsIn K mainGlobals "_law_class" = some (some (.ref f_law_class)))
    (l_law_class : K.lookup f_law_class = some ⟨oc_law_class, od_law_class, .func (PySem.W.fnOf "_law_class" "_law_class" (defArgs s__law_class) (defBody s__law_class) (defScope s__law_class) .none kV_law_class dc_law_class pm_law_class an_law_class cd_law_class ct_law_class), sl_law_class⟩)
    (c_law_class : PySem.W.codeIn K cd_law_class "_law_class" = true)
    (k_law_class : PySem.W.keepIn K (.ref f_law_class) = true)
    (a_law_least : PySem.W.nsIn K mainGlobals "_law_least" = some (some (.ref f_law_least)))
    (l_law_least : K.lookup f_law_least = some ⟨oc_law_least, od_law_least, .func (PySem.W.fnOf "_law_least" "_law_least" (defArgs s__law_least) (defBody s__law_least) (defScope s__law_least) .none kV_law_least dc_law_least pm_law_least an_law_least cd_law_least ct_law_least), sl_law_least⟩)
    (c_law_least : PySem.W.codeIn K cd_law_least "_law_least" = true)
    (k_law_least : PySem.W.keepIn K (.ref f_law_least) = true)
    (a_law_told : PySem.W.nsIn K mainGlobals "_law_told" = some (some (.ref f_law_told)))
    (l_law_told : K.lookup f_law_told = some ⟨oc_law_told, od_law_told, .func (PySem.W.fnOf "_law_told" "_law_told" (defArgs s__law_told) (defBody s__law_told) (defScope s__law_told) .none kV_law_told dc_law_told pm_law_told an_law_told cd_law_told ct_law_told), sl_law_told⟩)
    (c_law_told : PySem.W.codeIn K cd_law_told "_law_told" = true)
    (k_law_told : PySem.W.keepIn K (.ref f_law_told) = true)
    (alaw : PySem.W.nsIn K mainGlobals "law" = some (some (.ref flaw)))
    (llaw : K.lookup flaw = some ⟨oclaw, odlaw, .func (PySem.W.fnOf "law" "law" (defArgs s_law) (defBody s_law) (defScope s_law) .none kVlaw dclaw pmlaw anlaw cdlaw ctlaw), sllaw⟩)
    (claw : PySem.W.codeIn K cdlaw "law" = true)
    (klaw : PySem.W.keepIn K (.ref flaw) = true)
    (a_law_word : PySem.W.nsIn K mainGlobals "_law_word" = some (some (.ref f_law_word)))
    (l_law_word : K.lookup f_law_word = some ⟨oc_law_word, od_law_word, .func (PySem.W.fnOf "_law_word" "_law_word" (defArgs s__law_word) (defBody s__law_word) (defScope s__law_word) .none kV_law_word dc_law_word pm_law_word an_law_word cd_law_word ct_law_word), sl_law_word⟩)
    (c_law_word : PySem.W.codeIn K cd_law_word "_law_word" = true)
    (k_law_word : PySem.W.keepIn K (.ref f_law_word) = true)
    (pg_ClassTable : PySem.W.plainGet K C6 Str.empty = true)
    (hd_ClassTable : PySem.W.hasDictIn K C6 = true)
    (po_ClassTable : PySem.W.plainOver K C6 = true)
    (sa_ClassTable : PySem.W.findIn K (.ref C6) "__setattr__" = some (some (.builtin "object.__setattr__")))
    (mk_ClassTable : PySem.W.makesIn K C6 = true)
    (kc_ClassTable : PySem.W.keepIn K (.ref C6) = true)
    (na_ClassTable_count : PySem.W.findIn K (.ref C6) "count" = some none)
    (na_ClassTable_ranges : PySem.W.findIn K (.ref C6) "ranges" = some none)
    (na_ClassTable_samples : PySem.W.findIn K (.ref C6) "_samples" = some none)
    (bS : PySem.W.subIn K (.ref C0) (.type "BaseException") = some true)
    (tS : PySem.W.typeIn K (.ref C0) = some (.type "type"))
    (iS : PySem.W.isClsIn K C0 = true)
    (xq_OutOfRange : PySem.W.excIn K C1 [.type "ValueError", .type "Exception", .type "BaseException", .type "object"] "ValueError.__new__" = true)
    (xk_OutOfRange : PySem.W.keepIn K (.ref C1) = true)
    (xb_OutOfRange : PySem.W.subIn K (.ref C1) (.type "BaseException") = some true)
    (xt_OutOfRange : PySem.W.typeIn K (.ref C1) = some (.type "type"))
    (xs_OutOfRange : PySem.W.subIn K (.ref C1) (.ref C0) = some true)
    (e1_OutOfRange : PySem.W.findIn K (.ref C1) "__getattribute__" = some (some (.builtin "BaseException.__getattribute__")))
    (e2_OutOfRange : PySem.W.findIn K (.ref C1) "__getattr__" = some none)
    (e4_OutOfRange : PySem.W.hasDictIn K C1 = true)
    (e5_OutOfRange : PySem.W.findIn K (.ref C1) "__class__" = some (some (.builtin "object.__class__")))
    (e8_OutOfRange : PySem.W.mroIn K C1 (.type "object") = some true)
    (w1_OutOfRange : PySem.W.subIn K (.ref C1) (.ref C1) = some true)
    (w2_OutOfRange : PySem.W.subIn K (.ref C1) (.ref C2) = some false)
    (n2_OutOfRange : (Value.ref C1 == Value.ref C2) = false)
    (w3_OutOfRange : PySem.W.subIn K (.ref C1) (.ref C4) = some false)
    (n3_OutOfRange : (Value.ref C1 == Value.ref C4) = false)
    (w4_OutOfRange : PySem.W.subIn K (.ref C1) (.ref C3) = some false)
    (n4_OutOfRange : (Value.ref C1 == Value.ref C3) = false)
    (w5_OutOfRange : PySem.W.subIn K (.ref C1) (.ref C5) = some false)
    (n5_OutOfRange : (Value.ref C1 == Value.ref C5) = false)
    (xq_Refused : PySem.W.excIn K C3 [.type "ValueError", .type "Exception", .type "BaseException", .type "object"] "ValueError.__new__" = true)
    (xk_Refused : PySem.W.keepIn K (.ref C3) = true)
    (xb_Refused : PySem.W.subIn K (.ref C3) (.type "BaseException") = some true)
    (xt_Refused : PySem.W.typeIn K (.ref C3) = some (.type "type"))
    (xs_Refused : PySem.W.subIn K (.ref C3) (.ref C0) = some true)
    (e1_Refused : PySem.W.findIn K (.ref C3) "__getattribute__" = some (some (.builtin "BaseException.__getattribute__")))
    (e2_Refused : PySem.W.findIn K (.ref C3) "__getattr__" = some none)
    (e4_Refused : PySem.W.hasDictIn K C3 = true)
    (e5_Refused : PySem.W.findIn K (.ref C3) "__class__" = some (some (.builtin "object.__class__")))
    (e8_Refused : PySem.W.mroIn K C3 (.type "object") = some true)
    (w1_Refused : PySem.W.subIn K (.ref C3) (.ref C1) = some false)
    (n1_Refused : (Value.ref C3 == Value.ref C1) = false)
    (w2_Refused : PySem.W.subIn K (.ref C3) (.ref C2) = some false)
    (n2_Refused : (Value.ref C3 == Value.ref C2) = false)
    (w3_Refused : PySem.W.subIn K (.ref C3) (.ref C4) = some false)
    (n3_Refused : (Value.ref C3 == Value.ref C4) = false)
    (w4_Refused : PySem.W.subIn K (.ref C3) (.ref C3) = some true)
    (w5_Refused : PySem.W.subIn K (.ref C3) (.ref C5) = some false)
    (n5_Refused : (Value.ref C3 == Value.ref C5) = false)
    (xq_NotThere : PySem.W.excIn K C4 [.type "ValueError", .type "Exception", .type "BaseException", .type "object"] "ValueError.__new__" = true)
    (xk_NotThere : PySem.W.keepIn K (.ref C4) = true)
    (xb_NotThere : PySem.W.subIn K (.ref C4) (.type "BaseException") = some true)
    (xt_NotThere : PySem.W.typeIn K (.ref C4) = some (.type "type"))
    (xs_NotThere : PySem.W.subIn K (.ref C4) (.ref C0) = some true)
    (e1_NotThere : PySem.W.findIn K (.ref C4) "__getattribute__" = some (some (.builtin "BaseException.__getattribute__")))
    (e2_NotThere : PySem.W.findIn K (.ref C4) "__getattr__" = some none)
    (e4_NotThere : PySem.W.hasDictIn K C4 = true)
    (e5_NotThere : PySem.W.findIn K (.ref C4) "__class__" = some (some (.builtin "object.__class__")))
    (e8_NotThere : PySem.W.mroIn K C4 (.type "object") = some true)
    (w1_NotThere : PySem.W.subIn K (.ref C4) (.ref C1) = some false)
    (n1_NotThere : (Value.ref C4 == Value.ref C1) = false)
    (w2_NotThere : PySem.W.subIn K (.ref C4) (.ref C2) = some false)
    (n2_NotThere : (Value.ref C4 == Value.ref C2) = false)
    (w3_NotThere : PySem.W.subIn K (.ref C4) (.ref C4) = some true)
    (w4_NotThere : PySem.W.subIn K (.ref C4) (.ref C3) = some false)
    (n4_NotThere : (Value.ref C4 == Value.ref C3) = false)
    (w5_NotThere : PySem.W.subIn K (.ref C4) (.ref C5) = some false)
    (n5_NotThere : (Value.ref C4 == Value.ref C5) = false)
    (wj_OutOfRange : PySem.W.isClsIn K C1 = true)
    (wt_OutOfRange : PySem.W.typeIn K (.ref C1) = some (.type "type"))
    (wj_Malformed : PySem.W.isClsIn K C2 = true)
    (wt_Malformed : PySem.W.typeIn K (.ref C2) = some (.type "type"))
    (wj_NotThere : PySem.W.isClsIn K C4 = true)
    (wt_NotThere : PySem.W.typeIn K (.ref C4) = some (.type "type"))
    (wj_Refused : PySem.W.isClsIn K C3 = true)
    (wt_Refused : PySem.W.typeIn K (.ref C3) = some (.type "type"))
    (wj_BadLine : PySem.W.isClsIn K C5 = true)
    (wt_BadLine : PySem.W.typeIn K (.ref C5) = some (.type "type"))
    (e6 : PySem.W.specialIn K (.builtin "object.__class__") "__get__" = some (some (.builtin "getset_descriptor.__get__")))
    (e7 : PySem.W.takesIn K (.builtin "object.__class__") = some true)
    : ∃ fd : FuncData, (∀ (s : Shared) (v : Value), BindsTo s fd ⟨[v], []⟩ [("script", v)]) ∧ ∀ base : Heap, K.In base → base.Ns mainGlobals mg → FnOk P w K mg base (L2N.CX P w) 20 fa fd ["script"] (spLaw K) := by
  have e := hfa.symm.trans (PySem.W.mg_of X G alaw)
  cases e
  have cle : ∀ n, clOf [C0, C1, C2, C3, C4, C5, C6] n = [C0, C1, C2, C3, C4, C5, C6].getD n 0 := fun _ => rfl
  have Fis_sign := fun_mk (st := s_is_sign) lis_sign cis_sign kis_sign
  have bis_sign := Fis_sign.binds (ps := ["value"]) fun _ _ _ _ _ _ us hl => match us, hl with | [_], _ => rfl
  have Fcheck_text := fun_mk (st := s_check_text) lcheck_text ccheck_text kcheck_text
  have bcheck_text := Fcheck_text.binds (ps := ["text"]) fun _ _ _ _ _ _ us hl => match us, hl with | [_], _ => rfl
  have Fcheck_ranges := fun_mk (st := s_check_ranges) lcheck_ranges ccheck_ranges kcheck_ranges
  have bcheck_ranges := Fcheck_ranges.binds (ps := ["ranges"]) fun _ _ _ _ _ _ us hl => match us, hl with | [_], _ => rfl
  have Flook_up := fun_mk (st := s_look_up) llook_up clook_up klook_up
  have blook_up := Flook_up.binds (ps := ["ranges", "sign", "other"]) fun _ _ _ _ _ _ us hl => match us, hl with | [_, _, _], _ => rfl
  have Fcuts := fun_mk (st := s_cuts) lcuts ccuts kcuts
  have bcuts := Fcuts.binds (ps := ["ranges"]) fun _ _ _ _ _ _ us hl => match us, hl with | [_], _ => rfl
  have FClassTable_init := fun_mk (st := s_ClassTable_init) lClassTable_init cClassTable_init kClassTable_init
  have bClassTable_init := FClassTable_init.binds (ps := ["self", "count", "ranges"]) fun _ _ _ _ _ _ us hl => match us, hl with | [_, _, _], _ => rfl
  have FClassTable_class_of := fun_mk (st := s_ClassTable_class_of) lClassTable_class_of cClassTable_class_of kClassTable_class_of
  have bClassTable_class_of := FClassTable_class_of.binds (ps := ["self", "sign"]) fun _ _ _ _ _ _ us hl => match us, hl with | [_, _], _ => rfl
  have FClassTable_row := fun_mk (st := s_ClassTable_row) lClassTable_row cClassTable_row kClassTable_row
  have bClassTable_row := FClassTable_row.binds (ps := ["self", "text"]) fun _ _ _ _ _ _ us hl => match us, hl with | [_, _], _ => rfl
  have FClassTable_present := fun_mk (st := s_ClassTable_present) lClassTable_present cClassTable_present kClassTable_present
  have bClassTable_present := FClassTable_present.binds (ps := ["self"]) fun _ _ _ _ _ _ us hl => match us, hl with | [_], _ => rfl
  have FClassTable_sample := fun_mk (st := s_ClassTable_sample) lClassTable_sample cClassTable_sample kClassTable_sample
  have bClassTable_sample := FClassTable_sample.binds (ps := ["self", "number"]) fun _ _ _ _ _ _ us hl => match us, hl with | [_, _], _ => rfl
  have F_law_draws := fun_mk (st := s__law_draws) l_law_draws c_law_draws k_law_draws
  have b_law_draws := F_law_draws.binds (ps := ["script"]) fun _ _ _ _ _ _ us hl => match us, hl with | [_], _ => rfl
  have F_law_take := fun_mk (st := s__law_take) l_law_take c_law_take k_law_take
  have b_law_take := F_law_take.binds (ps := ["draws", "bound"]) fun _ _ _ _ _ _ us hl => match us, hl with | [_, _], _ => rfl
  have F_law_alike := fun_mk (st := s__law_alike) l_law_alike c_law_alike k_law_alike
  have b_law_alike := F_law_alike.binds (ps := ["found", "due"]) fun _ _ _ _ _ _ us hl => match us, hl with | [_, _], _ => rfl
  have F_law_ranges := fun_mk (st := s__law_ranges) l_law_ranges c_law_ranges k_law_ranges
  have b_law_ranges := F_law_ranges.binds (ps := ["draws", "count", "many"]) fun _ _ _ _ _ _ us hl => match us, hl with | [_, _, _], _ => rfl
  have F_law_class := fun_mk (st := s__law_class) l_law_class c_law_class k_law_class
  have b_law_class := F_law_class.binds (ps := ["ranges", "sign"]) fun _ _ _ _ _ _ us hl => match us, hl with | [_, _], _ => rfl
  have F_law_least := fun_mk (st := s__law_least) l_law_least c_law_least k_law_least
  have b_law_least := F_law_least.binds (ps := ["ranges", "number"]) fun _ _ _ _ _ _ us hl => match us, hl with | [_, _], _ => rfl
  have F_law_told := fun_mk (st := s__law_told) l_law_told c_law_told k_law_told
  have b_law_told := F_law_told.binds (ps := ["which", "one", "other"]) fun _ _ _ _ _ _ us hl => match us, hl with | [_, _, _], _ => rfl
  have Flaw := fun_mk (st := s_law) llaw claw klaw
  have blaw := Flaw.binds (ps := ["script"]) fun _ _ _ _ _ _ us hl => match us, hl with | [_], _ => rfl
  have F_law_word := fun_mk (st := s__law_word) l_law_word c_law_word k_law_word
  have b_law_word := F_law_word.binds (ps := ["e"]) fun _ _ _ _ _ _ us hl => match us, hl with | [_], _ => rfl
  have T : Txt K mg (clOf [C0, C1, C2, C3, C4, C5, C6]) := {
    b_abs := PySem.W.mg_none_of X G z_abs,
    b_bool := PySem.W.mg_none_of X G z_bool,
    b_int := PySem.W.mg_none_of X G z_int,
    b_isinstance := PySem.W.mg_none_of X G z_isinstance,
    b_len := PySem.W.mg_none_of X G z_len,
    b_list := PySem.W.mg_none_of X G z_list,
    b_max := PySem.W.mg_none_of X G z_max,
    b_min := PySem.W.mg_none_of X G z_min,
    b_range := PySem.W.mg_none_of X G z_range,
    b_reversed := PySem.W.mg_none_of X G z_reversed,
    b_set := PySem.W.mg_none_of X G z_set,
    b_sorted := PySem.W.mg_none_of X G z_sorted,
    b_str := PySem.W.mg_none_of X G z_str,
    b_tuple := PySem.W.mg_none_of X G z_tuple,
    c_GAP := ConstOk.tupI (ns := [55296, 57344]) (PySem.W.mg_of X G q_GAP) fun H => .inr ⟨_, _, _, r_GAP, rfl, rfl, (by simp [sizeLine_eq]), .cons ⟨_, rfl⟩ (.cons ⟨_, rfl⟩ (.nil))⟩,
    c_LAST_SIGN := ConstOk.int (PySem.W.mg_of X G q_LAST_SIGN),
    c_MOST_CLASSES := ConstOk.int (PySem.W.mg_of X G q_MOST_CLASSES),
    f_is_sign := ⟨⟨_, _, Fis_sign, bis_sign, PySem.W.mg_of X G ais_sign⟩⟩,
    f_check_text := ⟨⟨_, _, Fcheck_text, bcheck_text, PySem.W.mg_of X G acheck_text⟩⟩,
    f_check_ranges := ⟨⟨_, _, Fcheck_ranges, bcheck_ranges, PySem.W.mg_of X G acheck_ranges⟩⟩,
    f_look_up := ⟨⟨_, _, Flook_up, blook_up, PySem.W.mg_of X G alook_up⟩⟩,
    f_cuts := ⟨⟨_, _, Fcuts, bcuts, PySem.W.mg_of X G acuts⟩⟩,
    f_ClassTable_init := ⟨⟨_, _, FClassTable_init, bClassTable_init, ⟨mk_ClassTable, aClassTable_init, iClassTable_init, kc_ClassTable⟩, PySem.W.mg_of X G g_ClassTable⟩⟩,
    f_ClassTable_class_of := ⟨⟨_, _, FClassTable_class_of, bClassTable_class_of, ⟨aClassTable_class_of, iClassTable_class_of, kClassTable_class_of⟩⟩⟩,
    f_ClassTable_row := ⟨⟨_, _, FClassTable_row, bClassTable_row, ⟨aClassTable_row, iClassTable_row, kClassTable_row⟩⟩⟩,
    f_ClassTable_present := ⟨⟨_, _, FClassTable_present, bClassTable_present, ⟨aClassTable_present, iClassTable_present, kClassTable_present⟩⟩⟩,
    f_ClassTable_sample := ⟨⟨_, _, FClassTable_sample, bClassTable_sample, ⟨aClassTable_sample, iClassTable_sample, kClassTable_sample⟩⟩⟩,
    f__law_draws := ⟨⟨_, _, F_law_draws, b_law_draws, PySem.W.mg_of X G a_law_draws⟩⟩,
    f__law_take := ⟨⟨_, _, F_law_take, b_law_take, PySem.W.mg_of X G a_law_take⟩⟩,
    f__law_alike := ⟨⟨_, _, F_law_alike, b_law_alike, PySem.W.mg_of X G a_law_alike⟩⟩,
    f__law_ranges := ⟨⟨_, _, F_law_ranges, b_law_ranges, PySem.W.mg_of X G a_law_ranges⟩⟩,
    f__law_class := ⟨⟨_, _, F_law_class, b_law_class, PySem.W.mg_of X G a_law_class⟩⟩,
    f__law_least := ⟨⟨_, _, F_law_least, b_law_least, PySem.W.mg_of X G a_law_least⟩⟩,
    f__law_told := ⟨⟨_, _, F_law_told, b_law_told, PySem.W.mg_of X G a_law_told⟩⟩,
    f_law := ⟨⟨_, _, Flaw, blaw, PySem.W.mg_of X G alaw⟩⟩,
    f__law_word := ⟨⟨_, _, F_law_word, b_law_word, PySem.W.mg_of X G a_law_word⟩⟩,
    x_OutOfRange := ⟨xq_OutOfRange, PySem.W.mg_of X G g_OutOfRange, xk_OutOfRange, xb_OutOfRange, xt_OutOfRange⟩,
    x_Refused := ⟨xq_Refused, PySem.W.mg_of X G g_Refused, xk_Refused, xb_Refused, xt_Refused⟩,
    x_NotThere := ⟨xq_NotThere, PySem.W.mg_of X G g_NotThere, xk_NotThere, xb_NotThere, xt_NotThere⟩,
    cls_ClassTable := ⟨pg_ClassTable, hd_ClassTable, po_ClassTable, sa_ClassTable⟩,
    na_ClassTable_count := na_ClassTable_count,
    na_ClassTable_ranges := na_ClassTable_ranges,
    na_ClassTable_samples := na_ClassTable_samples }
  have W : WG mg (clOf [C0, C1, C2, C3, C4, C5, C6]) := ⟨PySem.W.mg_of X G g_OutOfRange, PySem.W.mg_of X G g_Malformed, PySem.W.mg_of X G g_NotThere, PySem.W.mg_of X G g_Refused, PySem.W.mg_of X G g_BadLine, PySem.W.mg_none_of X G z_isinstance, PySem.W.mg_none_of X G z_len⟩
  have D1 : WD K (clOf [C0, C1, C2, C3, C4, C5, C6]) 1 true false false false false := ⟨⟨e1_OutOfRange, e2_OutOfRange, xb_OutOfRange, e4_OutOfRange, e5_OutOfRange, e6, e7, e8_OutOfRange⟩, kit_sub wj_OutOfRange wt_OutOfRange w1_OutOfRange (.inl rfl), kit_sub wj_Malformed wt_Malformed w2_OutOfRange (.inr n2_OutOfRange), kit_sub wj_NotThere wt_NotThere w3_OutOfRange (.inr n3_OutOfRange), kit_sub wj_Refused wt_Refused w4_OutOfRange (.inr n4_OutOfRange), kit_sub wj_BadLine wt_BadLine w5_OutOfRange (.inr n5_OutOfRange)⟩
  have D3 : WD K (clOf [C0, C1, C2, C3, C4, C5, C6]) 3 false false false true false := ⟨⟨e1_Refused, e2_Refused, xb_Refused, e4_Refused, e5_Refused, e6, e7, e8_Refused⟩, kit_sub wj_OutOfRange wt_OutOfRange w1_Refused (.inr n1_Refused), kit_sub wj_Malformed wt_Malformed w2_Refused (.inr n2_Refused), kit_sub wj_NotThere wt_NotThere w3_Refused (.inr n3_Refused), kit_sub wj_Refused wt_Refused w4_Refused (.inl rfl), kit_sub wj_BadLine wt_BadLine w5_Refused (.inr n5_Refused)⟩
  have D4 : WD K (clOf [C0, C1, C2, C3, C4, C5, C6]) 4 false false true false false := ⟨⟨e1_NotThere, e2_NotThere, xb_NotThere, e4_NotThere, e5_NotThere, e6, e7, e8_NotThere⟩, kit_sub wj_OutOfRange wt_OutOfRange w1_NotThere (.inr n1_NotThere), kit_sub wj_Malformed wt_Malformed w2_NotThere (.inr n2_NotThere), kit_sub wj_NotThere wt_NotThere w3_NotThere (.inl rfl), kit_sub wj_Refused wt_Refused w4_NotThere (.inr n4_NotThere), kit_sub wj_BadLine wt_BadLine w5_NotThere (.inr n5_NotThere)⟩
  refine ⟨PySem.W.fnOf "law" "law" (defArgs s_law) (defBody s_law) (defScope s_law) .none kVlaw dclaw pmlaw anlaw cdlaw ctlaw, fun s v => .of_eq rfl, fun base _ _ => ?_⟩
  have o1 : CK P w K mg base (clOf [C0, C1, C2, C3, C4, C5, C6]) 2 "is_sign" sp_is_sign := CK.mk' T.f_is_sign sc_is_sign (body_is_sign T) data_is_sign
  have o2 : CK P w K mg base (clOf [C0, C1, C2, C3, C4, C5, C6]) 3 "check_text" sp_check_text := CK.mk' T.f_check_text sc_check_text (body_check_text T o1) data_check_text
  have o3 : CK P w K mg base (clOf [C0, C1, C2, C3, C4, C5, C6]) 3 "check_ranges" sp_check_ranges := CK.mk' T.f_check_ranges sc_check_ranges (body_check_ranges T o1) data_check_ranges
  have o4 : CK P w K mg base (clOf [C0, C1, C2, C3, C4, C5, C6]) 2 "look_up" sp_look_up := CK.mk' T.f_look_up sc_look_up (body_look_up T) data_look_up
  have o5 : CK P w K mg base (clOf [C0, C1, C2, C3, C4, C5, C6]) 2 "cuts" sp_cuts := CK.mk' T.f_cuts sc_cuts (body_cuts T) data_cuts
  have o6 : IK P w K mg base (clOf [C0, C1, C2, C3, C4, C5, C6]) 5 6 "ClassTable" sp_ClassTable_init := IK.mk' T.f_ClassTable_init sc_ClassTable_init (body_ClassTable_init T o3 o5 o1 o4) data_init
  have o7 : MK1 P w K mg base (clOf [C0, C1, C2, C3, C4, C5, C6]) 5 6 "class_of" sp_ClassTable_class_of := MK1.mk' T.f_ClassTable_class_of sc_ClassTable_class_of (body_ClassTable_class_of T o2 o4) data_class_of
  have o8 : MK1 P w K mg base (clOf [C0, C1, C2, C3, C4, C5, C6]) 5 6 "row" sp_ClassTable_row := MK1.mk' T.f_ClassTable_row sc_ClassTable_row (body_ClassTable_row T o2 o4) data_row
  have o9 : MK1 P w K mg base (clOf [C0, C1, C2, C3, C4, C5, C6]) 2 6 "present" sp_ClassTable_present := MK1.mk' T.f_ClassTable_present sc_ClassTable_present (body_ClassTable_present T) data_present
  have o10 : MK1 P w K mg base (clOf [C0, C1, C2, C3, C4, C5, C6]) 2 6 "sample" sp_ClassTable_sample := MK1.mk' T.f_ClassTable_sample sc_ClassTable_sample (body_ClassTable_sample T) data_sample
  have o11 : CK P w K mg base (clOf [C0, C1, C2, C3, C4, C5, C6]) 2 "_law_draws" sp__law_draws := CK.mk' T.f__law_draws sc__law_draws (body__law_draws T) data_draws
  have o12 : CK P w K mg base (clOf [C0, C1, C2, C3, C4, C5, C6]) 2 "_law_take" spTake := (CK.mk' T.f__law_take sc__law_take (body__law_take T) data_take).take
  have o13 : ∀ n, CK P w K mg base (clOf [C0, C1, C2, C3, C4, C5, C6]) (n + 1) "_law_alike" (sp__law_alike n) := fun n => by
    induction n with
    | zero =>
      refine ⟨_, _, _, ⟨fun vs H Q E h => ?_, fun A outer s H args us vs Q E _ _ _ _ h => ?_⟩, b_law_alike, PySem.W.mg_of X G a_law_alike, k_law_alike⟩
      · obtain ⟨_, _, _, _, _, _, _, ⟨_, _, _, z, _⟩, _⟩ := h; exact z.elim
      · obtain ⟨_, _, _, _, _, _, _, ⟨_, _, _, z, _⟩, _⟩ := h; exact z.elim
    | succ n ih => exact CK.mk' T.f__law_alike sc__law_alike (body__law_alike n T ih) (data_alike n)
  have o14 : CK P w K mg base (clOf [C0, C1, C2, C3, C4, C5, C6]) 4 "_law_ranges" sp__law_ranges := CK.mk' T.f__law_ranges sc__law_ranges (body__law_ranges T o12) data_ranges
  have o15 : CK P w K mg base (clOf [C0, C1, C2, C3, C4, C5, C6]) 2 "_law_class" sp__law_class := CK.mk' T.f__law_class sc__law_class (body__law_class T) data_class
  have o16 : CK P w K mg base (clOf [C0, C1, C2, C3, C4, C5, C6]) 2 "_law_least" sp__law_least := CK.mk' T.f__law_least sc__law_least (body__law_least T) data_least
  have o17 : WordK P w K mg base (clOf [C0, C1, C2, C3, C4, C5, C6]) 4 "_law_word" "ScriptError" wd__law_word := ⟨_, _, _, _, words F_law_word W D1 D3 D4, PySem.W.mg_of X G a_law_word, k_law_word, b_law_word, PySem.W.mg_of X G g_ScriptError, fun C z e => by
    match C, e with
    | 1, _ => exact exm_sub bS iS tS xs_OutOfRange
    | 3, _ => exact exm_sub bS iS tS xs_Refused
    | 4, _ => exact exm_sub bS iS tS xs_NotThere⟩
  have o18 : CK P w K mg base (clOf [C0, C1, C2, C3, C4, C5, C6]) 8 "_law_told" sp__law_told := CK.mk' T.f__law_told sc__law_told (body__law_told T o7 o6 o8 o10 o17) data_told
  exact (fnD Flaw sc_law (body_law T o7 o6 o9 o8 (o13 5) o15 o11 o16 o14 o12 o18 _) data_law).imp fun vs H Q E h => start_law (fun d ns Q R e1 e2 hl hb q => ⟨d, ns, rfl, e1, e2, hl, hb, fun _ => rfl, q⟩) h
theorem walk {l : PySem.W.OpenLaw} {q : Program} {loose : List Str} {XP : (Str → Option Value) → Heap → Prop} {YP : World → Heap → Prop} {d : DefRec} {K : Params → PySem.W.Frag} (hn : l.most = some 63) (hdf : d.params.defaults = [])
    (hY : ∀ (w : World) (h : Heap), YP w h → (K w.params).In h)
    (F : ∀ (w : World) (mg : Str → Option Value) (fa : Addr) (h : Heap), (K w.params).In h → h.Ns mainGlobals mg → mg d.name = some (.ref fa) →
      ∃ fd : FuncData, (∀ (s : Shared) (u : Value), BindsTo s fd ⟨[u], []⟩ [("script", u)]) ∧ ∀ base : Heap, (K w.params).In base → base.Ns mainGlobals mg → FnOk l.prog w (K w.params) mg base (L2N.CX l.prog w) 20 fa fd ["script"] (spLaw (K w.params))) :
    PySem.W.WalkO q loose XP YP l.row.toRowW d [] (fun f vs => PySem.call f vs) :=
  L2.walk_ofB (n := 63) (k := 20) (x := "script") (CX := fun w => L2N.CX l.prog w) (sp := fun w => spLaw (K w.params)) hn (by decide) hdf ⟨rfl, by decide, by decide⟩ hY F (fun _ _ a ns hl hb _ hS => ⟨a, ns, rfl, hS, hl, hb, fun _ => rfl⟩) fun _ _ _ _ _ z => by
    obtain ⟨_, _, _, _, _, _, _, _, _, _, _, _, z⟩ := z
    exact z.elim
end K01


open PySem PySem.W PyProof.Rows
set_option maxRecDepth 100000 in
set_option maxHeartbeats 0 in
theorem PySem.Challenge.cw_allscripts_k01_whole_class_tables_of_man_holds : PySem.Challenge.rw_allscripts_k01_whole_class_tables_of_man.Holds := by
  w_on; o_law; k_head; (case hw => w_witness2)
  k_fill
  refine K01.walk (l := PySem.Challenge.rw_allscripts_k01_whole_class_tables_of_man) rfl rfl (fun w h Y => PySem.W.kIn_of Y) ?F
  case F =>
    intro w mg fa h KX G hmg
    refine' K01.all_mk KX G hmg ?z_abs ?z_bool ?z_int ?z_isinstance ?z_len ?z_list ?z_max ?z_min ?z_range ?z_reversed ?z_set ?z_sorted ?z_str ?z_tuple ?g_ScriptError ?g_OutOfRange ?g_Malformed ?g_Refused ?g_NotThere ?g_BadLine ?g_ClassTable ?q_LAST_SIGN ?q_MOST_CLASSES ?q_GAP ?r_GAP ?ais_sign ?lis_sign ?cis_sign ?kis_sign ?acheck_text ?lcheck_text ?ccheck_text ?kcheck_text ?acheck_ranges ?lcheck_ranges ?ccheck_ranges ?kcheck_ranges ?alook_up ?llook_up ?clook_up ?klook_up ?acuts ?lcuts ?ccuts ?kcuts ?aClassTable_init ?iClassTable_init ?lClassTable_init ?cClassTable_init ?kClassTable_init ?aClassTable_class_of ?iClassTable_class_of ?lClassTable_class_of ?cClassTable_class_of ?kClassTable_class_of ?aClassTable_row ?iClassTable_row ?lClassTable_row ?cClassTable_row ?kClassTable_row ?aClassTable_present ?iClassTable_present ?lClassTable_present ?cClassTable_present ?kClassTable_present ?aClassTable_sample ?iClassTable_sample ?lClassTable_sample ?cClassTable_sample ?kClassTable_sample ?a_law_draws ?l_law_draws ?c_law_draws ?k_law_draws ?a_law_take ?l_law_take ?c_law_take ?k_law_take ?a_law_alike ?l_law_alike ?c_law_alike ?k_law_alike ?a_law_ranges ?l_law_ranges ?c_law_ranges ?k_law_ranges ?a_law_class ?l_law_class ?c_law_class ?k_law_class ?a_law_least ?l_law_least ?c_law_least ?k_law_least ?a_law_told ?l_law_told ?c_law_told ?k_law_told ?alaw ?llaw ?claw ?klaw ?a_law_word ?l_law_word ?c_law_word ?k_law_word ?pg_ClassTable ?hd_ClassTable ?po_ClassTable ?sa_ClassTable ?mk_ClassTable ?kc_ClassTable ?na_ClassTable_count ?na_ClassTable_ranges ?na_ClassTable_samples ?bS ?tS ?iS ?xq_OutOfRange ?xk_OutOfRange ?xb_OutOfRange ?xt_OutOfRange ?xs_OutOfRange ?e1_OutOfRange ?e2_OutOfRange ?e4_OutOfRange ?e5_OutOfRange ?e8_OutOfRange ?w1_OutOfRange ?w2_OutOfRange ?n2_OutOfRange ?w3_OutOfRange ?n3_OutOfRange ?w4_OutOfRange ?n4_OutOfRange ?w5_OutOfRange ?n5_OutOfRange ?xq_Refused ?xk_Refused ?xb_Refused ?xt_Refused ?xs_Refused ?e1_Refused ?e2_Refused ?e4_Refused ?e5_Refused ?e8_Refused ?w1_Refused ?n1_Refused ?w2_Refused ?n2_Refused ?w3_Refused ?n3_Refused ?w4_Refused ?w5_Refused ?n5_Refused ?xq_NotThere ?xk_NotThere ?xb_NotThere ?xt_NotThere ?xs_NotThere ?e1_NotThere ?e2_NotThere ?e4_NotThere ?e5_NotThere ?e8_NotThere ?w1_NotThere ?n1_NotThere ?w2_NotThere ?n2_NotThere ?w3_NotThere ?w4_NotThere ?n4_NotThere ?w5_NotThere ?n5_NotThere ?wj_OutOfRange ?wt_OutOfRange ?wj_Malformed ?wt_Malformed ?wj_NotThere ?wt_NotThere ?wj_Refused ?wt_Refused ?wj_BadLine ?wt_BadLine ?e6 ?e7
    (case z_abs => k_is)
    (case z_bool => k_is)
    (case z_int => k_is)
    (case z_isinstance => k_is)
    (case z_len => k_is)
    (case z_list => k_is)
    (case z_max => k_is)
    (case z_min => k_is)
    (case z_range => k_is)
    (case z_reversed => k_is)
    (case z_set => k_is)
    (case z_sorted => k_is)
    (case z_str => k_is)
    (case z_tuple => k_is)
    (case g_ScriptError => k_is)
    (case g_OutOfRange => k_is)
    (case g_Malformed => k_is)
    (case g_Refused => k_is)
    (case g_NotThere => k_is)
    (case g_BadLine => k_is)
    (case g_ClassTable => k_is)
    (case q_LAST_SIGN => k_is)
    (case q_MOST_CLASSES => k_is)
    (case q_GAP => k_is)
    (case r_GAP => k_is)
    (case ais_sign => k_is)
    (case lis_sign => k_is)
    (case cis_sign => k_is)
    (case kis_sign => k_is)
    (case acheck_text => k_is)
    (case lcheck_text => k_is)
    (case ccheck_text => k_is)
    (case kcheck_text => k_is)
    (case acheck_ranges => k_is)
    (case lcheck_ranges => k_is)
    (case ccheck_ranges => k_is)
    (case kcheck_ranges => k_is)
    (case alook_up => k_is)
    (case llook_up => k_is)
    (case clook_up => k_is)
    (case klook_up => k_is)
    (case acuts => k_is)
    (case lcuts => k_is)
    (case ccuts => k_is)
    (case kcuts => k_is)
    (case aClassTable_init => k_is)
    (case iClassTable_init => k_is)
    (case lClassTable_init => k_is)
    (case cClassTable_init => k_is)
    (case kClassTable_init => k_is)
    (case aClassTable_class_of => k_is)
    (case iClassTable_class_of => k_is)
    (case lClassTable_class_of => k_is)
    (case cClassTable_class_of => k_is)
    (case kClassTable_class_of => k_is)
    (case aClassTable_row => k_is)
    (case iClassTable_row => k_is)
    (case lClassTable_row => k_is)
    (case cClassTable_row => k_is)
    (case kClassTable_row => k_is)
    (case aClassTable_present => k_is)
    (case iClassTable_present => k_is)
    (case lClassTable_present => k_is)
    (case cClassTable_present => k_is)
    (case kClassTable_present => k_is)
    (case aClassTable_sample => k_is)
    (case iClassTable_sample => k_is)
    (case lClassTable_sample => k_is)
    (case cClassTable_sample => k_is)
    (case kClassTable_sample => k_is)
    (case a_law_draws => k_is)
    (case l_law_draws => k_is)
    (case c_law_draws => k_is)
    (case k_law_draws => k_is)
    (case a_law_take => k_is)
    (case l_law_take => k_is)
    (case c_law_take => k_is)
    (case k_law_take => k_is)
    (case a_law_alike => k_is)
    (case l_law_alike => k_is)
    (case c_law_alike => k_is)
    (case k_law_alike => k_is)
    (case a_law_ranges => k_is)
    (case l_law_ranges => k_is)
    (case c_law_ranges => k_is)
    (case k_law_ranges => k_is)
    (case a_law_class => k_is)
    (case l_law_class => k_is)
    (case c_law_class => k_is)
    (case k_law_class => k_is)
    (case a_law_least => k_is)
    (case l_law_least => k_is)
    (case c_law_least => k_is)
    (case k_law_least => k_is)
    (case a_law_told => k_is)
    (case l_law_told => k_is)
    (case c_law_told => k_is)
    (case k_law_told => k_is)
    (case alaw => k_is)
    (case llaw => k_is)
    (case claw => k_is)
    (case klaw => k_is)
    (case a_law_word => k_is)
    (case l_law_word => k_is)
    (case c_law_word => k_is)
    (case k_law_word => k_is)
    (case pg_ClassTable => k_is)
    (case hd_ClassTable => k_is)
    (case po_ClassTable => k_is)
    (case sa_ClassTable => k_is)
    (case mk_ClassTable => k_is)
    (case kc_ClassTable => k_is)
    (case na_ClassTable_count => k_is)
    (case na_ClassTable_ranges => k_is)
    (case na_ClassTable_samples => k_is)
    (case bS => k_is)
    (case tS => k_is)
    (case iS => k_is)
    (case xq_OutOfRange => k_exc)
    (case xk_OutOfRange => k_is)
    (case xb_OutOfRange => k_is)
    (case xt_OutOfRange => k_is)
    (case xs_OutOfRange => k_is)
    (case e1_OutOfRange => k_is)
    (case e2_OutOfRange => k_is)
    (case e4_OutOfRange => k_is)
    (case e5_OutOfRange => k_is)
    (case e8_OutOfRange => k_is)
    (case w1_OutOfRange => k_is)
    (case w2_OutOfRange => k_is)
    (case n2_OutOfRange => first | rfl | decide)
    (case w3_OutOfRange => k_is)
    (case n3_OutOfRange => first | rfl | decide)
    (case w4_OutOfRange => k_is)
    (case n4_OutOfRange => first | rfl | decide)
    (case w5_OutOfRange => k_is)
    (case n5_OutOfRange => first | rfl | decide)
    (case xq_Refused => k_exc)
    (case xk_Refused => k_is)
    (case xb_Refused => k_is)
    (case xt_Refused => k_is)
    (case xs_Refused => k_is)
    (case e1_Refused => k_is)
    (case e2_Refused => k_is)
    (case e4_Refused => k_is)
    (case e5_Refused => k_is)
    (case e8_Refused => k_is)
    (case w1_Refused => k_is)
    (case n1_Refused => first | rfl | decide)
    (case w2_Refused => k_is)
    (case n2_Refused => first | rfl | decide)
    (case w3_Refused => k_is)
    (case n3_Refused => first | rfl | decide)
    (case w4_Refused => k_is)
    (case w5_Refused => k_is)
    (case n5_Refused => first | rfl | decide)
    (case xq_NotThere => k_exc)
    (case xk_NotThere => k_is)
    (case xb_NotThere => k_is)
    (case xt_NotThere => k_is)
    (case xs_NotThere => k_is)
    (case e1_NotThere => k_is)
    (case e2_NotThere => k_is)
    (case e4_NotThere => k_is)
    (case e5_NotThere => k_is)
    (case e8_NotThere => k_is)
    (case w1_NotThere => k_is)
    (case n1_NotThere => first | rfl | decide)
    (case w2_NotThere => k_is)
    (case n2_NotThere => first | rfl | decide)
    (case w3_NotThere => k_is)
    (case w4_NotThere => k_is)
    (case n4_NotThere => first | rfl | decide)
    (case w5_NotThere => k_is)
    (case n5_NotThere => first | rfl | decide)
    (case wj_OutOfRange => k_is)
    (case wt_OutOfRange => k_is)
    (case wj_Malformed => k_is)
    (case wt_Malformed => k_is)
    (case wj_NotThere => k_is)
    (case wt_NotThere => k_is)
    (case wj_Refused => k_is)
    (case wt_Refused => k_is)
    (case wj_BadLine => k_is)
    (case wt_BadLine => k_is)
    (case e6 => k_is)
    (case e7 => k_is)

