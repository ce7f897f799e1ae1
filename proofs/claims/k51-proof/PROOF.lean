import PyProof.Rows.All
import HandS.ForSpec
import HandS.ForMost
import HandS.Star
import HandS.IsInst
import HandS.Zip
import HandS.SetIn
import HandS.TupAny
import HandS.FStr
import HandS.ReplaceLit
import HandS.Conv
import HandS.ExcCtx
import KE.KUnpackStar
import HandS.Style
import HandS.ExcInit
import HandS.OwnIter
import HandS.IterVal
import HandS.ExcInitHot
import HandS.ExcField
import HandS.ExcIs
import KE.KExcIs
import HandS.More
import HandS.TryMany
import PyProof.ZipIter
import HandS.Zip0
import HandS.ListEq
import HandS.RaiseMore
import PySem.Challenge.RW_tokenreads_k51_texts_of_deeds_and_histor
import HandS.ForDict
import HandS.Text
import KE.IntTextLaws
import PyProof.Rows.StrSplitJoin
import PyProof.Rows.StrSplitAre
set_option Elab.async false
set_option linter.all false
set_option maxRecDepth 100000
set_option autoImplicit false
namespace Tok
open PySem L2

/-! data as trees; what may change stands in a store -/
inductive D where
  | non | bl (b : Bool) | int (i : Int) | str (s : Str)
  | tup (xs : List D) | lst (xs : List D) | scr (xs : List D)
  | dct (ks : List Str) (vs : List D)
  | ref (l : Nat)
  | fn (i : Nat)
  deriving Inhabited
inductive SO where
  | lst (xs : List D) | ins (c : Nat) (fs : List (Str × D)) | dead
  deriving Inhabited
abbrev Sto := List SO
def SO.live : SO → Prop
  | .dead => False
  | _ => True
abbrev Env := List (Option D)
inductive R (α : Type) where
  | ok (a : α) (S : Sto) | exn (c : Nat) (fs : List (Str × D)) (S : Sto) | bad
def R.bind {α β : Type} (r : R α) (k : α → Sto → R β) : R β := match r with
  | .ok a S => k a S
  | .exn c fs S => .exn c fs S
  | .bad => .bad
@[simp] theorem R.bind_ok {α β : Type} {a : α} {S : Sto} {k : α → Sto → R β} : (R.ok a S).bind k = k a S := rfl
@[simp] theorem R.bind_exn {α β : Type} {c : Nat} {fs} {S : Sto} {k : α → Sto → R β} : (R.exn c fs S : R α).bind k = .exn c fs S := rfl
@[simp] theorem R.bind_bad {α β : Type} {k : α → Sto → R β} : (R.bad : R α).bind k = .bad := rfl
def R.ofO {α : Type} (o : Option α) (S : Sto) : R α := match o with
  | some a => .ok a S
  | none => .bad
@[simp] theorem R.ofO_some {α : Type} {a : α} {S : Sto} : R.ofO (some a) S = .ok a S := rfl
@[simp] theorem R.ofO_none {α : Type} {S : Sto} : R.ofO (none : Option α) S = .bad := rfl

/-- the ground: the written part, where the classes stand, where the defs stand -/
structure Gx where
  K : PySem.W.Frag
  CA : Nat → Addr
  FA : Nat → Addr

mutual
inductive Rep (G : Gx) (η : List Addr) (T : Hp) : D → V → Prop
  | non : Rep G η T .non .non
  | bl {b} : Rep G η T (.bl b) (.bl b)
  | int {i} : Rep G η T (.int i) (.int i)
  | str {s} : Rep G η T (.str s) (.str s)
  | tup {a : Addr} {vs : List V} {ds : List D} : SqT G.K T a vs → Reps G η T ds vs → Rep G η T (.tup ds) (.ref a)
  | lst {a : Addr} {vs : List V} {ds : List D} : T a = some (.lst vs) → Reps G η T ds vs → Rep G η T (.lst ds) (.ref a)
  | scr {a : Addr} {vs : List V} {ds : List D} : SqL G.K T a vs → Reps G η T ds vs → Rep G η T (.scr ds) (.ref a)
  | dct {a : Addr} {ks : List Str} {vs : List V} {ds : List D} : ks.Nodup → ks.length = vs.length → Rd T a (.dK ((ks.map Sum.inr).zip vs)) → Reps G η T ds vs → Rep G η T (.dct ks ds) (.ref a)
  | ref {l : Nat} {a : Addr} : η[l]? = some a → Rep G η T (.ref l) (.ref a)
  | fn {i : Nat} : Rep G η T (.fn i) (.ref (G.FA i))
inductive Reps (G : Gx) (η : List Addr) (T : Hp) : List D → List V → Prop
  | nil : Reps G η T [] []
  | cons {d : D} {v : V} {ds : List D} {vs : List V} : Rep G η T d v → Reps G η T ds vs → Reps G η T (d :: ds) (v :: vs)
end

structure Ext (η : List Addr) (T : Hp) (η' : List Addr) (T' : Hp) : Prop where
  pre : η <+: η'
  sub : ∀ a o, T a = some o → T' a = some o
theorem Ext.refl {η : List Addr} {T : Hp} : Ext η T η T := ⟨List.prefix_refl _, fun _ _ h => h⟩
theorem Ext.trans {η η' η'' : List Addr} {T T' T'' : Hp} (a : Ext η T η' T') (b : Ext η' T' η'' T'') : Ext η T η'' T'' :=
  ⟨a.pre.trans b.pre, fun x o h => b.sub x o (a.sub x o h)⟩
theorem pre_get {α : Type} {l l' : List α} (h : l <+: l') {i : Nat} {x : α} (e : l[i]? = some x) : l'[i]? = some x := by
  obtain ⟨t, rfl⟩ := h
  rw [List.getElem?_append_left (List.getElem?_eq_some_iff.mp e).1]
  exact e
theorem rd_mono {T T' : Hp} (h : ∀ a o, T a = some o → T' a = some o) {a : Addr} {u : HO} (r : Rd T a u) : Rd T' a u := by
  rcases r with r | ⟨o, r⟩
  · exact .inl (h _ _ r)
  · exact .inr ⟨o, h _ _ r⟩
theorem sqT_mono {K : PySem.W.Frag} {T T' : Hp} (h : ∀ a o, T a = some o → T' a = some o) {a : Addr} {xs : List V} (r : SqT K T a xs) : SqT K T' a xs := r.imp (rd_mono h) id
theorem sqL_mono {K : PySem.W.Frag} {T T' : Hp} (h : ∀ a o, T a = some o → T' a = some o) {a : Addr} {xs : List V} (r : SqL K T a xs) : SqL K T' a xs := r.imp (rd_mono h) id

section
variable {G : Gx} {η η' : List Addr} {T T' : Hp}
mutual
theorem Rep.mono (e : Ext η T η' T') : ∀ {d : D} {v : V}, Rep G η T d v → Rep G η' T' d v
  | _, _, .non => .non
  | _, _, .bl => .bl
  | _, _, .int => .int
  | _, _, .str => .str
  | _, _, .tup h r => .tup (sqT_mono e.sub h) (Reps.mono e r)
  | _, _, .lst h r => .lst (e.sub _ _ h) (Reps.mono e r)
  | _, _, .scr h r => .scr (sqL_mono e.sub h) (Reps.mono e r)
  | _, _, .dct n l h r => .dct n l (rd_mono e.sub h) (Reps.mono e r)
  | _, _, .ref h => .ref (pre_get e.pre h)
  | _, _, .fn => .fn
theorem Reps.mono (e : Ext η T η' T') : ∀ {ds : List D} {vs : List V}, Reps G η T ds vs → Reps G η' T' ds vs
  | _, _, .nil => .nil
  | _, _, .cons h r => .cons (Rep.mono e h) (Reps.mono e r)
end
theorem Reps.length : ∀ {ds : List D} {vs : List V}, Reps G η T ds vs → ds.length = vs.length
  | _, _, .nil => rfl
  | _, _, .cons _ r => congrArg (· + 1) (Reps.length r)
theorem Reps.get : ∀ {ds : List D} {vs : List V} {i : Nat} {d : D}, Reps G η T ds vs → ds[i]? = some d → ∃ v, vs[i]? = some v ∧ Rep G η T d v
  | _, _, _, _, .nil, e => by simp at e
  | _, _, 0, _, .cons r _, e => by
    simp at e; subst e; exact ⟨_, rfl, r⟩
  | _, _, i + 1, d, .cons _ t, e => by
    obtain ⟨u, h1, h2⟩ := Reps.get (i := i) (d := d) t (by simpa using e)
    exact ⟨u, by simpa using h1, h2⟩
theorem Reps.get' : ∀ {ds : List D} {vs : List V} {i : Nat} {v : V}, Reps G η T ds vs → vs[i]? = some v → ∃ d, ds[i]? = some d ∧ Rep G η T d v
  | _, _, _, _, .nil, e => by simp at e
  | _, _, 0, _, .cons r _, e => by
    simp at e; subst e; exact ⟨_, rfl, r⟩
  | _, _, i + 1, d, .cons _ t, e => by
    obtain ⟨u, h1, h2⟩ := Reps.get' (i := i) (v := d) t (by simpa using e)
    exact ⟨u, by simpa using h1, h2⟩
theorem Reps.append : ∀ {ds es : List D} {vs us : List V}, Reps G η T ds vs → Reps G η T es us → Reps G η T (ds ++ es) (vs ++ us)
  | _, _, _, _, .nil, s => s
  | _, _, _, _, .cons r t, s => .cons r (Reps.append t s)
theorem Reps.take : ∀ {ds : List D} {vs : List V} (n : Nat), Reps G η T ds vs → Reps G η T (ds.take n) (vs.take n)
  | _, _, 0, _ => .nil
  | _, _, _ + 1, .nil => .nil
  | _, _, n + 1, .cons r t => .cons r (Reps.take n t)
theorem Reps.drop : ∀ {ds : List D} {vs : List V} (n : Nat), Reps G η T ds vs → Reps G η T (ds.drop n) (vs.drop n)
  | _, _, 0, r => r
  | _, _, _ + 1, .nil => .nil
  | _, _, n + 1, .cons _ t => Reps.drop n t
theorem Reps.set {d : D} {v : V} (r : Rep G η T d v) : ∀ {ds : List D} {vs : List V} (i : Nat), Reps G η T ds vs → Reps G η T (ds.set i d) (vs.set i v)
  | _, _, _, .nil => .nil
  | _, _, 0, .cons _ t => .cons r t
  | _, _, i + 1, .cons q t => .cons q (Reps.set r i t)
theorem Reps.one {d : D} {v : V} (r : Rep G η T d v) : Reps G η T [d] [v] := .cons r .nil

def RepF (G : Gx) (η : List Addr) (T : Hp) (fs : List (Str × D)) (fv : List (Str × V)) : Prop := fv.map (·.1) = fs.map (·.1) ∧ Reps G η T (fs.map (·.2)) (fv.map (·.2))
def RepO (G : Gx) (η : List Addr) (T : Hp) (H : Hp) (a : Addr) : SO → Prop
  | .lst ds => ∃ vs, H a = some (.lst vs) ∧ Reps G η T ds vs
  | .ins c fs => ∃ dx fv, H a = some (.ins (G.CA c) dx fv) ∧ RepF G η T fs fv
  | .dead => True
structure GRel (G : Gx) (H : Hp) (S : Sto) (η : List Addr) (T F : Hp) : Prop where
  sub : ∀ a o, T a = some o → H a = some o
  subF : ∀ a o, F a = some o → H a = some o
  dis : ∀ a o, F a = some o → T a = none
  len : η.length = S.length
  nd : η.Nodup
  inH : ∀ a ∈ η, H a ≠ none
  off : ∀ (l : Nat) (o : SO) (a : Addr), S[l]? = some o → η[l]? = some a → o.live → T a = none
  fη : ∀ a ∈ η, F a = none
  obj : ∀ (l : Nat) (o : SO) (a : Addr), S[l]? = some o → η[l]? = some a → RepO G η T H a o
structure FRel (G : Gx) (ρ : Env) (σ : St) (η : List Addr) (T : Hp) : Prop where
  len : ρ.length = σ.length
  get : ∀ (i : Nat) (d : D), ρ[i]? = some (some d) → ∃ v, σ[i]? = some (some v) ∧ Rep G η T d v
theorem FRel.mono {ρ : Env} {σ : St} (e : Ext η T η' T') (f : FRel G ρ σ η T) : FRel G ρ σ η' T' := ⟨f.len, fun i d h => let ⟨v, a, b⟩ := f.get i d h; ⟨v, a, b.mono e⟩⟩
theorem FRel.set {ρ : Env} {σ : St} {d : D} {v : V} (f : FRel G ρ σ η T) (i : Nat) (r : Rep G η T d v) : FRel G (ρ.set i (some d)) (σ.set i (some v)) η T := by
  refine ⟨by simp [f.len], fun j e h => ?_⟩
  by_cases hj : j = i
  · subst hj
    rw [List.getElem?_set] at h
    simp only [if_true] at h
    split at h
    · rename_i hl
      cases h
      exact ⟨v, by rw [List.getElem?_set_self (by rw [← f.len]; exact hl)], r⟩
    · cases h
  · rw [List.getElem?_set_ne (Ne.symm hj)] at h
    obtain ⟨w, a, b⟩ := f.get j e h
    exact ⟨w, by rw [List.getElem?_set_ne (Ne.symm hj)]; exact a, b⟩
end

/-- an exception: its class, its own fields -/
def XRep (G : Gx) (η : List Addr) (T : Hp) (H : Hp) (c : Nat) (fs : List (Str × D)) (cls : Value) (d : Option Addr) : Prop :=
  cls = .ref (G.CA c) ∧ match fs with
    | [] => d = none
    | f :: r => ∃ dd fv, d = some dd ∧ H dd = some (.xd fv) ∧ RepF G η T (f :: r) fv

def Post {α β : Type} (G : Gx) (F : Hp) (W : WX) (σ : St) (Rp : List Addr → Hp → α → β → Prop) (r : R α) (η : List Addr) (T : Hp) (Q : β → Hp → Prop) : Prop := match r with
  | .ok d S' => ∀ v H' η' T', Ext η T η' T' → GRel G H' S' η' T' F → Rp η' T' d v → Q v H'
  | .exn c fs S' => ∀ cls dd H' η' T', Ext η T η' T' → GRel G H' S' η' T' F → XRep G η' T' H' c fs cls dd → W cls dd σ H'
  | .bad => False
section
variable {α β γ δ : Type} {G : Gx} {W : WX} {σ : St} {Rp : List Addr → Hp → α → β → Prop} {Rq : List Addr → Hp → γ → δ → Prop} {r : R α} {η η' : List Addr} {T T' F : Hp} {Q Q' : β → Hp → Prop}
theorem Post.mono (e : Ext η T η' T') (h : Post G F W σ Rp r η T Q) : Post G F W σ Rp r η' T' Q := by
  cases r with
  | ok d S => exact fun v H' η'' T'' e' g r => h v H' η'' T'' (e.trans e') g r
  | exn c fs S => exact fun v dd H' η'' T'' e' g r => h v dd H' η'' T'' (e.trans e') g r
  | bad => exact h
theorem Post.imp (h : Post G F W σ Rp r η T Q) (k : ∀ v H, Q v H → Q' v H) : Post G F W σ Rp r η T Q' := by
  cases r with
  | ok d S => exact fun v H' η'' T'' e' g r => k _ _ (h v H' η'' T'' e' g r)
  | exn c fs S => exact h
  | bad => exact h
theorem Post.bind {k : α → Sto → R γ} {Q : δ → Hp → Prop} (h : Post G F W σ Rq (r.bind k) η T Q) :
    Post G F W σ Rp r η T (fun v H1 => ∃ d S1 η1 T1, r = .ok d S1 ∧ Ext η T η1 T1 ∧ GRel G H1 S1 η1 T1 F ∧ Rp η1 T1 d v ∧ Post G F W σ Rq (k d S1) η1 T1 Q) := by
  cases r with
  | ok d S => exact fun v H' η' T' e g rp => ⟨d, S, η', T', rfl, e, g, rp, Post.mono e h⟩
  | exn c fs S => exact h
  | bad => exact h
theorem Post.ok {d : α} {S : Sto} {v : β} {H : Hp} (h : Post G F W σ Rp (.ok d S) η T Q) (g : GRel G H S η T F) (rp : Rp η T d v) : Q v H := h v H η T Ext.refl g rp
end

abbrev RpB : List Addr → Hp → Bool → Bool → Prop := fun _ _ a b => a = b
/-! ### readings by denotations -/
abbrev Den := Env → Sto → R D
abbrev DenT := Env → Sto → R Bool
abbrev DenA := Env → Sto → R (List D)
def tE (G : Gx) (W : WX) (m : Den) : TE := fun σ H Q => ∃ ρ S η T F, FRel G ρ σ η T ∧ GRel G H S η T F ∧ Post G F W σ (Rep G) (m ρ S) η T Q
def tT (G : Gx) (W : WX) (m : DenT) : TT := fun σ H Q => ∃ ρ S η T F, FRel G ρ σ η T ∧ GRel G H S η T F ∧ Post G F W σ RpB (m ρ S) η T Q
def tA (G : Gx) (W : WX) (m : DenA) : TA := fun σ H Q => ∃ ρ S η T F, FRel G ρ σ η T ∧ GRel G H S η T F ∧ Post G F W σ (Reps G) (m ρ S) η T Q

theorem _root_.L2.PE.imp {X : Cx} {e : Expr} {t t' : TE} (h : PE X e t) (k : ∀ σ H Q, t' σ H Q → t σ H Q) : PE X e t' := ⟨fun pins s σ H Q I q => h.run pins s σ H Q I (k σ H Q q)⟩
theorem _root_.L2.PT.imp {X : Cx} {e : Expr} {t t' : TT} (h : PT X e t) (k : ∀ σ H Q, t' σ H Q → t σ H Q) : PT X e t' := ⟨fun pins s σ H Q I q => h.run pins s σ H Q I (k σ H Q q)⟩
theorem _root_.L2.PW.imp {X : Cx} {e : Expr} {t t' : TT} (h : PW X e t) (k : ∀ σ H Q, t' σ H Q → t σ H Q) : PW X e t' := ⟨fun wh pins s σ H Q I q => h.run wh pins s σ H Q I (k σ H Q q)⟩
theorem _root_.L2.PA.imp {X : Cx} {e : List Expr} {t t' : TA} (h : PA X e t) (k : ∀ σ H Q, t' σ H Q → t σ H Q) : PA X e t' := ⟨fun pos pins s σ H Q I q => h.run pos pins s σ H Q I (k σ H Q q)⟩
theorem _root_.L2.PS.imp {X : Cx} {e : Stmt} {t t' : TS} (h : PS X e t) (k : ∀ D σ H, t' D σ H → t D σ H) : PS X e t' := ⟨fun pins s σ H D I q => h.run pins s σ H D I (k D σ H q)⟩
theorem _root_.L2.PSs.imp {X : Cx} {e : List Stmt} {t t' : TS} (h : PSs X e t) (k : ∀ D σ H, t' D σ H → t D σ H) : PSs X e t' := ⟨fun pins s σ H D I q => h.run pins s σ H D I (k D σ H q)⟩

section
variable {X : Cx} {G : Gx} {W : WX} {a b c : Expr} {ma mb mc : Den} {pos : Pos} {σ : St} {H : Hp}

/-- one after another -/
theorem tE_step {α β : Type} {Rq : List Addr → Hp → α → β → Prop} {m : Den} {k : D → Sto → R α} {ρ : Env} {S : Sto} {η : List Addr} {T F : Hp} {Q : β → Hp → Prop} {Q' : VK} (f : FRel G ρ σ η T) (g : GRel G H S η T F)
    (h : Post G F W σ Rq ((m ρ S).bind k) η T Q)
    (n : ∀ d v S1 H1 η1 T1, m ρ S = .ok d S1 → Ext η T η1 T1 → FRel G ρ σ η1 T1 → GRel G H1 S1 η1 T1 F → Rep G η1 T1 d v → Post G F W σ Rq (k d S1) η1 T1 Q → Q' v H1) : tE G W m σ H Q' :=
  ⟨ρ, S, η, T, F, f, g, (Post.bind h).imp fun v H1 ⟨d, S1, η1, T1, e0, e, g1, r, p⟩ => n d v S1 H1 η1 T1 e0 e (f.mono e) g1 r p⟩
theorem tT_step {α β : Type} {Rq : List Addr → Hp → α → β → Prop} {m : DenT} {k : Bool → Sto → R α} {ρ : Env} {S : Sto} {η : List Addr} {T F : Hp} {Q : β → Hp → Prop} {Q' : Bool → Hp → Prop} (f : FRel G ρ σ η T) (g : GRel G H S η T F)
    (h : Post G F W σ Rq ((m ρ S).bind k) η T Q)
    (n : ∀ d S1 H1 η1 T1, m ρ S = .ok d S1 → Ext η T η1 T1 → FRel G ρ σ η1 T1 → GRel G H1 S1 η1 T1 F → Post G F W σ Rq (k d S1) η1 T1 Q → Q' d H1) : tT G W m σ H Q' :=
  ⟨ρ, S, η, T, F, f, g, (Post.bind h).imp fun v H1 ⟨d, S1, η1, T1, e0, e, g1, r, p⟩ => by
    have r : d = v := r
    subst r
    exact n d S1 H1 η1 T1 e0 e (f.mono e) g1 p⟩
theorem tA_step {α β : Type} {Rq : List Addr → Hp → α → β → Prop} {m : DenA} {k : List D → Sto → R α} {ρ : Env} {S : Sto} {η : List Addr} {T F : Hp} {Q : β → Hp → Prop} {Q' : List V → Hp → Prop} (f : FRel G ρ σ η T) (g : GRel G H S η T F)
    (h : Post G F W σ Rq ((m ρ S).bind k) η T Q)
    (n : ∀ d v S1 H1 η1 T1, m ρ S = .ok d S1 → Ext η T η1 T1 → FRel G ρ σ η1 T1 → GRel G H1 S1 η1 T1 F → Reps G η1 T1 d v → Post G F W σ Rq (k d S1) η1 T1 Q → Q' v H1) : tA G W m σ H Q' :=
  ⟨ρ, S, η, T, F, f, g, (Post.bind h).imp fun v H1 ⟨d, S1, η1, T1, e0, e, g1, r, p⟩ => n d v S1 H1 η1 T1 e0 e (f.mono e) g1 r p⟩

/-! ### names and constants -/
def dVar (i : Nat) : Den := fun ρ S => match ρ[i]? with
  | some (some d) => .ok d S
  | _ => .bad
def dC (d : D) : Den := fun _ S => .ok d S
theorem d_var (i : Nat) {x : Str} (h : PE X (.Name x pos) (tVar i)) : PE X (.Name x pos) (tE G W (dVar i)) := h.imp fun σ H Q ⟨ρ, S, η, T, F, f, g, p⟩ => by
  unfold dVar at p
  split at p
  · rename_i d e
    obtain ⟨v, e1, r⟩ := f.get i d e
    exact ⟨v, e1, p.ok g r⟩
  · exact p.elim
theorem d_of {e : Expr} {v : V} {d : D} (h : PE X e (tC v)) (r : ∀ η T, Rep G η T d v) : PE X e (tE G W (dC d)) := h.imp fun σ H Q ⟨ρ, S, η, T, F, f, g, p⟩ => p.ok g (r η T)
theorem d_int {i j} : PE X (.Constant (.int i) j pos) (tE G W (dC (.int i))) := d_of pe_int fun _ _ => .int
theorem d_bl {i j} : PE X (.Constant (.bool i) j pos) (tE G W (dC (.bl i))) := d_of pe_bl fun _ _ => .bl
theorem d_non {j} : PE X (.Constant .none j pos) (tE G W (dC .non)) := d_of pe_non fun _ _ => .non
theorem d_str {i j} : PE X (.Constant (.str i) j pos) (tE G W (dC (.str i))) := d_of pe_str fun _ _ => .str

/-! ### operations by values: they read the store, they make new data -/
abbrev P1 := Sto → D → Option D
abbrev P2 := Sto → D → D → Option D
abbrev PN := Sto → List D → Option D
/-- the value of a primitive -/
def PostP (G : Gx) (F : Hp) (S : Sto) (o : Option D) (η : List Addr) (T : Hp) (Q : VK) : Prop := ∃ d, o = some d ∧ ∀ v H' η' T', Ext η T η' T' → GRel G H' S η' T' F → Rep G η' T' d v → Q v H'
def r2 (G : Gx) (f : P2) : R2 := fun x y H Q => ∃ S η T F dx dy, GRel G H S η T F ∧ Rep G η T dx x ∧ Rep G η T dy y ∧ PostP G F S (f S dx dy) η T Q
def r1 (G : Gx) (f : P1) : V → Hp → VK → Prop := fun x H Q => ∃ S η T F dx, GRel G H S η T F ∧ Rep G η T dx x ∧ PostP G F S (f S dx) η T Q
def rN (G : Gx) (f : PN) : List V → Hp → VK → Prop := fun xs H Q => ∃ S η T F ds, GRel G H S η T F ∧ Reps G η T ds xs ∧ PostP G F S (f S ds) η T Q
theorem postP_of {S : Sto} {o : Option D} {η : List Addr} {T F : Hp} {Q : VK} (h : Post G F W σ (Rep G) (R.ofO o S) η T Q) : PostP G F S o η T Q := by
  cases o with
  | none => exact h.elim
  | some d => exact ⟨d, rfl, h⟩
theorem PostP.val {S : Sto} {o : Option D} {d : D} {η : List Addr} {T F : Hp} {Q : VK} {v : V} {H : Hp} (h : PostP G F S o η T Q) (e : o = some d) (g : GRel G H S η T F) (r : Rep G η T d v) : Q v H := by
  obtain ⟨d', e', k⟩ := h
  rw [e] at e'; cases e'
  exact k v H η T Ext.refl g r
def dOp2 (f : P2) (ma mb : Den) : Den := fun ρ S => (ma ρ S).bind fun x S1 => (mb ρ S1).bind fun y S2 => R.ofO (f S2 x y) S2
def dOp1 (f : P1) (ma : Den) : Den := fun ρ S => (ma ρ S).bind fun x S1 => R.ofO (f S1 x) S1
def dOpN (f : PN) (ma : DenA) : Den := fun ρ S => (ma ρ S).bind fun x S1 => R.ofO (f S1 x) S1
theorem op2_reading {f : P2} {Q : VK} (h : tE G W (dOp2 f ma mb) σ H Q) : tOp (r2 G f) (tE G W ma) (tE G W mb) σ H Q := by
  obtain ⟨ρ, S, η, T, F, fr, g, p⟩ := h
  refine tE_step fr g p fun d v S1 H1 η1 T1 _ e1 f1 g1 r1 p1 => tE_step f1 g1 p1 fun d2 v2 S2 H2 η2 T2 _ e2 f2 g2 r2 p2 => ?_
  exact ⟨S2, η2, T2, F, d, d2, g2, r1.mono e2, r2, postP_of p2⟩
theorem d_op {op : Operator} {f : P2} (ho : OpR X (binaryOp op) (r2 G f)) (ha : PE X a (tE G W ma)) (hb : PE X b (tE G W mb)) : PE X (.BinOp a op b pos) (tE G W (dOp2 f ma mb)) :=
  (pe_op ho ha hb).imp fun _ _ _ => op2_reading
theorem d_un {op : UnaryOp} {f : P1} (ho : UnR X (unaryOp op) (r1 G f)) (ha : PE X a (tE G W ma)) : PE X (.UnaryOp op a pos) (tE G W (dOp1 f ma)) :=
  (pe_un ho ha).imp fun σ H Q ⟨ρ, S, η, T, F, fr, g, p⟩ => tE_step fr g p fun d v S1 H1 η1 T1 _ e1 f1 g1 r1 p1 => ⟨S1, η1, T1, F, d, g1, r1, postP_of p1⟩
theorem d_cmp {op : CmpOp} {f : P2} (ho : OpR X (compareOp op) (r2 G f)) (ha : PE X a (tE G W ma)) (hb : PE X b (tE G W mb)) (hm : behindInMarks op b = false) : PE X (.Compare a [op] [b] pos) (tE G W (dOp2 f ma mb)) :=
  (pe_cmpR ho ha hb hm).imp fun _ _ _ => op2_reading
/-! tests -/
def asB (r : R D) : R Bool := r.bind fun d S => match d with
  | .bl b => .ok b S
  | _ => .bad
def dTest (m : Den) : DenT := fun ρ S => asB (m ρ S)
theorem test_reading {m : Den} {Q : Bool → Hp → Prop} (h : tT G W (dTest m) σ H Q) : tE G W m σ H fun x H' => ∃ k, x = .bl k ∧ Q k H' := by
  obtain ⟨ρ, S, η, T, F, fr, g, p⟩ := h
  refine tE_step fr g p fun d v S1 H1 η1 T1 _ e1 f1 g1 r1 p1 => ?_
  cases r1 with
  | bl => exact ⟨_, rfl, p1.ok g1 rfl⟩
  | _ => exact p1.elim
theorem dt_cmp {op : CmpOp} {f : P2} (ho : OpR X (compareOp op) (r2 G f)) (ha : PE X a (tE G W ma)) (hb : PE X b (tE G W mb)) (hm : behindInMarks op b = false) : PT X (.Compare a [op] [b] pos) (tT G W (dTest (dOp2 f ma mb))) := by
  refine (pt_cmpR ho ha hb hm).imp fun σ H Q h => ?_
  have q := test_reading h
  exact op2_reading q
theorem dt_val {e : Expr} {m : Den} (h : PE X e (tE G W m)) (he : ∀ whole, isTrue e X.env whole = (do let v ← whole; standAt e.pos; holding [v] (truthy v)) := by intro _; rfl) : PT X e (tT G W (dTest m)) :=
  (pt_val h he).imp fun _ _ _ => test_reading
def dNotT (m : DenT) : DenT := fun ρ S => (m ρ S).bind fun b S1 => .ok (!b) S1
def dAndT (m n : DenT) : DenT := fun ρ S => (m ρ S).bind fun b S1 => if b then n ρ S1 else .ok false S1
def dOrT (m n : DenT) : DenT := fun ρ S => (m ρ S).bind fun b S1 => if b then .ok true S1 else n ρ S1
def dIfE (t : DenT) (m n : Den) : Den := fun ρ S => (t ρ S).bind fun b S1 => if b then m ρ S1 else n ρ S1
variable {tA' tB' : DenT} {rest : List Expr}
theorem dt_not (ha : PT X a (tT G W tA')) : PT X (.UnaryOp .Not a pos) (tT G W (dNotT tA')) :=
  (pt_not ha).imp fun σ H Q ⟨ρ, S, η, T, F, fr, g, p⟩ => tT_step fr g p fun d S1 H1 η1 T1 _ e1 f1 g1 p1 => p1.ok g1 rfl
theorem dw_and1 (ha : PT X a (tT G W tA')) : PW X (.BoolOp .And [a] pos) (tT G W tA') := pw_and1 ha
theorem dw_or1 (ha : PT X a (tT G W tA')) : PW X (.BoolOp .Or [a] pos) (tT G W tA') := pw_or1 ha
theorem dw_and (ha : PT X a (tT G W tA')) (hb : PW X (.BoolOp .And (b :: rest) pos) (tT G W tB')) : PW X (.BoolOp .And (a :: b :: rest) pos) (tT G W (dAndT tA' tB')) :=
  (pw_and ha hb).imp fun σ H Q ⟨ρ, S, η, T, F, fr, g, p⟩ => tT_step fr g p fun d S1 H1 η1 T1 _ e1 f1 g1 p1 => by
    cases d with
    | true => rw [if_pos rfl]; exact ⟨ρ, S1, η1, T1, F, f1, g1, p1⟩
    | false => rw [if_neg (by decide)]; exact p1.ok g1 rfl
theorem dw_or (ha : PT X a (tT G W tA')) (hb : PW X (.BoolOp .Or (b :: rest) pos) (tT G W tB')) : PW X (.BoolOp .Or (a :: b :: rest) pos) (tT G W (dOrT tA' tB')) :=
  (pw_or ha hb).imp fun σ H Q ⟨ρ, S, η, T, F, fr, g, p⟩ => tT_step fr g p fun d S1 H1 η1 T1 _ e1 f1 g1 p1 => by
    cases d with
    | true => rw [if_pos rfl]; exact p1.ok g1 rfl
    | false => rw [if_neg (by decide)]; exact ⟨ρ, S1, η1, T1, F, f1, g1, p1⟩
theorem d_if {c : Expr} (hc : PT X c (tT G W tA')) (ha : PE X a (tE G W ma)) (hb : PE X b (tE G W mb)) : PE X (.IfExp c a b pos) (tE G W (dIfE tA' ma mb)) :=
  (pe_ifExp hc ha hb).imp fun σ H Q ⟨ρ, S, η, T, F, fr, g, p⟩ => tT_step fr g p fun d S1 H1 η1 T1 _ e1 f1 g1 p1 => by
    cases d with
    | true => rw [if_pos rfl]; exact ⟨ρ, S1, η1, T1, F, f1, g1, p1⟩
    | false => rw [if_neg (by decide)]; exact ⟨ρ, S1, η1, T1, F, f1, g1, p1⟩
/-! and, or, not as values: all but the last are bools -/
def dNot (m : Den) : Den := fun ρ S => (dTest m ρ S).bind fun b S1 => .ok (.bl (!b)) S1
def dAnd (m n : Den) : Den := fun ρ S => (dTest m ρ S).bind fun b S1 => if b then n ρ S1 else .ok (.bl false) S1
def dOr (m n : Den) : Den := fun ρ S => (dTest m ρ S).bind fun b S1 => if b then .ok (.bl true) S1 else n ρ S1
theorem tE_test {α β : Type} {Rq : List Addr → Hp → α → β → Prop} {m : Den} {k : Bool → Sto → R α} {ρ : Env} {S : Sto} {η : List Addr} {T F : Hp} {Q : β → Hp → Prop} {Q' : VK} (f : FRel G ρ σ η T) (g : GRel G H S η T F)
    (h : Post G F W σ Rq ((dTest m ρ S).bind k) η T Q)
    (n : ∀ d S1 H1 η1 T1, FRel G ρ σ η1 T1 → GRel G H1 S1 η1 T1 F → Post G F W σ Rq (k d S1) η1 T1 Q → Q' (.bl d) H1) : tE G W m σ H Q' := by
  have h2 : tT G W (dTest m) σ H fun b H1 => Q' (.bl b) H1 := tT_step f g h fun d S1 H1 η1 T1 _ _ f1 g1 p => n d S1 H1 η1 T1 f1 g1 p
  obtain ⟨ρ', S', η', T', F', f', g', p'⟩ := test_reading h2
  exact ⟨ρ', S', η', T', F', f', g', p'.imp fun v H ⟨k, e, q⟩ => e ▸ q⟩
theorem d_one {op} (h : PE X a (tE G W ma)) : PE X (.BoolOp op [a] pos) (tE G W ma) := pe_one h
theorem d_and (ha : PE X a (tE G W ma)) (hb : PE X (.BoolOp .And (b :: rest) pos) (tE G W mb)) : PE X (.BoolOp .And (a :: b :: rest) pos) (tE G W (dAnd ma mb)) :=
  (pe_and ha hb).imp fun σ H Q ⟨ρ, S, η, T, F, fr, g, p⟩ => tE_test fr g p fun d S1 H1 η1 T1 f1 g1 p1 => ⟨d, rfl, by
    cases d with
    | true => rw [if_pos rfl]; exact ⟨ρ, S1, η1, T1, F, f1, g1, p1⟩
    | false => rw [if_neg (by decide)]; exact p1.ok g1 .bl⟩
theorem d_or (ha : PE X a (tE G W ma)) (hb : PE X (.BoolOp .Or (b :: rest) pos) (tE G W mb)) : PE X (.BoolOp .Or (a :: b :: rest) pos) (tE G W (dOr ma mb)) :=
  (pe_or ha hb).imp fun σ H Q ⟨ρ, S, η, T, F, fr, g, p⟩ => tE_test fr g p fun d S1 H1 η1 T1 f1 g1 p1 => ⟨d, rfl, by
    cases d with
    | true => rw [if_pos rfl]; exact p1.ok g1 .bl
    | false => rw [if_neg (by decide)]; exact ⟨ρ, S1, η1, T1, F, f1, g1, p1⟩⟩
theorem d_not (ha : PE X a (tE G W ma)) : PE X (.UnaryOp .Not a pos) (tE G W (dNot ma)) :=
  (pe_not ha).imp fun σ H Q ⟨ρ, S, η, T, F, fr, g, p⟩ => tE_test fr g p fun d S1 H1 η1 T1 f1 g1 p1 => ⟨d, rfl, p1.ok g1 .bl⟩
/-! argument lists -/
def aNil : DenA := fun _ S => .ok [] S
def aCons (m : Den) (n : DenA) : DenA := fun ρ S => (m ρ S).bind fun x S1 => (n ρ S1).bind fun xs S2 => .ok (x :: xs) S2
variable {es : List Expr} {na : DenA}
theorem a_nil : PA X [] (tA G W aNil) := pa_nil.imp fun σ H Q ⟨ρ, S, η, T, F, fr, g, p⟩ => p.ok g .nil
theorem a_cons {e : Expr} (ha : PE X e (tE G W ma)) (hr : PA X es (tA G W na)) (hs : starEach (e :: es) X.env = (false, eval e X.env) :: starEach es X.env := by rfl) : PA X (e :: es) (tA G W (aCons ma na)) :=
  (pa_cons ha hr hs).imp fun σ H Q ⟨ρ, S, η, T, F, fr, g, p⟩ => tE_step fr g p fun d v S1 H1 η1 T1 _ e1 f1 g1 r1 p1 => tA_step f1 g1 p1 fun d2 v2 S2 H2 η2 T2 _ e2 f2 g2 r2 p2 => p2.ok g2 (.cons (r1.mono e2) r2)
end
end Tok
namespace Tok
open PySem L2

/-! ## statements -/
inductive Fl where
  | nx (ρ : Env) | rt (d : D) | bk (ρ : Env) | ct (ρ : Env)
abbrev DenS := Env → Sto → R Fl
def PostS (G : Gx) (F : Hp) (W : WX) (r : R Fl) (η : List Addr) (T : Hp) (E : Ends) : Prop := match r with
  | .ok (.nx ρ') S' => ∀ σ' H' η' T', Ext η T η' T' → GRel G H' S' η' T' F → FRel G ρ' σ' η' T' → E.nx σ' H'
  | .ok (.rt d) S' => ∀ v H' η' T', Ext η T η' T' → GRel G H' S' η' T' F → Rep G η' T' d v → E.rt v H'
  | .ok (.bk ρ') S' => ∀ σ' H' η' T', Ext η T η' T' → GRel G H' S' η' T' F → FRel G ρ' σ' η' T' → E.bk σ' H'
  | .ok (.ct ρ') S' => ∀ σ' H' η' T', Ext η T η' T' → GRel G H' S' η' T' F → FRel G ρ' σ' η' T' → E.ct σ' H'
  | .exn c fs S' => ∀ cls dd σ' H' η' T', Ext η T η' T' → GRel G H' S' η' T' F → XRep G η' T' H' c fs cls dd → W cls dd σ' H'
  | .bad => False
def tS (G : Gx) (W : WX) (m : DenS) : TS := fun E σ H => ∃ ρ S η T F, FRel G ρ σ η T ∧ GRel G H S η T F ∧ PostS G F W (m ρ S) η T E
section
variable {G : Gx} {W : WX} {η η' : List Addr} {T T' F : Hp} {E : Ends} {r : R Fl}
theorem PostS.mono (e : Ext η T η' T') (h : PostS G F W r η T E) : PostS G F W r η' T' E := by
  unfold PostS at h ⊢
  split at h
  · exact fun v H' η'' T'' e' g r => h v H' η'' T'' (e.trans e') g r
  · exact fun v H' η'' T'' e' g r => h v H' η'' T'' (e.trans e') g r
  · exact fun v H' η'' T'' e' g r => h v H' η'' T'' (e.trans e') g r
  · exact fun v H' η'' T'' e' g r => h v H' η'' T'' (e.trans e') g r
  · exact fun v dd s H' η'' T'' e' g r => h v dd s H' η'' T'' (e.trans e') g r
  · exact h
/-- an expression ahead of a statement's end -/
theorem PostS.bind {α β : Type} {Rp : List Addr → Hp → α → β → Prop} {σ : St} {m : R α} {k : α → Sto → R Fl} (h : PostS G F W (m.bind k) η T E) :
    Post G F W σ Rp m η T (fun v H1 => ∃ d S1 η1 T1, m = .ok d S1 ∧ Ext η T η1 T1 ∧ GRel G H1 S1 η1 T1 F ∧ Rp η1 T1 d v ∧ PostS G F W (k d S1) η1 T1 E) := by
  cases m with
  | ok d S => exact fun v H' η' T' e g rp => ⟨d, S, η', T', rfl, e, g, rp, PostS.mono e h⟩
  | exn c fs S => exact fun cls dd H' η' T' e g r => h cls dd σ H' η' T' e g r
  | bad => exact h
end

section
variable {X : Cx} {G : Gx} {W : WX} {a b c e : Expr} {ma mb mc m : Den} {pos : Pos} {σ : St} {H : Hp} {st : Stmt} {rest : List Stmt} {ms ns : DenS} {E : Ends}
theorem sE_step {k : D → Sto → R Fl} {ρ : Env} {S : Sto} {η : List Addr} {T F : Hp} {Q' : VK} (f : FRel G ρ σ η T) (g : GRel G H S η T F)
    (h : PostS G F W ((m ρ S).bind k) η T E)
    (n : ∀ d v S1 H1 η1 T1, m ρ S = .ok d S1 → Ext η T η1 T1 → FRel G ρ σ η1 T1 → GRel G H1 S1 η1 T1 F → Rep G η1 T1 d v → PostS G F W (k d S1) η1 T1 E → Q' v H1) : tE G W m σ H Q' :=
  ⟨ρ, S, η, T, F, f, g, (PostS.bind h).imp fun v H1 ⟨d, S1, η1, T1, e0, e, g1, r, p⟩ => n d v S1 H1 η1 T1 e0 e (f.mono e) g1 r p⟩
theorem sT_step {t : DenT} {k : Bool → Sto → R Fl} {ρ : Env} {S : Sto} {η : List Addr} {T F : Hp} {Q' : Bool → Hp → Prop} (f : FRel G ρ σ η T) (g : GRel G H S η T F)
    (h : PostS G F W ((t ρ S).bind k) η T E)
    (n : ∀ d S1 H1 η1 T1, t ρ S = .ok d S1 → Ext η T η1 T1 → FRel G ρ σ η1 T1 → GRel G H1 S1 η1 T1 F → PostS G F W (k d S1) η1 T1 E → Q' d H1) : tT G W t σ H Q' :=
  ⟨ρ, S, η, T, F, f, g, (PostS.bind (Rp := RpB) h).imp fun v H1 ⟨d, S1, η1, T1, e0, e, g1, r, p⟩ => by
    have r : d = v := r
    subst r
    exact n d S1 H1 η1 T1 e0 e (f.mono e) g1 p⟩

def sNext : DenS := fun ρ S => .ok (.nx ρ) S
/-- a statement, then what follows it -/
def andThen (r : R Fl) (n : DenS) : R Fl := r.bind fun f S1 => match f with
  | .nx ρ1 => n ρ1 S1
  | f => .ok f S1
def sSeq (m n : DenS) : DenS := fun ρ S => andThen (m ρ S) n
theorem ss_nil : PSs X [] (tS G W sNext) := pss_nil.imp fun E σ H ⟨ρ, S, η, T, F, f, g, p⟩ => p σ H η T Ext.refl g f
theorem ss_cons (h1 : PS X st (tS G W ms)) (h2 : PSs X rest (tS G W ns)) : PSs X (st :: rest) (tS G W (sSeq ms ns)) :=
  (pss_cons h1 h2).imp fun E σ H ⟨ρ, S, η, T, F, f, g, p⟩ => by
    refine ⟨ρ, S, η, T, F, f, g, ?_⟩
    unfold sSeq andThen at p
    cases e : ms ρ S with
    | bad => rw [e] at p; exact p
    | exn c fs S => rw [e] at p; exact p
    | ok fl S1 =>
      rw [e] at p
      cases fl with
      | nx ρ1 => exact fun σ' H' η' T' ex g' f' => ⟨ρ1, S1, η', T', F, f', g', p.mono ex⟩
      | rt d => exact p
      | bk ρ1 => exact p
      | ct ρ1 => exact p
theorem ss_one (h1 : PS X st (tS G W ms)) : PSs X [st] (tS G W ms) := pss_one h1
def sRet (m : Den) : DenS := fun ρ S => (m ρ S).bind fun d S1 => .ok (.rt d) S1
def sRetN : DenS := fun _ S => .ok (.rt .non) S
def sDrop (m : Den) : DenS := fun ρ S => (m ρ S).bind fun _ S1 => .ok (.nx ρ) S1
def sIf (t : DenT) (m n : DenS) : DenS := fun ρ S => (t ρ S).bind fun b S1 => if b then m ρ S1 else n ρ S1
def sCont : DenS := fun ρ S => .ok (.ct ρ) S
def sBrk : DenS := fun ρ S => .ok (.bk ρ) S
theorem s_pass : PS X (.Pass pos) (tS G W sNext) := ps_pass.imp fun E σ H ⟨ρ, S, η, T, F, f, g, p⟩ => p σ H η T Ext.refl g f
theorem s_continue : PS X (.Continue pos) (tS G W sCont) := ps_continue.imp fun E σ H ⟨ρ, S, η, T, F, f, g, p⟩ => p σ H η T Ext.refl g f
theorem s_break : PS X (.Break pos) (tS G W sBrk) := ps_break.imp fun E σ H ⟨ρ, S, η, T, F, f, g, p⟩ => p σ H η T Ext.refl g f
theorem s_retN : PS X (.Return none pos) (tS G W sRetN) := ps_retN.imp fun E σ H ⟨ρ, S, η, T, F, f, g, p⟩ => p .non H η T Ext.refl g .non
theorem s_ret (h : PE X e (tE G W m)) : PS X (.Return (some e) pos) (tS G W (sRet m)) :=
  (ps_ret h).imp fun E σ H ⟨ρ, S, η, T, F, f, g, p⟩ => sE_step f g p fun d v S1 H1 η1 T1 _ e1 f1 g1 r1 p1 => p1 v H1 η1 T1 Ext.refl g1 r1
theorem s_expr (h : PE X e (tE G W m)) (hs : swapsWith e none pos.line X.env = pure false := by rfl) : PS X (.Expr e pos) (tS G W (sDrop m)) :=
  (ps_expr h hs).imp fun E σ H ⟨ρ, S, η, T, F, f, g, p⟩ => sE_step f g p fun d v S1 H1 η1 T1 _ e1 f1 g1 r1 p1 => p1 σ H1 η1 T1 Ext.refl g1 f1
theorem s_if {c : Expr} {x y : List Stmt} {t : DenT} (hc : PT X c (tT G W t)) (ha : PSs X x (tS G W ms)) (hb : PSs X y (tS G W ns)) : PS X (.If c x y pos) (tS G W (sIf t ms ns)) :=
  (ps_if hc ha hb).imp fun E σ H ⟨ρ, S, η, T, F, f, g, p⟩ => sT_step f g p fun d S1 H1 η1 T1 _ e1 f1 g1 p1 => by
    cases d with
    | true => rw [if_pos rfl]; exact ⟨ρ, S1, η1, T1, F, f1, g1, p1⟩
    | false => rw [if_neg (by decide)]; exact ⟨ρ, S1, η1, T1, F, f1, g1, p1⟩

/-! ## targets -/
abbrev Tgt := D → Env → Option Env
abbrev Tgts := List D → Env → Option Env
def tG (G : Gx) (vs : List Nat) (t : Tgt) : TG := fun v σ H Q => ∃ ρ S η T F d ρ', FRel G ρ σ η T ∧ GRel G H S η T F ∧ Rep G η T d v ∧ t d ρ = some ρ' ∧
  ∀ σ' H' η' T', Ext η T η' T' → GRel G H' S η' T' F → FRel G ρ' σ' η' T' → wipe σ' vs = wipe σ vs → Q σ' H'
def tGs (G : Gx) (vs : List Nat) (t : Tgts) : TGs := fun us σ H Q => ∃ ρ S η T F ds ρ', FRel G ρ σ η T ∧ GRel G H S η T F ∧ Reps G η T ds us ∧ t ds ρ = some ρ' ∧
  ∀ σ' H' η' T', Ext η T η' T' → GRel G H' S η' T' F → FRel G ρ' σ' η' T' → wipe σ' vs = wipe σ vs → Q σ' H'
theorem wipe_in {σ : St} {j : Nat} : ∀ {vs : List Nat}, j ∈ vs → j < σ.length → (wipe σ vs)[j]? = some none
  | v :: vs, h, hl => by
    unfold wipe
    by_cases e : v = j
    · subst e
      rw [List.getElem?_set_self (by rw [wipe_length]; exact hl)]
    · rw [List.getElem?_set_ne e]
      exact wipe_in ((List.mem_cons.mp h).resolve_left (Ne.symm e)) hl
theorem wipe_set {σ : St} {i : Nat} {x : Option V} {vs : List Nat} (h : i ∈ vs) : wipe (σ.set i x) vs = wipe σ vs := by
  apply List.ext_getElem?
  intro j
  by_cases hj : j ∈ vs
  · by_cases hl : j < σ.length
    · rw [wipe_in hj (by simpa using hl), wipe_in hj hl]
    · rw [List.getElem?_eq_none (by rw [wipe_length, List.length_set]; omega), List.getElem?_eq_none (by rw [wipe_length]; omega)]
  · rw [wipe_out hj, wipe_out hj, List.getElem?_set_ne (fun e => hj (by rw [← e]; exact h))]
theorem _root_.L2.PG.imp {X : Cx} {e : Expr} {t t' : TG} (h : PG X e t) (k : ∀ v σ H Q, t' v σ H Q → t v σ H Q) : PG X e t' := ⟨fun pins s σ H v u Q I r q => h.run pins s σ H v u Q I r (k v σ H Q q)⟩
theorem _root_.L2.PGs.imp {X : Cx} {e : List Expr} {t t' : TGs} (h : PGs X e t) (k : ∀ v σ H Q, t' v σ H Q → t v σ H Q) : PGs X e t' := ⟨fun pins s σ H v u Q I r q => h.run pins s σ H v u Q I r (k v σ H Q q)⟩
def tgName (i : Nat) : Tgt := fun d ρ => some (ρ.set i (some d))
variable {vl : List Nat}
theorem g_name {i : Nat} {x : Str} (h : PG X (.Name x pos) (gName i)) (hv : i ∈ vl) : PG X (.Name x pos) (tG G vl (tgName i)) :=
  h.imp fun v σ H Q ⟨ρ, S, η, T, F, d, ρ', f, g, r, e, k⟩ => by
    cases e
    exact k _ H η T Ext.refl g (f.set i r) (wipe_set hv)
def tgNil : Tgts := fun ds ρ => match ds with
  | [] => some ρ
  | _ => none
def tgCons (t : Tgt) (u : Tgts) : Tgts := fun ds ρ => match ds with
  | d :: r => (t d ρ).bind fun ρ1 => u r ρ1
  | [] => none
variable {es : List Expr}
theorem gs_nil : PGs X [] (tGs G vl tgNil) := pgs_nil.imp fun v σ H Q ⟨ρ, S, η, T, F, d, ρ', f, g, r, e, k⟩ => by
  cases r with
  | nil =>
    cases e
    exact ⟨rfl, k σ H η T Ext.refl g f rfl⟩
  | cons _ _ => cases e
theorem gs_cons {t : Tgt} {u : Tgts} (h1 : PG X e (tG G vl t)) (h2 : PGs X es (tGs G vl u)) (hs : (assignEach (e :: es) X.env).map (·.2) = assign e X.env :: (assignEach es X.env).map (·.2) := by rfl) : PGs X (e :: es) (tGs G vl (tgCons t u)) :=
  (pgs_cons h1 h2 hs).imp fun v σ H Q ⟨ρ, S, η, T, F, d, ρ', f, g, r, e, k⟩ => by
    cases r with
    | nil => cases e
    | @cons d v ds vs r rr =>
      unfold tgCons at e
      simp only at e
      cases q : t d ρ with
      | none => rw [q] at e; cases e
      | some ρ1 =>
        rw [q] at e
        exact ⟨_, _, rfl, ρ, S, η, T, F, d, ρ1, f, g, r, q, fun σ1 H1 η1 T1 e1 g1 f1 w1 => ⟨ρ1, S, η1, T1, F, ds, ρ', f1, g1, rr.mono e1, e, fun σ' H' η' T' e' g' f' w' => k σ' H' η' T' (e1.trans e') g' f' (w'.trans w1)⟩⟩
def tgTup (n : Nat) (t : Tgts) : Tgt := fun d ρ => match d with
  | .tup ds => if ds.length = n then t ds ρ else none
  | _ => none
theorem g_tup {k n : Nat} {t : Tgts} (hc : X.calm = true) (hK : G.K = X.K) (h : PGs X es (tGs G vl t)) (hn : (assignEach es X.env).length = n := by rfl) (hst : (assignEach es X.env).findIdx? (·.1) = none := by rfl) : PG X (.Tuple es k pos) (tG G vl (tgTup n t)) :=
  (pg_tup hc h hn hst).imp fun v σ H Q ⟨ρ, S, η, T, F, d, ρ', f, g, r, e, k⟩ => by
    unfold tgTup at e
    split at e
    · rename_i ds
      split at e
      · rename_i hl
        cases r with
        | @tup a vs ds h r =>
          exact ⟨a, vs, rfl, hK ▸ sqT_mono g.sub h, r.length ▸ hl, ρ, S, η, T, F, ds, ρ', f, g, r, e, k⟩
      · cases e
    · cases e
/-- target = value -/
def sAsg (m : Den) (t : Tgt) : DenS := fun ρ S => (m ρ S).bind fun d S1 => match t d ρ with
  | some ρ1 => .ok (.nx ρ1) S1
  | none => .bad
theorem asg_reading {t : Tgt} (h : tS G W (sAsg m t) E σ H) : tAsg (tE G W m) (tG G vl t) E σ H := by
  obtain ⟨ρ, S, η, T, F, f, g, p⟩ := h
  refine sE_step f g p fun d v S1 H1 η1 T1 _ e1 f1 g1 r1 p1 => ?_
  cases q : t d ρ with
  | none => rw [q] at p1; exact p1.elim
  | some ρ1 =>
    rw [q] at p1
    exact ⟨ρ, S1, η1, T1, F, d, ρ1, f1, g1, r1, q, fun σ' H' η' T' e' g' f' _ => p1 σ' H' η' T' e' g' f'⟩
theorem s_asg {tg : Expr} {t : Tgt} (he : PE X e (tE G W m)) (hg : PG X tg (tG G vl t)) (hs : swapsWithSole [tg] e pos.line X.env = pure false := by rfl) (hw : swappedStores [tg] e X.env = pure none := by rfl)
    (h1 : (assignEach [tg] X.env).map (·.2) = [assign tg X.env] := by rfl) : PS X (.Assign [tg] e pos) (tS G W (sAsg m t)) := (ps_asg he hg hs hw h1).imp fun _ _ _ => asg_reading
theorem s_set {i : Nat} {x : Str} {pos' : Pos} (h : PS X (.Assign [.Name x pos'] e pos) (tAsg (tE G W m) (gName i))) : PS X (.Assign [.Name x pos'] e pos) (tS G W (sAsg m (tgName i))) :=
  h.imp fun E σ H ⟨ρ, S, η, T, F, f, g, p⟩ => sE_step f g p fun d v S1 H1 η1 T1 _ e1 f1 g1 r1 p1 => p1 _ H1 η1 T1 Ext.refl g1 (f1.set i r1)

/-! ## what is walked -/
def Yields (G : Gx) (F : Hp) (J : It) (ds : List D) (η : List Addr) (T : Hp) : Prop := ∀ η1 T1 H1 S1 F1 i, Ext η T η1 T1 → GRel G H1 S1 η1 T1 F1 → (∀ a o, F a = some o → F1 a = some o) →
  (ds.length ≤ i → J.stop i H1) ∧ ∀ d, ds[i]? = some d → J.go i H1 ∧ ∀ x H2, J.yld i H1 x H2 → ∃ η2 T2, Ext η1 T1 η2 T2 ∧ GRel G H2 S1 η2 T2 F1 ∧ Rep G η2 T2 d x
abbrev DenI := Env → Sto → R (List D)
def tI (G : Gx) (W : WX) (m : DenI) : TI := fun σ H Rr => ∃ ρ S η T F, FRel G ρ σ η T ∧ GRel G H S η T F ∧ Post G F W σ (fun η T ds J => Yields G F J ds η T) (m ρ S) η T Rr
theorem _root_.L2.PI.imp {X : Cx} {tg e : Expr} {t t' : TI} (h : PI X tg e t) (k : ∀ σ H Q, t' σ H Q → t σ H Q) : PI X tg e t' := ⟨fun pins s σ H Q I q => h.run pins s σ H Q I (k σ H Q q)⟩
/-- a list or a tuple, as a tree -/
def iSeq (m : Den) : DenI := fun ρ S => (m ρ S).bind fun d S1 => match d with
  | .lst ds => .ok ds S1
  | _ => .bad
def iTupD (m : Den) : DenI := fun ρ S => (m ρ S).bind fun d S1 => match d with
  | .tup ds => .ok ds S1
  | _ => .bad
variable {tg : Expr}
theorem i_lst (hK : G.K = X.K) (h : PE X e (tE G W m)) : PI X tg e (tI G W (iSeq m)) := (pi_list h).imp fun σ H Q ⟨ρ, S, η, T, F, f, g, p⟩ => tE_step f g p fun d v S1 H1 η1 T1 _ e1 f1 g1 r1 p1 => by
  cases r1 with
  | @lst a vs ds h r =>
    have key : ∀ {T' H' : Hp} {S' η' F'}, (∀ a o, T1 a = some o → T' a = some o) → GRel G H' S' η' T' F' → SqL X.K H' a vs := fun e' g' => SqL.of (g'.sub _ _ (e' _ _ h))
    refine ⟨a, rfl, ⟨vs, key (fun _ _ h => h) g1⟩, p1 _ H1 η1 T1 Ext.refl g1 ?_⟩
    intro η2 T2 H2 S2 F2 i e2 g2 _
    refine ⟨fun hl => ⟨vs, key e2.sub g2, by rw [← r.length]; exact hl⟩, fun d hd => ?_⟩
    obtain ⟨x, hx, rx⟩ := r.get hd
    refine ⟨⟨vs, x, key e2.sub g2, hx⟩, fun y H3 hy => ?_⟩
    obtain ⟨rfl, hy⟩ := hy
    have := hy vs (key e2.sub g2)
    rw [hx] at this; cases this
    exact ⟨η2, T2, Ext.refl, g2, rx.mono e2⟩
  | _ => exact p1.elim
theorem i_tup (hK : G.K = X.K) (h : PE X e (tE G W m)) : PI X tg e (tI G W (iTupD m)) := (pi_tup h).imp fun σ H Q ⟨ρ, S, η, T, F, f, g, p⟩ => tE_step f g p fun d v S1 H1 η1 T1 _ e1 f1 g1 r1 p1 => by
  cases r1 with
  | @tup a vs ds h r =>
    have key : ∀ {T' H' : Hp} {S' η' F'}, (∀ a o, T1 a = some o → T' a = some o) → GRel G H' S' η' T' F' → SqT X.K H' a vs := fun e' g' => hK ▸ sqT_mono g'.sub (sqT_mono e' h)
    refine ⟨a, rfl, ⟨vs, key (fun _ _ h => h) g1⟩, p1 _ H1 η1 T1 Ext.refl g1 ?_⟩
    intro η2 T2 H2 S2 F2 i e2 g2 _
    refine ⟨fun hl => ⟨vs, key e2.sub g2, by rw [← r.length]; exact hl⟩, fun d hd => ?_⟩
    obtain ⟨x, hx, rx⟩ := r.get hd
    refine ⟨⟨vs, x, key e2.sub g2, hx⟩, fun y H3 hy => ?_⟩
    obtain ⟨rfl, hy⟩ := hy
    have := hy vs (key e2.sub g2)
    rw [hx] at this; cases this
    exact ⟨η2, T2, Ext.refl, g2, rx.mono e2⟩
  | _ => exact p1.elim
/-- range -/
def rngD (lo : Int) (n : Nat) : List D := (List.range n).map fun (k : Nat) => .int (lo + (k : Int))
def iRange1 (m : DenA) : DenI := fun ρ S => (m ρ S).bind fun ds S1 => match ds with
  | [.int j] => if -(2 ^ 62) ≤ j ∧ j < 2 ^ 62 then .ok (rngD 0 j.toNat) S1 else .bad
  | _ => .bad
def iRange2 (m : DenA) : DenI := fun ρ S => (m ρ S).bind fun ds S1 => match ds with
  | [.int i, .int j] => if -(2 ^ 62) ≤ i ∧ i < 2 ^ 62 ∧ -(2 ^ 62) ≤ j ∧ j < 2 ^ 62 then .ok (rngD i (j - i).toNat) S1 else .bad
  | _ => .bad
theorem yields_range {F : Hp} {lo : Int} {n : Nat} {η : List Addr} {T : Hp} : Yields G F (Itr lo n) (rngD lo n) η T := by
  intro η2 T2 H2 S2 F2 i e2 g2 _
  refine ⟨fun hl => (by simpa [rngD] using hl : n ≤ i), fun d hd => ?_⟩
  have hi : i < n := by simpa [rngD] using (List.getElem?_eq_some_iff.mp hd).1
  refine ⟨hi, fun y H3 hy => ?_⟩
  obtain ⟨rfl, rfl⟩ := hy
  refine ⟨η2, T2, Ext.refl, g2, ?_⟩
  have : d = .int (lo + (i : Int)) := by
    simp [rngD, List.getElem?_map, List.getElem?_range hi] at hd
    exact hd.symm
  subst this
  exact .int
theorem i_range1 {x : Expr} {ta : DenA} (h : PI X tg x (iRng1 (tA G W ta))) : PI X tg x (tI G W (iRange1 ta)) := h.imp fun σ H Q ⟨ρ, S, η, T, F, f, g, p⟩ => tA_step f g p fun d v S1 H1 η1 T1 _ e1 f1 g1 r1 p1 => by
  split at p1
  · cases r1 with
    | cons r rr =>
      cases r; cases rr
      split at p1
      · rename_i h
        exact ⟨_, rfl, h.1, h.2, p1 _ H1 η1 T1 Ext.refl g1 yields_range⟩
      · exact p1.elim
  · exact p1.elim
theorem i_range2 {x : Expr} {ta : DenA} (h : PI X tg x (iRng2 (tA G W ta))) : PI X tg x (tI G W (iRange2 ta)) := h.imp fun σ H Q ⟨ρ, S, η, T, F, f, g, p⟩ => tA_step f g p fun d v S1 H1 η1 T1 _ e1 f1 g1 r1 p1 => by
  split at p1
  · cases r1 with
    | cons r rr =>
      cases rr with
      | cons r' rr =>
      cases r; cases r'; cases rr
      split at p1
      · rename_i h
        exact ⟨_, _, rfl, h, p1 _ H1 η1 T1 Ext.refl g1 yields_range⟩
      · exact p1.elim
  · exact p1.elim

/-! ## for -/
def loopD (t : Tgt) (body : DenS) : List D → DenS
  | [], ρ, S => .ok (.nx ρ) S
  | d :: ds, ρ, S => match t d ρ with
    | none => .bad
    | some ρ1 => (body ρ1 S).bind fun f S1 => match f with
      | .nx ρ2 => loopD t body ds ρ2 S1
      | .ct ρ2 => loopD t body ds ρ2 S1
      | .bk ρ2 => .ok (.nx ρ2) S1
      | .rt d => .ok (.rt d) S1
def sFor (mi : DenI) (t : Tgt) (body : DenS) : DenS := fun ρ S => (mi ρ S).bind fun ds S1 => loopD t body ds ρ S1
theorem s_for {iter : Expr} {body : List Stmt} {mi : DenI} {t : Tgt} {mb : DenS} (hp : PassesOwn (model X.prog X.w) X.A X.env X.xe) (hc : X.calm = true) (hi : PI X tg iter (tI G W mi)) (hg : PG X tg (tG G vl t)) (hb : PSs X body (tS G W mb))
    (hs : ∀ x, foldedSetIterable iter X.env x = pure x := by intro _; rfl) : PS X (.For tg iter body [] pos) (tS G W (sFor mi t mb)) :=
  (ps_for hp hc hi hg hb hs).imp fun E σ H ⟨ρ, S, η, T, F, f, g, p⟩ => by
    refine ⟨ρ, S, η, T, F, f, g, (PostS.bind (Rp := fun η T ds J => Yields G F J ds η T) p).imp fun J H1 ⟨ds, S1, η1, T1, e0, e1, g1, y, p1⟩ => ?_⟩
    refine ⟨fun i m σ' H' => m = ds.length - i ∧ i ≤ ds.length ∧ ∃ ρ' S' η' T', Ext η1 T1 η' T' ∧ FRel G ρ' σ' η' T' ∧ GRel G H' S' η' T' F ∧ PostS G F W (loopD t mb (ds.drop i) ρ' S') η' T' E, ⟨_, rfl, Nat.zero_le _, ρ, S1, η1, T1, Ext.refl, f.mono e1, g1, p1⟩, ?_⟩
    rintro i m σ' H' ⟨rfl, hi, ρ', S', η', T', e', f', g', p'⟩
    have yy := y η' T' H' S' F i e' g' (fun _ _ h => h)
    by_cases hlt : i < ds.length
    · obtain ⟨d, hd⟩ : ∃ d, ds[i]? = some d := ⟨ds[i], by simp [hlt]⟩
      have hdr : ds.drop i = d :: ds.drop (i + 1) := by
        rw [List.drop_eq_getElem_cons hlt]
        congr 1
        have := List.getElem?_eq_getElem hlt
        rw [hd] at this; cases this; rfl
      rw [hdr] at p'
      unfold loopD at p'
      obtain ⟨go, yl⟩ := yy.2 d hd
      cases q : t d ρ' with
      | none => rw [q] at p'; exact p'.elim
      | some ρ1 =>
        rw [q] at p'
        dsimp only at p'
        refine .inr ⟨go, fun σ2 H2 => i + 1 ≤ ds.length ∧ ∃ ρ' S' η' T', Ext η1 T1 η' T' ∧ FRel G ρ' σ2 η' T' ∧ GRel G H2 S' η' T' F ∧ PostS G F W (loopD t mb (ds.drop (i + 1)) ρ' S') η' T' E, fun σ2 H2 hn => ⟨ds.length - (i + 1), by omega, rfl, hn⟩, fun x H2 hy => ?_⟩
        obtain ⟨η2, T2, e2, g2, rx⟩ := yl x H2 hy
        refine ⟨ρ', S', η2, T2, F, d, ρ1, f'.mono e2, g2, rx, q, fun σ3 H3 η3 T3 e3 g3 f3 _ => ?_⟩
        refine ⟨ρ1, S', η3, T3, F, f3, g3, ?_⟩
        have p3 := p'.mono (e2.trans e3)
        have base := (e'.trans e2).trans e3
        revert p3
        cases mb ρ1 S' with
        | bad => exact id
        | exn c fs S4 => exact id
        | ok fl S4 =>
          intro p3
          cases fl with
          | nx ρ4 => exact fun σ5 H5 η5 T5 e5 g5 f5 => ⟨hlt, ρ4, S4, η5, T5, base.trans e5, f5, g5, p3.mono e5⟩
          | ct ρ4 => exact fun σ5 H5 η5 T5 e5 g5 f5 => ⟨hlt, ρ4, S4, η5, T5, base.trans e5, f5, g5, p3.mono e5⟩
          | bk ρ4 => exact p3
          | rt d => exact p3
    · have he : i = ds.length := by omega
      have hdr : ds.drop i = [] := by rw [he]; simp
      rw [hdr] at p'
      exact .inl ⟨yy.1 (by omega), p' σ' H' η' T' Ext.refl g' f'⟩
end
end Tok
namespace Tok
open PySem L2

/-! ## new objects -/
section
variable {G : Gx} {H : Hp} {S : Sto} {η : List Addr} {T F : Hp}
theorem ext_fresh {p : Addr} {o : HO} (h : T p = none) : Ext η T η (upd T p o) := ⟨List.prefix_refl _, fun a u e => by rw [upd_ne (ne_of_none e h)]; exact e⟩
theorem GRel.tnone (g : GRel G H S η T F) {p : Addr} (hp : H p = none) : T p = none := by
  cases e : T p with
  | none => rfl
  | some o => rw [g.sub p o e] at hp; cases hp
theorem GRel.fnone (g : GRel G H S η T F) {p : Addr} (hp : H p = none) : F p = none := by
  cases e : F p with
  | none => rfl
  | some o => rw [g.subF p o e] at hp; cases hp
theorem GRel.nmem (g : GRel G H S η T F) {p : Addr} (hp : H p = none) {l : Nat} {a : Addr} (h : η[l]? = some a) : a ≠ p := fun e => by
  subst e
  exact g.inH a (List.mem_of_getElem? h) hp
theorem RepF.mono {η' : List Addr} {T' : Hp} (e : Ext η T η' T') {fs : List (Str × D)} {fv : List (Str × V)} (h : RepF G η T fs fv) : RepF G η' T' fs fv := ⟨h.1, h.2.mono e⟩
theorem RepO.mono {η' : List Addr} {T' H' : Hp} {a : Addr} (e : Ext η T η' T') (h : H' a = H a) {o : SO} (r : RepO G η T H a o) : RepO G η' T' H' a o := by
  cases o with
  | lst ds => obtain ⟨vs, q, r⟩ := r; exact ⟨vs, h.trans q, r.mono e⟩
  | ins c fs => obtain ⟨dx, fv, q, r⟩ := r; exact ⟨dx, fv, h.trans q, r.mono e⟩
  | dead => trivial
/-- a new object of the trees -/
theorem GRel.fresh (g : GRel G H S η T F) {p : Addr} (hp : H p = none) (o : HO) : GRel G (upd H p o) S η (upd T p o) F where
  sub := fun a u e => by
    by_cases h : a = p
    · subst h; rw [upd_same] at e ⊢; exact e
    · rw [upd_ne h] at e ⊢; exact g.sub a u e
  subF := fun a u e => by rw [upd_ne (ne_of_none (g.subF a u e) hp)]; exact g.subF a u e
  dis := fun a u e => by rw [upd_ne (ne_of_none (g.subF a u e) hp)]; exact g.dis a u e
  len := g.len
  nd := g.nd
  inH := fun a ha => by
    by_cases h : a = p
    · subst h; rw [upd_same]; simp
    · rw [upd_ne h]; exact g.inH a ha
  off := fun l u a h1 h2 hl => by rw [upd_ne (g.nmem hp h2)]; exact g.off l u a h1 h2 hl
  fη := g.fη
  obj := fun l u a h1 h2 => (g.obj l u a h1 h2).mono (ext_fresh (g.tnone hp)) (upd_ne (g.nmem hp h2))
/-- a new object beside all that is told -/
theorem GRel.beside (g : GRel G H S η T F) {p : Addr} (hp : H p = none) (o : HO) : GRel G (upd H p o) S η T F where
  sub := fun a u e => by rw [upd_ne (ne_of_none (g.sub a u e) hp)]; exact g.sub a u e
  subF := fun a u e => by rw [upd_ne (ne_of_none (g.subF a u e) hp)]; exact g.subF a u e
  dis := g.dis
  len := g.len
  nd := g.nd
  inH := fun a ha => by
    by_cases h : a = p
    · subst h; rw [upd_same]; simp
    · rw [upd_ne h]; exact g.inH a ha
  off := g.off
  fη := g.fη
  obj := fun l u a h1 h2 => (g.obj l u a h1 h2).mono Ext.refl (upd_ne (g.nmem hp h2))
theorem nodup_snoc {α : Type} {l : List α} {x : α} (h : l.Nodup) (hx : x ∉ l) : (l ++ [x]).Nodup := List.nodup_append.mpr ⟨h, by simp, fun a ha b hb e => by simp at hb; subst hb; subst e; exact hx ha⟩
theorem ext_loc {p : Addr} : Ext η T (η ++ [p]) T := ⟨List.prefix_append _ _, fun _ _ h => h⟩
/-- a new object of the store -/
theorem GRel.newLoc (g : GRel G H S η T F) {p : Addr} (hp : H p = none) {o : HO} {so : SO} (r : RepO G (η ++ [p]) T (upd H p o) p so) : GRel G (upd H p o) (S ++ [so]) (η ++ [p]) T F := by
  have hm : p ∉ η := fun h => g.inH p h hp
  refine ⟨fun a u e => ?_, fun a u e => ?_, g.dis, by simp [g.len], nodup_snoc g.nd hm, fun a ha => ?_, fun l u a h1 h2 hl => ?_, fun a ha => ?_, fun l u a h1 h2 => ?_⟩
  · rw [upd_ne (ne_of_none (g.sub a u e) hp)]; exact g.sub a u e
  · rw [upd_ne (ne_of_none (g.subF a u e) hp)]; exact g.subF a u e
  · by_cases h : a = p
    · subst h; rw [upd_same]; simp
    · rw [upd_ne h]
      rcases List.mem_append.mp ha with ha | ha
      · exact g.inH a ha
      · simp at ha; exact absurd ha h
  · by_cases hl' : l < S.length
    · rw [List.getElem?_append_left hl'] at h1
      rw [List.getElem?_append_left (by rw [g.len]; exact hl')] at h2
      exact g.off l u a h1 h2 hl
    · have : l = η.length := by
        have := (List.getElem?_eq_some_iff.mp h1).1
        simp at this
        rw [g.len]; omega
      subst this
      rw [List.getElem?_append_right (Nat.le_refl _)] at h2
      simp at h2
      subst h2
      exact g.tnone hp
  · rcases List.mem_append.mp ha with ha | ha
    · exact g.fη a ha
    · simp at ha; subst ha; exact g.fnone hp
  · by_cases hl' : l < S.length
    · rw [List.getElem?_append_left hl'] at h1
      rw [List.getElem?_append_left (by rw [g.len]; exact hl')] at h2
      exact (g.obj l u a h1 h2).mono ext_loc (upd_ne (g.nmem hp h2))
    · have : l = η.length := by
        have := (List.getElem?_eq_some_iff.mp h1).1
        simp at this
        rw [g.len]; omega
      subst this
      rw [List.getElem?_append_right (Nat.le_refl _)] at h2
      rw [g.len, List.getElem?_append_right (Nat.le_refl _)] at h1
      simp at h1 h2
      subst h1 h2
      exact r
theorem loc_at (g : GRel G H S η T F) {l : Nat} {o : SO} (h : S[l]? = some o) : ∃ a, η[l]? = some a := by
  have : l < η.length := by rw [g.len]; exact (List.getElem?_eq_some_iff.mp h).1
  exact ⟨η[l], by simp [this]⟩
theorem nd_at {l m : Nat} {a : Addr} (nd : η.Nodup) (h1 : η[l]? = some a) (h2 : η[m]? = some a) : l = m := by
  obtain ⟨k1, e1⟩ := List.getElem?_eq_some_iff.mp h1
  obtain ⟨k2, e2⟩ := List.getElem?_eq_some_iff.mp h2
  exact (List.getElem_inj nd).mp (e1.trans e2.symm)
/-- an object of the store is written -/
theorem GRel.write (g : GRel G H S η T F) {l : Nat} {a : Addr} {so so' : SO} {o : HO} (hS : S[l]? = some so) (hl : so.live) (ha : η[l]? = some a) (r : RepO G η T (upd H a o) a so') : GRel G (upd H a o) (S.set l so') η T F := by
  have hof := g.off l so a hS ha hl
  have hlt := (List.getElem?_eq_some_iff.mp hS).1
  refine ⟨fun b u e => ?_, fun b u e => ?_, g.dis, by simp [g.len], g.nd, fun b hb => ?_, fun m u b h1 h2 hu => ?_, g.fη, fun m u b h1 h2 => ?_⟩
  · rw [upd_ne (ne_of_none e hof)]; exact g.sub b u e
  · rw [upd_ne (ne_of_none e (g.fη a (List.mem_of_getElem? ha)))]; exact g.subF b u e
  · by_cases h : b = a
    · subst h; rw [upd_same]; simp
    · rw [upd_ne h]; exact g.inH b hb
  · by_cases hm : m = l
    · subst hm; rw [ha] at h2; cases h2; exact hof
    · rw [List.getElem?_set_ne (Ne.symm hm)] at h1
      exact g.off m u b h1 h2 hu
  · by_cases hm : m = l
    · subst hm
      rw [ha] at h2; cases h2
      rw [List.getElem?_set_self hlt] at h1
      cases h1
      exact r
    · rw [List.getElem?_set_ne (Ne.symm hm)] at h1
      exact (g.obj m u b h1 h2).mono Ext.refl (upd_ne fun e => hm (nd_at g.nd (by rw [e] at h2; exact h2) ha))
/-- an object of the store becomes a tree -/
theorem GRel.freeze (g : GRel G H S η T F) {l : Nat} {a : Addr} {so : SO} {o : HO} (hS : S[l]? = some so) (hl : so.live) (ha : η[l]? = some a) (hH : H a = some o) : GRel G H (S.set l .dead) η (upd T a o) F ∧ Ext η T η (upd T a o) := by
  have hof := g.off l so a hS ha hl
  have ex : Ext η T η (upd T a o) := ext_fresh hof
  have hlt := (List.getElem?_eq_some_iff.mp hS).1
  refine ⟨⟨fun b u e => ?_, g.subF, fun b u e => ?_, by simp [g.len], g.nd, g.inH, fun m u b h1 h2 hu => ?_, g.fη, fun m u b h1 h2 => ?_⟩, ex⟩
  · by_cases h : b = a
    · subst h; rw [upd_same] at e; cases e; exact hH
    · rw [upd_ne h] at e; exact g.sub b u e
  · rw [upd_ne (ne_of_none e (g.fη a (List.mem_of_getElem? ha)))]; exact g.dis b u e
  · by_cases hm : m = l
    · subst hm; rw [List.getElem?_set_self hlt] at h1; cases h1; exact hu.elim
    · rw [List.getElem?_set_ne (Ne.symm hm)] at h1
      rw [upd_ne fun e => hm (nd_at g.nd (by rw [e] at h2; exact h2) ha)]
      exact g.off m u b h1 h2 hu
  · by_cases hm : m = l
    · subst hm; rw [List.getElem?_set_self hlt] at h1; cases h1; trivial
    · rw [List.getElem?_set_ne (Ne.symm hm)] at h1
      exact (g.obj m u b h1 h2).mono ex rfl
/-- the frame may be widened by an object beside -/
theorem GRel.frame (g : GRel G H S η T F) {p : Addr} {o : HO} (hH : H p = some o) (hT : T p = none) (hη : p ∉ η) : GRel G H S η T (upd F p o) where
  sub := g.sub
  subF := fun a u e => by
    by_cases h : a = p
    · subst h; rw [upd_same] at e; cases e; exact hH
    · rw [upd_ne h] at e; exact g.subF a u e
  dis := fun a u e => by
    by_cases h : a = p
    · subst h; exact hT
    · rw [upd_ne h] at e; exact g.dis a u e
  len := g.len
  nd := g.nd
  inH := g.inH
  off := g.off
  fη := fun a ha => by
    have : a ≠ p := fun e => hη (by rw [← e]; exact ha)
    rw [upd_ne this]
    exact g.fη a ha
  obj := g.obj
theorem GRel.unframe {F' : Hp} (g : GRel G H S η T F) (h : ∀ a o, F' a = some o → F a = some o) : GRel G H S η T F' where
  sub := g.sub
  subF := fun a u e => g.subF a u (h a u e)
  dis := fun a u e => g.dis a u (h a u e)
  len := g.len
  nd := g.nd
  inH := g.inH
  off := g.off
  fη := fun a ha => by
    cases e : F' a with
    | none => rfl
    | some v =>
      have q := h a v e
      rw [g.fη a ha] at q
      cases q
  obj := g.obj
theorem rep_tup {p : Addr} {vs : List V} {ds : List D} (h : T p = some (.tup vs)) (r : Reps G η T ds vs) : Rep G η T (.tup ds) (.ref p) := .tup (SqT.of h) r
theorem rep_lst {p : Addr} {vs : List V} {ds : List D} (h : T p = some (.lst vs)) (r : Reps G η T ds vs) : Rep G η T (.lst ds) (.ref p) := .lst h r
/-- the value of a primitive is a new tuple, a new list -/
theorem PostP.tup {o : Option D} {ds : List D} {vs : List V} {Q : VK} (h : PostP G F S o η T Q) (e : o = some (.tup ds)) (g : GRel G H S η T F) (r : Reps G η T ds vs) {p : Addr} (hp : H p = none) : Q (.ref p) (upd H p (.tup vs)) := by
  obtain ⟨d, e', k⟩ := h
  rw [e] at e'; cases e'
  have ex : Ext η T η (upd T p (.tup vs)) := ext_fresh (g.tnone hp)
  exact k _ _ η _ ex (g.fresh hp _) (rep_tup upd_same (r.mono ex))
theorem PostP.lst {o : Option D} {ds : List D} {vs : List V} {Q : VK} (h : PostP G F S o η T Q) (e : o = some (.lst ds)) (g : GRel G H S η T F) (r : Reps G η T ds vs) {p : Addr} (hp : H p = none) : Q (.ref p) (upd H p (.lst vs)) := by
  obtain ⟨d, e', k⟩ := h
  rw [e] at e'; cases e'
  have ex : Ext η T η (upd T p (.lst vs)) := ext_fresh (g.tnone hp)
  exact k _ _ η _ ex (g.fresh hp _) (rep_lst upd_same (r.mono ex))
theorem Post.tup {W : WX} {σ : St} {ds : List D} {vs : List V} {Q : VK} (h : Post G F W σ (Rep G) (.ok (.tup ds) S) η T Q) (g : GRel G H S η T F) (r : Reps G η T ds vs) {p : Addr} (hp : H p = none) : Q (.ref p) (upd H p (.tup vs)) := by
  have ex : Ext η T η (upd T p (.tup vs)) := ext_fresh (g.tnone hp)
  exact h _ _ η _ ex (g.fresh hp _) (rep_tup upd_same (r.mono ex))
theorem Post.lst {W : WX} {σ : St} {ds : List D} {vs : List V} {Q : VK} (h : Post G F W σ (Rep G) (.ok (.lst ds) S) η T Q) (g : GRel G H S η T F) (r : Reps G η T ds vs) {p : Addr} (hp : H p = none) : Q (.ref p) (upd H p (.lst vs)) := by
  have ex : Ext η T η (upd T p (.lst vs)) := ext_fresh (g.tnone hp)
  exact h _ _ η _ ex (g.fresh hp _) (rep_lst upd_same (r.mono ex))
/-- .. a new list of the store -/
theorem Post.lstS {W : WX} {σ : St} {ds : List D} {vs : List V} {Q : VK} (h : Post G F W σ (Rep G) (.ok (.ref S.length) (S ++ [.lst ds])) η T Q) (g : GRel G H S η T F) (r : Reps G η T ds vs) {p : Addr} (hp : H p = none) : Q (.ref p) (upd H p (.lst vs)) := by
  refine h _ _ (η ++ [p]) T ext_loc (g.newLoc hp ⟨vs, upd_same, r.mono ext_loc⟩) (.ref ?_)
  rw [← g.len]
  simp
end

/-! ## displays -/
section
variable {X : Cx} {G : Gx} {W : WX} {a b c e : Expr} {ma mb mc m : Den} {pos : Pos} {σ : St} {H : Hp} {es : List Expr} {na : DenA}
theorem sqT_up (hK : G.K = X.K) {S : Sto} {η : List Addr} {T F : Hp} (g : GRel G H S η T F) {a : Addr} {vs : List V} (h : SqT G.K T a vs) : SqT X.K H a vs := hK ▸ sqT_mono g.sub h
theorem sqL_up (hK : G.K = X.K) {S : Sto} {η : List Addr} {T F : Hp} (g : GRel G H S η T F) {a : Addr} {vs : List V} (h : SqL G.K T a vs) : SqL X.K H a vs := hK ▸ sqL_mono g.sub h
/-- *e in a display -/
def aStar (m : Den) (n : DenA) : DenA := fun ρ S => (m ρ S).bind fun x S1 => match x with
  | .tup xs => (n ρ S1).bind fun ys S2 => .ok (xs ++ ys) S2
  | .lst xs => (n ρ S1).bind fun ys S2 => .ok (xs ++ ys) S2
  | _ => .bad
theorem a_star (hK : G.K = X.K) {p : Pos} (h : PE X e (tE G W m)) (hr : PA X es (tA G W na)) (hs : starEach (.Starred e p :: es) X.env = (true, eval e X.env) :: starEach es X.env := by rfl) : PA X (.Starred e p :: es) (tA G W (aStar m na)) :=
  (StX.pa_star h hr hs).imp fun σ H Q ⟨ρ, S, η, T, F, fr, g, p⟩ => tE_step fr g p fun d v S1 H1 η1 T1 _ e1 f1 g1 r1 p1 => by
    cases r1 with
    | @tup a vs ds h r => exact ⟨a, vs, rfl, .inl (sqT_up hK g1 h), tA_step f1 g1 p1 fun d2 v2 S2 H2 η2 T2 _ e2 f2 g2 r2 p2 => p2.ok g2 ((r.mono e2).append r2)⟩
    | @lst a vs ds h r => exact ⟨a, vs, rfl, .inr (SqL.of (g1.sub _ _ h)), tA_step f1 g1 p1 fun d2 v2 S2 H2 η2 T2 _ e2 f2 g2 r2 p2 => p2.ok g2 ((r.mono e2).append r2)⟩
    | _ => exact p1.elim
def sized (xs : List D) (r : R D) : R D := if xs.length ≤ sizeLine then r else .bad
def dTup (n : DenA) : Den := fun ρ S => (n ρ S).bind fun xs S1 => sized xs (.ok (.tup xs) S1)
def dLst (n : DenA) : Den := fun ρ S => (n ρ S).bind fun xs S1 => sized xs (.ok (.lst xs) S1)
/-- a list that will be changed -/
def dLstS (n : DenA) : Den := fun ρ S => (n ρ S).bind fun xs S1 => sized xs (.ok (.ref S1.length) (S1 ++ [.lst xs]))
theorem d_tup {k : Nat} (h : PA X es (tA G W na)) : PE X (.Tuple es k pos) (tE G W (dTup na)) := (pe_tup h).imp fun σ H Q ⟨ρ, S, η, T, F, fr, g, p⟩ => tA_step fr g p fun d v S1 H1 η1 T1 _ e1 f1 g1 r1 p1 => by
  unfold sized at p1
  split at p1
  · rename_i hl
    exact ⟨r1.length ▸ hl, fun p hp => p1.tup g1 r1 hp⟩
  · exact p1.elim
theorem d_lst (h : PA X es (tA G W na)) : PE X (.List es pos) (tE G W (dLst na)) := (pe_lst h).imp fun σ H Q ⟨ρ, S, η, T, F, fr, g, p⟩ => tA_step fr g p fun d v S1 H1 η1 T1 _ e1 f1 g1 r1 p1 => by
  unfold sized at p1
  split at p1
  · rename_i hl
    exact ⟨r1.length ▸ hl, fun p hp => p1.lst g1 r1 hp⟩
  · exact p1.elim
theorem d_lstS (h : PA X es (tA G W na)) : PE X (.List es pos) (tE G W (dLstS na)) := (pe_lst h).imp fun σ H Q ⟨ρ, S, η, T, F, fr, g, p⟩ => tA_step fr g p fun d v S1 H1 η1 T1 _ e1 f1 g1 r1 p1 => by
  unfold sized at p1
  split at p1
  · rename_i hl
    exact ⟨r1.length ▸ hl, fun p hp => p1.lstS g1 r1 hp⟩
  · exact p1.elim
/-- a list of the store as a tree, from here on -/
def dFrz (m : Den) : Den := fun ρ S => (m ρ S).bind fun d S1 => match d with
  | .ref l => match S1[l]? with
    | some (.lst ds) => .ok (.lst ds) (S1.set l .dead)
    | _ => .bad
  | _ => .bad
theorem d_frz (h : PE X e (tE G W m)) : PE X e (tE G W (dFrz m)) := h.imp fun σ H Q ⟨ρ, S, η, T, F, fr, g, p⟩ => tE_step fr g p fun d v S1 H1 η1 T1 _ e1 f1 g1 r1 p1 => by
  cases r1 with
  | @ref l a h =>
    dsimp only at p1
    split at p1
    · rename_i ds hS
      obtain ⟨vs, hH, r⟩ := g1.obj l _ a hS h
      obtain ⟨g2, ex⟩ := g1.freeze hS trivial h hH
      exact p1 _ H1 η1 _ ex g2 (rep_lst upd_same (r.mono ex))
    · exact p1.elim
  | _ => exact p1.elim
end
end Tok
namespace Tok
open PySem L2

/-! ## comprehensions -/
def R.bindN {α β : Type} (r : R α) (k : α → Sto → R β) : R β := match r with
  | .ok a S => k a S
  | _ => .bad
@[simp] theorem R.bindN_ok {α β : Type} {a : α} {S : Sto} {k : α → Sto → R β} : (R.ok a S).bindN k = k a S := rfl
theorem Post.bindN {α β γ δ : Type} {G : Gx} {W W' : WX} {σ σ' : St} {Rp : List Addr → Hp → α → β → Prop} {Rq : List Addr → Hp → γ → δ → Prop} {r : R α} {η : List Addr} {T F F' : Hp} {k : α → Sto → R γ} {Q : δ → Hp → Prop}
    (h : Post G F W σ Rq (r.bindN k) η T Q) :
    Post G F' W' σ' Rp r η T (fun v H1 => ∃ d S1 η1 T1, Ext η T η1 T1 ∧ GRel G H1 S1 η1 T1 F' ∧ Rp η1 T1 d v ∧ Post G F W σ Rq (k d S1) η1 T1 Q) := by
  cases r with
  | ok d S => exact fun v H' η' T' e g rp => ⟨d, S, η', T', e, g, rp, Post.mono e h⟩
  | exn c fs S => exact h.elim
  | bad => exact h.elim
def wipeD (ρ : Env) : List Nat → Env
  | [] => ρ
  | v :: vs => (wipeD ρ vs).set v none
theorem wipeD_length (ρ : Env) : ∀ vs : List Nat, (wipeD ρ vs).length = ρ.length
  | [] => rfl
  | v :: vs => by unfold wipeD; rw [List.length_set, wipeD_length ρ vs]
theorem wipeD_some {ρ : Env} {i : Nat} {d : D} : ∀ {vs : List Nat}, (wipeD ρ vs)[i]? = some (some d) → ρ[i]? = some (some d) ∧ i ∉ vs
  | [], h => ⟨h, by simp⟩
  | v :: vs, h => by
    unfold wipeD at h
    by_cases hi : v = i
    · subst hi
      rw [List.getElem?_set] at h
      split at h
      · split at h <;> simp at h
      · rename_i q; exact absurd rfl q
    · rw [List.getElem?_set_ne hi] at h
      obtain ⟨h1, h2⟩ := wipeD_some h
      exact ⟨h1, fun m => (List.mem_cons.mp m).elim (fun e => hi e.symm) h2⟩
theorem FRel.wipe {G : Gx} {ρ : Env} {σ : St} {η : List Addr} {T : Hp} (f : FRel G ρ σ η T) (vs : List Nat) : FRel G (wipeD ρ vs) (wipe σ vs) η T :=
  ⟨by rw [wipeD_length, wipe_length, f.len], fun i d h => by
    obtain ⟨h1, h2⟩ := wipeD_some h
    obtain ⟨v, a, b⟩ := f.get i d h1
    exact ⟨v, by rw [wipe_out h2]; exact a, b⟩⟩
def lcD (t : Tgt) (tt : DenT) (te : Den) : List D → Env → Sto → R (List D)
  | [], _, S => .ok [] S
  | d :: ds, ρ, S => match t d ρ with
    | none => .bad
    | some ρ1 => (tt ρ1 S).bindN fun b S1 => if b then (te ρ1 S1).bindN fun y S2 => (lcD t tt te ds ρ S2).bind fun ys S3 => .ok (y :: ys) S3 else lcD t tt te ds ρ S1
def tYesD : DenT := fun _ S => .ok true S
abbrev W0 : WX := fun _ _ _ _ => False
theorem R.bind_assoc {α β γ : Type} (r : R α) (k : α → Sto → R β) (l : β → Sto → R γ) : (r.bind k).bind l = r.bind fun a S => (k a S).bind l := by cases r <;> rfl
theorem R.bindN_bind {α β γ : Type} (r : R α) (k : α → Sto → R β) (l : β → Sto → R γ) : (r.bindN k).bind l = r.bindN fun a S => (k a S).bind l := by cases r <;> rfl

section
variable {X : Cx} {G : Gx} {W : WX} {pos : Pos} {σ : St} {H : Hp} {t : Tgt} {tt : DenT} {te : Den} {vs : List Nat}
/-- the loop of a comprehension; the end Qd takes the new list at Dl -/
theorem lc_reading {J : It} {ds : List D} {ρ : Env} {S : Sto} {η : List Addr} {T F : Hp} {H1 : Hp} {Dl : Addr} {Qd : VK} {fin : List D → Sto → R D} (f : FRel G ρ σ η T) (g : GRel G H1 S η T F) (y : Yields G F J ds η T) (hz : ds.length ≤ sizeLine)
    (hD : H1 Dl = none) (p : Post G F W σ (Rep G) ((lcD t tt te ds (wipeD ρ vs) S).bind fin) η T Qd)
    (hfin : ∀ ys us S' H' η' T', Ext η T η' T' → GRel G H' S' η' T' F → H' Dl = some (.lst us) → T' Dl = none → Dl ∉ η' → Reps G η' T' ys us → ys.length ≤ sizeLine → Post G F W σ (Rep G) (fin ys S') η' T' Qd → Qd (.ref Dl) H') :
    ∃ Wd : Nat → Nat → Hp → Prop, (∃ m, Wd 0 m (upd H1 Dl (.lst []))) ∧ ∀ i m H, Wd i m H → (J.stop i H ∧ Qd (.ref Dl) H) ∨ (J.go i H ∧ ∃ Nx : Hp → Prop, (∀ H', Nx H' → ∃ m', m' < m ∧ Wd (i + 1) m' H') ∧
      ∀ x H', J.yld i H x H' → tG G vs t x (wipe σ vs) H' fun σ2 H2 => wipe σ2 vs = wipe σ vs ∧ tT G W0 tt σ2 H2 fun b H3 =>
        if b = true then tE G W0 te σ2 H3 fun y H4 => ∃ acc, H4 Dl = some (.lst acc) ∧ acc.length < sizeLine ∧ Nx (upd H4 Dl (.lst (acc ++ [y]))) else Nx H3) := by
  -- the word: what is made so far, beside all that is told
  let Wd : Nat → Nat → Hp → Prop := fun i m H => m = ds.length - i ∧ i ≤ ds.length ∧ ∃ S' η' T' ys us, Ext η T η' T' ∧ GRel G H S' η' T' F ∧ H Dl = some (.lst us) ∧ T' Dl = none ∧ F Dl = none ∧ Dl ∉ η' ∧ Reps G η' T' ys us ∧ ys.length ≤ i ∧
    Post G F W σ (Rep G) ((lcD t tt te (ds.drop i) (wipeD ρ vs) S').bind fun zs S3 => fin (ys ++ zs) S3) η' T' Qd
  have hDF := g.fnone hD
  have hDT := g.tnone hD
  have hDη : Dl ∉ η := fun h => g.inH _ h hD
  refine ⟨Wd, ⟨ds.length, rfl, Nat.zero_le _, S, η, T, [], [], Ext.refl, g.beside hD _, upd_same, hDT, hDF, hDη, .nil, Nat.zero_le _, p⟩, ?_⟩
  rintro i m H2 ⟨rfl, hi, S', η', T', ys, us, e', g', hH, hT, hF, hη, r, hl, p'⟩
  by_cases hlt : i < ds.length
  · obtain ⟨d, hd⟩ : ∃ d, ds[i]? = some d := ⟨ds[i], by simp [hlt]⟩
    have hdr : ds.drop i = d :: ds.drop (i + 1) := by
      rw [List.drop_eq_getElem_cons hlt]
      congr 1
      have := List.getElem?_eq_getElem hlt
      rw [hd] at this; cases this; rfl
    -- the new list is framed
    have gF : GRel G H2 S' η' T' (upd F Dl (.lst us)) := g'.frame hH hT hη
    have subF : ∀ a o, F a = some o → upd F Dl (.lst us) a = some o := fun a o h => by rw [upd_ne (ne_of_none h hF)]; exact h
    obtain ⟨go, yl⟩ := (y η' T' H2 S' _ i e' gF subF).2 d hd
    rw [hdr] at p'
    unfold lcD at p'
    refine .inr ⟨go, fun H3 => Wd (i + 1) (ds.length - (i + 1)) H3, fun H3 h3 => ⟨_, by omega, h3⟩, fun x H3 hy => ?_⟩
    obtain ⟨η3, T3, e3, g3, rx⟩ := yl x H3 hy
    cases q : t d (wipeD ρ vs) with
    | none => rw [q] at p'; exact p'.elim
    | some ρ1 =>
      rw [q] at p'
      dsimp only at p'
      rw [R.bindN_bind] at p'
      refine ⟨wipeD ρ vs, S', η3, T3, _, d, ρ1, (f.mono (e'.trans e3)).wipe vs, g3, rx, q, fun σ4 H4 η4 T4 e4 g4 f4 hw => ⟨?_, ?_⟩⟩
      · rw [hw]
        -- wipe of wipe
        apply List.ext_getElem?
        intro j
        by_cases hj : j ∈ vs
        · by_cases hl : j < σ.length
          · rw [wipe_in hj (by rw [wipe_length]; exact hl), wipe_in hj hl]
          · rw [List.getElem?_eq_none (by rw [wipe_length, wipe_length]; omega), List.getElem?_eq_none (by rw [wipe_length]; omega)]
        · rw [wipe_out hj]
      · refine ⟨ρ1, S', η4, T4, _, f4, g4, (Post.bindN (Rp := RpB) (p'.mono (e3.trans e4))).imp ?_⟩
        rintro b H5 ⟨b', S5, η5, T5, e5, g5, hb, p5⟩
        have hb : b' = b := hb
        subst hb
        have b5 := ((e'.trans e3).trans e4).trans e5
        have f5 := f4.mono e5
        -- the list at Dl behind a state with the frame
        have at_ : ∀ {H6 S6 η6 T6}, GRel G H6 S6 η6 T6 (upd F Dl (.lst us)) → H6 Dl = some (.lst us) ∧ T6 Dl = none ∧ Dl ∉ η6 := fun g6 => ⟨g6.subF _ _ upd_same, g6.dis _ _ upd_same, fun hm => by
          have z := g6.fη _ hm
          rw [upd_same] at z; cases z⟩
        cases b' with
        | false =>
          rw [if_neg (by decide)] at p5 ⊢
          obtain ⟨a1, a2, a3⟩ := at_ g5
          exact ⟨rfl, hlt, S5, η5, T5, ys, us, b5, g5.unframe subF, a1, a2, hF, a3, r.mono (((e3.trans e4).trans e5)), by omega, p5⟩
        | true =>
          rw [if_pos rfl] at p5 ⊢
          rw [R.bindN_bind] at p5
          refine ⟨ρ1, S5, η5, T5, _, f5, g5, (Post.bindN p5).imp ?_⟩
          rintro v H6 ⟨dv, S6, η6, T6, e6, g6, rv, p6⟩
          obtain ⟨a1, a2, a3⟩ := at_ g6
          have b6 := b5.trans e6
          have r6 : Reps G η6 T6 ys us := r.mono (((e3.trans e4).trans e5).trans e6)
          refine ⟨us, a1, by have := r6.length; omega, rfl, hlt, S6, η6, T6, ys ++ [dv], us ++ [v], b6, ?_, upd_same, a2, hF, a3, r6.append (Reps.one rv), by simp; omega, ?_⟩
          · have gu := g6.unframe subF
            refine ⟨fun a u e => ?_, fun a u e => ?_, gu.dis, gu.len, gu.nd, fun a ha => ?_, gu.off, gu.fη, fun l u a h1 h2 => ?_⟩
            · rw [upd_ne (ne_of_none e a2)]; exact gu.sub a u e
            · rw [upd_ne (ne_of_none e hF)]; exact gu.subF a u e
            · by_cases h : a = Dl
              · subst h; exact absurd ha a3
              · rw [upd_ne h]; exact gu.inH a ha
            · exact (gu.obj l u a h1 h2).mono Ext.refl (upd_ne fun e => a3 (by rw [← e]; exact List.mem_of_getElem? h2))
          · rw [R.bind_assoc] at p6
            have e7 : (fun (zs : List D) S3 => fin ((ys ++ [dv]) ++ zs) S3) = fun zs S3 => fin (ys ++ dv :: zs) S3 := by
              funext zs S3; simp
            rw [e7]
            exact p6
  · have he : i = ds.length := by omega
    have hdr : ds.drop i = [] := by rw [he]; simp
    rw [hdr] at p'
    refine .inl ⟨(y η' T' H2 S' F i e' g' (fun _ _ h => h)).1 (by omega), ?_⟩
    have p2 : Post G F W σ (Rep G) (fin (ys ++ []) S') η' T' Qd := p'
    rw [List.append_nil] at p2
    exact hfin ys us S' H2 η' T' e' g' hH hT hη r (by omega) p2

/-- an object beside becomes a tree, or one of the store -/
theorem _root_.Tok.GRel.adopt {S : Sto} {η : List Addr} {T F : Hp} {p : Addr} {o : HO} (g : GRel G H S η T F) (hH : H p = some o) (hT : T p = none) (hF : F p = none) (hη : p ∉ η) : GRel G H S η (upd T p o) F := by
  refine ⟨fun b u e => ?_, g.subF, fun b u e => ?_, g.len, g.nd, g.inH, fun m u b h1 h2 hu => ?_, g.fη, fun m u b h1 h2 => ?_⟩
  · by_cases h : b = p
    · subst h; rw [upd_same] at e; cases e; exact hH
    · rw [upd_ne h] at e; exact g.sub b u e
  · rw [upd_ne (ne_of_none e hF)]; exact g.dis b u e
  · rw [upd_ne fun e => hη (by rw [← e]; exact List.mem_of_getElem? h2)]
    exact g.off m u b h1 h2 hu
  · exact (g.obj m u b h1 h2).mono (ext_fresh hT) rfl
theorem _root_.Tok.GRel.adoptS {S : Sto} {η : List Addr} {T F : Hp} {p : Addr} {so : SO} (g : GRel G H S η T F) (hH : H p ≠ none) (hT : T p = none) (hF : F p = none) (hη : p ∉ η) (r : RepO G (η ++ [p]) T H p so) : GRel G H (S ++ [so]) (η ++ [p]) T F := by
  refine ⟨g.sub, g.subF, g.dis, by simp [g.len], nodup_snoc g.nd hη, fun a ha => ?_, fun l u a h1 h2 hl => ?_, fun a ha => ?_, fun l u a h1 h2 => ?_⟩
  · rcases List.mem_append.mp ha with ha | ha
    · exact g.inH a ha
    · simp at ha; subst ha; exact hH
  · by_cases hl' : l < S.length
    · rw [List.getElem?_append_left hl'] at h1
      rw [List.getElem?_append_left (by rw [g.len]; exact hl')] at h2
      exact g.off l u a h1 h2 hl
    · have : l = η.length := by
        have := (List.getElem?_eq_some_iff.mp h1).1
        simp at this
        rw [g.len]; omega
      subst this
      rw [List.getElem?_append_right (Nat.le_refl _)] at h2
      simp at h2
      subst h2
      exact hT
  · rcases List.mem_append.mp ha with ha | ha
    · exact g.fη a ha
    · simp at ha; subst ha; exact hF
  · by_cases hl' : l < S.length
    · rw [List.getElem?_append_left hl'] at h1
      rw [List.getElem?_append_left (by rw [g.len]; exact hl')] at h2
      exact (g.obj l u a h1 h2).mono ext_loc rfl
    · have : l = η.length := by
        have := (List.getElem?_eq_some_iff.mp h1).1
        simp at this
        rw [g.len]; omega
      subst this
      rw [List.getElem?_append_right (Nat.le_refl _)] at h2
      rw [g.len, List.getElem?_append_right (Nat.le_refl _)] at h1
      simp at h1 h2
      subst h1 h2
      exact r
def dLc (mi : DenI) (t : Tgt) (tt : DenT) (te : Den) (vs : List Nat) : Den := fun ρ S => (mi ρ S).bind fun ds S1 => if ds.length ≤ sizeLine then (lcD t tt te ds (wipeD ρ vs) S1).bind fun ys S2 => .ok (.lst ys) S2 else .bad
def dLcS (mi : DenI) (t : Tgt) (tt : DenT) (te : Den) (vs : List Nat) : Den := fun ρ S => (mi ρ S).bind fun ds S1 => if ds.length ≤ sizeLine then (lcD t tt te ds (wipeD ρ vs) S1).bind fun ys S2 => .ok (.ref S2.length) (S2 ++ [.lst ys]) else .bad
theorem lc_tE {mi : DenI} {Q : VK} (h : tE G W (dLc mi t tt te vs) σ H Q) : tLc (tI G W mi) (tG G vs t) (tT G W0 tt) (tE G W0 te) vs σ H Q := by
  obtain ⟨ρ, S, η, T, F, f, g, p⟩ := h
  refine ⟨ρ, S, η, T, F, f, g, (Post.bind (Rp := fun η T ds J => Yields G F J ds η T) p).imp fun J H1 ⟨ds, S1, η1, T1, e0, e1, g1, y, p1⟩ Dl hD => ?_⟩
  split at p1
  · rename_i hz
    refine lc_reading (f.mono e1) g1 y hz hD p1 fun ys us S' H' η' T' e' g' hH hT hη r hl p2 => ?_
    have hF : F Dl = none := g1.fnone hD
    have ex : Ext η' T' η' (upd T' Dl (.lst us)) := ext_fresh hT
    exact p2 _ H' η' _ ex (g'.adopt hH hT hF hη) (rep_lst upd_same (r.mono ex))
  · exact p1.elim
theorem lcS_tE {mi : DenI} {Q : VK} (h : tE G W (dLcS mi t tt te vs) σ H Q) : tLc (tI G W mi) (tG G vs t) (tT G W0 tt) (tE G W0 te) vs σ H Q := by
  obtain ⟨ρ, S, η, T, F, f, g, p⟩ := h
  refine ⟨ρ, S, η, T, F, f, g, (Post.bind (Rp := fun η T ds J => Yields G F J ds η T) p).imp fun J H1 ⟨ds, S1, η1, T1, e0, e1, g1, y, p1⟩ Dl hD => ?_⟩
  split at p1
  · rename_i hz
    refine lc_reading (f.mono e1) g1 y hz hD p1 fun ys us S' H' η' T' e' g' hH hT hη r hl p2 => ?_
    have hF : F Dl = none := g1.fnone hD
    refine p2 _ H' (η' ++ [Dl]) T' ext_loc (g'.adoptS (by rw [hH]; simp) hT hF hη ⟨us, hH, r.mono ext_loc⟩) (.ref ?_)
    rw [← g'.len]; simp
  · exact p1.elim
theorem pts_yes {X : Cx} : PTs X [] (tT G W tYesD) := by
  refine ⟨fun pins s σ H Q I hw => pts_nil.run pins s σ H Q I ?_⟩
  obtain ⟨ρ, S, η, T, F, f, g, p⟩ := hw
  exact p.ok g rfl
section
variable {elt tg iter : Expr} {ifs : List Expr} {scope : Scope} {own : List (Str × Nat)} {mi : DenI}
theorem d_lc (hc : X.calm = true) (hN : X.N.Nodup) (hi : PI X tg iter (tI G W mi)) (ok : BlkOk X.N X.env.scope scope own)
    (hg : ∀ (s : Shared) (H : Hp) (C : Addr) (cl : List (Str × Addr)) (fp : List Addr), PG (X.blk s H scope (compEnvC scope cl C X.env) fp) tg (tG G (own.map (·.2)) t))
    (ht : ∀ (s : Shared) (H : Hp) (C : Addr) (cl : List (Str × Addr)) (fp : List Addr), PTs (X.blk s H scope (compEnvC scope cl C X.env) fp) ifs (tT G W0 tt))
    (he : ∀ (s : Shared) (H : Hp) (C : Addr) (cl : List (Str × Addr)) (fp : List Addr), PE (X.blk s H scope (compEnvC scope cl C X.env) fp) elt (tE G W0 te)) (hs : ∀ x, foldedSetIterable iter X.env x = pure x := by intro _; rfl) :
    PE X (.ListComp elt [⟨tg, iter, ifs, 0⟩] scope pos) (tE G W (dLc mi t tt te (own.map (·.2)))) := (pe_lc hc hN hi ok hg ht he hs).imp fun _ _ _ => lc_tE
theorem d_lcS (hc : X.calm = true) (hN : X.N.Nodup) (hi : PI X tg iter (tI G W mi)) (ok : BlkOk X.N X.env.scope scope own)
    (hg : ∀ (s : Shared) (H : Hp) (C : Addr) (cl : List (Str × Addr)) (fp : List Addr), PG (X.blk s H scope (compEnvC scope cl C X.env) fp) tg (tG G (own.map (·.2)) t))
    (ht : ∀ (s : Shared) (H : Hp) (C : Addr) (cl : List (Str × Addr)) (fp : List Addr), PTs (X.blk s H scope (compEnvC scope cl C X.env) fp) ifs (tT G W0 tt))
    (he : ∀ (s : Shared) (H : Hp) (C : Addr) (cl : List (Str × Addr)) (fp : List Addr), PE (X.blk s H scope (compEnvC scope cl C X.env) fp) elt (tE G W0 te)) (hs : ∀ x, foldedSetIterable iter X.env x = pure x := by intro _; rfl) :
    PE X (.ListComp elt [⟨tg, iter, ifs, 0⟩] scope pos) (tE G W (dLcS mi t tt te (own.map (·.2)))) := (pe_lc hc hN hi ok hg ht he hs).imp fun _ _ _ => lcS_tE
variable {i : Nat} {y : Str} {py spos : Pos}
theorem s_setLc (hc : X.calm = true) (hN : X.N.Nodup) (hy : X.N[i]? = some y) (hyl : X.env.scope.names.lookup y = some .local)
    (hsw : swapsWith (.ListComp elt [⟨tg, iter, ifs, 0⟩] scope pos) (some (.Name y py)) spos.line X.env = pure true) (hi : PI X tg iter (tI G W mi)) (ok : BlkOk X.N X.env.scope scope own)
    (hg : ∀ (s : Shared) (H : Hp) (C : Addr) (cl : List (Str × Addr)) (fp : List Addr), PG (X.blk s H scope (compEnvC scope cl C X.env) fp) tg (tG G (own.map (·.2)) t))
    (ht : ∀ (s : Shared) (H : Hp) (C : Addr) (cl : List (Str × Addr)) (fp : List Addr), PTs (X.blk s H scope (compEnvC scope cl C X.env) fp) ifs (tT G W0 tt))
    (he : ∀ (s : Shared) (H : Hp) (C : Addr) (cl : List (Str × Addr)) (fp : List Addr), PE (X.blk s H scope (compEnvC scope cl C X.env) fp) elt (tE G W0 te)) (hs : ∀ x, foldedSetIterable iter X.env x = pure x := by intro _; rfl) :
    PS X (.Assign [.Name y py] (.ListComp elt [⟨tg, iter, ifs, 0⟩] scope pos) spos) (tS G W (sAsg (dLc mi t tt te (own.map (·.2))) (tgName i))) :=
  (ps_setLc hc hN hy hyl hsw hi ok hg ht he hs).imp fun E σ H ⟨ρ, S, η, T, F, f, g, p⟩ => lc_tE (sE_step f g p fun d v S1 H1 η1 T1 _ e1 f1 g1 r1 p1 => p1 _ H1 η1 T1 Ext.refl g1 (f1.set i r1))
theorem s_setLcS (hc : X.calm = true) (hN : X.N.Nodup) (hy : X.N[i]? = some y) (hyl : X.env.scope.names.lookup y = some .local)
    (hsw : swapsWith (.ListComp elt [⟨tg, iter, ifs, 0⟩] scope pos) (some (.Name y py)) spos.line X.env = pure true) (hi : PI X tg iter (tI G W mi)) (ok : BlkOk X.N X.env.scope scope own)
    (hg : ∀ (s : Shared) (H : Hp) (C : Addr) (cl : List (Str × Addr)) (fp : List Addr), PG (X.blk s H scope (compEnvC scope cl C X.env) fp) tg (tG G (own.map (·.2)) t))
    (ht : ∀ (s : Shared) (H : Hp) (C : Addr) (cl : List (Str × Addr)) (fp : List Addr), PTs (X.blk s H scope (compEnvC scope cl C X.env) fp) ifs (tT G W0 tt))
    (he : ∀ (s : Shared) (H : Hp) (C : Addr) (cl : List (Str × Addr)) (fp : List Addr), PE (X.blk s H scope (compEnvC scope cl C X.env) fp) elt (tE G W0 te)) (hs : ∀ x, foldedSetIterable iter X.env x = pure x := by intro _; rfl) :
    PS X (.Assign [.Name y py] (.ListComp elt [⟨tg, iter, ifs, 0⟩] scope pos) spos) (tS G W (sAsg (dLcS mi t tt te (own.map (·.2))) (tgName i))) :=
  (ps_setLc hc hN hy hyl hsw hi ok hg ht he hs).imp fun E σ H ⟨ρ, S, η, T, F, f, g, p⟩ => lcS_tE (sE_step f g p fun d v S1 H1 η1 T1 _ e1 f1 g1 r1 p1 => p1 _ H1 η1 T1 Ext.refl g1 (f1.set i r1))
end
end
end Tok
namespace Tok
open PySem L2

theorem opR_mk {X : Cx} {f : Value → Value → Sem Value} {r : R2} (h : ∀ x y H Q, r x y H Q → ∃ r' : R2, OpR X f r' ∧ r' x y H Q) : OpR X f r := fun pins s σ H x y v u Q I rx ry q => by
  obtain ⟨r', h1, h2⟩ := h x y H Q q
  exact h1 pins s σ H x y v u Q I rx ry h2
theorem callR_mk {X : Cx} {f : Value} {r : List V → Hp → VK → Prop} (h : ∀ xs H Q, r xs H Q → ∃ r' : List V → Hp → VK → Prop, CallR X f r' ∧ r' xs H Q) : CallR X f r := fun pins s σ H xs us Q I rx q => by
  obtain ⟨r', h1, h2⟩ := h xs H Q q
  exact h1 pins s σ H xs us Q I rx h2
theorem ixR_mk {X : Cx} {r : R2} (h : ∀ x y H Q, r x y H Q → ∃ r' : R2, IxR X r' ∧ r' x y H Q) : IxR X r := fun va sl pins s σ H x y v u Q I rx ry q z => by
  obtain ⟨r', h1, h2⟩ := h x y H Q q
  exact h1 va sl pins s σ H x y v u Q I rx ry h2 z
theorem mtR_mk {X : Cx} {id : String} {r : V → List V → Hp → VK → Prop} (h : ∀ x xs H Q, r x xs H Q → ∃ r' : V → List V → Hp → VK → Prop, MtR X id r' ∧ r' x xs H Q) : MtR X id r := fun pins s σ H x xs v us Q I rx rs q => by
  obtain ⟨r', h1, h2⟩ := h x xs H Q q
  exact h1 pins s σ H x xs v us Q I rx rs h2
theorem slR_mk {X : Cx} {r : V → Option Int → Option Int → Hp → VK → Prop} (h : ∀ x lo hi H Q, r x lo hi H Q → ∃ r' : V → Option Int → Option Int → Hp → VK → Prop, SlR X r' ∧ r' x lo hi H Q) : SlR X r := fun pins s σ H x v vl vu lo hi sl Q I rx hs pl pu q => by
  obtain ⟨r', h1, h2⟩ := h x lo hi H Q q
  exact h1 pins s σ H x v vl vu lo hi sl Q I rx hs pl pu h2

/-! ## arithmetic, + of texts, lists, tuples -/
def addD : P2 := fun _ x y => match x, y with
  | .int i, .int j => some (.int (i + j))
  | .str a, .str b => if a.length + b.length ≤ sizeLine then some (.str (a ++ b)) else none
  | .lst a, .lst b => if a.length + b.length ≤ sizeLine then some (.lst (a ++ b)) else none
  | .tup a, .tup b => if a ≠ [] ∧ b ≠ [] ∧ a.length + b.length ≤ sizeLine then some (.tup (a ++ b)) else none
  | _, _ => none
def subD : P2 := fun _ x y => match x, y with
  | .int i, .int j => some (.int (i - j))
  | _, _ => none
def repL (k : Nat) (xs : List D) : List D := (List.replicate k xs).flatten
def mulD : P2 := fun _ x y => match x, y with
  | .int i, .int j => if (-(2 ^ 64) < i ∧ i < 2 ^ 64) ∨ (-(2 ^ 64) < j ∧ j < 2 ^ 64) then some (.int (i * j)) else none
  | .lst xs, .int k => if -(2 ^ 63) ≤ k ∧ k < 2 ^ 63 ∧ xs.length * k.toNat ≤ sizeLine then some (.lst (repL k.toNat xs)) else none
  | _, _ => none
def modD : P2 := fun _ x y => match x, y with
  | .int i, .int j => if 0 < j then some (.int (i % j)) else none
  | _, _ => none
def fdivD : P2 := fun _ x y => match x, y with
  | .int i, .int j => if 0 < j ∧ j < 1073741824 then some (.int (i / j)) else none
  | _, _ => none
def powD : P2 := fun _ x y => match x, y with
  | .int i, .int j => if 0 ≤ j ∧ j ≤ 1000 ∧ i.natAbs < 2 ^ 1000 then some (.int (i ^ j.toNat)) else none
  | _, _ => none
def andI : P2 := fun _ x y => match x, y with
  | .int i, .int j => some (.int (Builtin.bitAnd i j))
  | _, _ => none
section
variable {X : Cx} {G : Gx}
theorem Reps.rep {η : List Addr} {T : Hp} {ds : List D} {vs : List V} (h : Reps G η T ds vs) : ∀ k : Nat, Reps G η T (repL k ds) (List.replicate k vs).flatten
  | 0 => .nil
  | k + 1 => by
    unfold repL
    rw [List.replicate_succ, List.replicate_succ, List.flatten_cons, List.flatten_cons]
    exact h.append (Reps.rep h k)
theorem o_add (hK : G.K = X.K) : OpR X (binaryOp .Add) (r2 G addD) := opR_mk fun x y H Q ⟨S, η, T, F, dx, dy, g, rx, ry, d, e, k⟩ => by
  unfold addD at e
  split at e
  · cases rx; cases ry; cases e
    exact ⟨_, op_add, _, _, rfl, rfl, k _ _ _ _ Ext.refl g .int⟩
  · cases rx; cases ry
    split at e
    · cases e
      exact ⟨_, op_add_str, _, _, rfl, rfl, by assumption, k _ _ _ _ Ext.refl g .str⟩
    · cases e
  · cases rx with
    | @lst a vs _ ha ra =>
      cases ry with
      | @lst b us _ hb rb =>
        split at e
        · cases e
          exact ⟨_, op_cat, _, _, _, _, rfl, rfl, g.sub _ _ ha, g.sub _ _ hb, by rw [← ra.length, ← rb.length]; assumption, fun p hp => (show PostP G F S (some (.lst _)) η T Q from ⟨_, rfl, k⟩).lst rfl g (ra.append rb) hp⟩
        · cases e
  · cases rx with
    | @tup a vs as ha ra =>
      cases ry with
      | @tup b us bs hb rb =>
        split at e
        · rename_i hc
          cases e
          have h1 : vs ≠ [] := fun z => by subst z; cases ra; exact hc.1 rfl
          have h2 : us ≠ [] := fun z => by subst z; cases rb; exact hc.2.1 rfl
          exact ⟨_, op_catT, a, b, vs, us, rfl, rfl, sqT_up hK g ha, sqT_up hK g hb, h1, by rw [← ra.length, ← rb.length]; exact hc.2.2, fun z => absurd z h2, fun _ p hp => (show PostP G F S (some (.tup _)) η T Q from ⟨_, rfl, k⟩).tup rfl g (ra.append rb) hp⟩
        · cases e
  · cases e

abbrev KVk (G : Gx) (F : Hp) (S : Sto) (η : List Addr) (T : Hp) (d : D) (Q : VK) : Prop := ∀ v H' η' T', Ext η T η' T' → GRel G H' S η' T' F → Rep G η' T' d v → Q v H'
theorem newL {F : Hp} {S : Sto} {η : List Addr} {T H : Hp} {ds : List D} {vs : List V} {Q : VK} (k : KVk G F S η T (.lst ds) Q) (g : GRel G H S η T F) (r : Reps G η T ds vs) : ∀ p, H p = none → Q (.ref p) (upd H p (.lst vs)) := fun p hp => (show PostP G F S (some (.lst ds)) η T Q from ⟨_, rfl, k⟩).lst rfl g r hp
theorem newT {F : Hp} {S : Sto} {η : List Addr} {T H : Hp} {ds : List D} {vs : List V} {Q : VK} (k : KVk G F S η T (.tup ds) Q) (g : GRel G H S η T F) (r : Reps G η T ds vs) : ∀ p, H p = none → Q (.ref p) (upd H p (.tup vs)) := fun p hp => (show PostP G F S (some (.tup ds)) η T Q from ⟨_, rfl, k⟩).tup rfl g r hp
theorem o_sub : OpR X (binaryOp .Sub) (r2 G subD) := opR_mk fun x y H Q ⟨S, η, T, F, dx, dy, g, rx, ry, d, e, k⟩ => by
  unfold subD at e
  split at e
  · cases rx; cases ry; cases e
    exact ⟨_, op_sub, _, _, rfl, rfl, k _ _ _ _ Ext.refl g .int⟩
  · cases e
theorem o_mul : OpR X (binaryOp .Mult) (r2 G mulD) := opR_mk fun x y H Q ⟨S, η, T, F, dx, dy, g, rx, ry, d, e, k⟩ => by
  unfold mulD at e
  split at e
  · cases rx; cases ry
    split at e
    · cases e
      exact ⟨_, op_mul, _, _, rfl, rfl, by assumption, k _ _ _ _ Ext.refl g .int⟩
    · cases e
  · cases rx with
    | @lst a vs _ ha ra =>
      cases ry
      split at e
      · rename_i hc
        cases e
        exact ⟨_, op_rep, _, _, _, rfl, rfl, g.sub _ _ ha, hc.1, hc.2.1, by rw [← ra.length]; exact hc.2.2, newL k g (ra.rep _)⟩
      · cases e
  · cases e
theorem o_mod : OpR X (binaryOp .Mod) (r2 G modD) := opR_mk fun x y H Q ⟨S, η, T, F, dx, dy, g, rx, ry, d, e, k⟩ => by
  unfold modD at e
  split at e
  · cases rx; cases ry
    split at e
    · cases e
      exact ⟨_, op_mod, _, _, rfl, rfl, by assumption, k _ _ _ _ Ext.refl g .int⟩
    · cases e
  · cases e
theorem o_fdiv : OpR X (binaryOp .FloorDiv) (r2 G fdivD) := opR_mk fun x y H Q ⟨S, η, T, F, dx, dy, g, rx, ry, d, e, k⟩ => by
  unfold fdivD at e
  split at e
  · cases rx; cases ry
    split at e
    · cases e
      exact ⟨_, op_fdiv, _, _, rfl, rfl, by assumption, k _ _ _ _ Ext.refl g .int⟩
    · cases e
  · cases e
theorem op_powW : OpR X (binaryOp .Pow) (rI (fun i j => 0 ≤ j ∧ j ≤ 1000 ∧ i.natAbs < 2 ^ 1000) fun i j => .int (i ^ j.toNat)) := opI fun i j _ _ _ _ _ hc q => by
  refine PyProof.Rows.pow_int hc.1 ?_ q
  have h1 : Builtin.Int.intBits i ≤ 1000 := intBits_le_iff.mpr hc.2.2
  have h2 : (Builtin.Int.intBits i : Int) * j ≤ 1000 * 1000 := Int.mul_le_mul (by omega) hc.2.1 hc.1 (by omega)
  exact Int.le_trans h2 (by decide)
theorem o_pow : OpR X (binaryOp .Pow) (r2 G powD) := opR_mk fun x y H Q ⟨S, η, T, F, dx, dy, g, rx, ry, d, e, k⟩ => by
  unfold powD at e
  split at e
  · cases rx; cases ry
    split at e
    · cases e
      exact ⟨_, op_powW, _, _, rfl, rfl, by assumption, k _ _ _ _ Ext.refl g .int⟩
    · cases e
  · cases e
theorem o_and : OpR X (binaryOp .BitAnd) (r2 G andI) := opR_mk fun x y H Q ⟨S, η, T, F, dx, dy, g, rx, ry, d, e, k⟩ => by
  unfold andI at e
  split at e
  · cases rx; cases ry; cases e
    exact ⟨_, op_and, _, _, rfl, rfl, k _ _ _ _ Ext.refl g .int⟩
  · cases e
def negD : P1 := fun _ x => match x with
  | .int i => some (.int (-i))
  | _ => none
theorem u_neg : UnR X (unaryOp .USub) (r1 G negD) := fun pins s σ H x v Q I rv ⟨S, η, T, F, dx, g, rx, d, e, k⟩ => by
  unfold negD at e
  split at e
  · cases rx; cases e
    exact un_neg pins s σ H _ v Q I rv ⟨_, rfl, k _ _ _ _ Ext.refl g .int⟩
  · cases e

/-! ## comparisons -/
mutual
def toPy : D → Option PyData
  | .non => some .none
  | .bl b => some (.bool b)
  | .int i => some (.int i)
  | .str s => some (.str s)
  | .tup xs => (toPys xs).map .tuple
  | .lst xs => (toPys xs).map .list
  | .scr xs => (toPys xs).map .list
  | .dct _ _ => none
  | .ref _ => none
  | .fn _ => none
def toPys : List D → Option (List PyData)
  | [] => some []
  | x :: xs => (toPy x).bind fun a => (toPys xs).map fun as => a :: as
end
mutual
theorem dp_of (hK : G.K = X.K) {H : Hp} {S : Sto} {η : List Addr} {T F : Hp} (g : GRel G H S η T F) : ∀ (d : D) {v : V} {p : PyData}, Rep G η T d v → toPy d = some p → Dp X.K H v p
  | .non, _, _, h, e => by cases h; cases e; exact .non
  | .bl _, _, _, h, e => by cases h; cases e; exact .bl _
  | .int _, _, _, h, e => by cases h; cases e; exact .int _
  | .str _, _, _, h, e => by cases h; cases e; exact .str _
  | .tup ds, _, _, h, e => by
    cases h with
    | tup h r =>
      cases q : toPys ds with
      | none => simp [toPy, q] at e
      | some ps =>
        simp only [toPy, q, Option.map_some, Option.some.injEq] at e
        subst e
        exact .tup (sqT_up hK g h) (dps_of hK g ds r q)
  | .lst ds, _, _, h, e => by
    cases h with
    | lst h r =>
      cases q : toPys ds with
      | none => simp [toPy, q] at e
      | some ps =>
        simp only [toPy, q, Option.map_some, Option.some.injEq] at e
        subst e
        exact .lst (SqL.of (g.sub _ _ h)) (dps_of hK g ds r q)
  | .scr ds, _, _, h, e => by
    cases h with
    | scr h r =>
      cases q : toPys ds with
      | none => simp [toPy, q] at e
      | some ps =>
        simp only [toPy, q, Option.map_some, Option.some.injEq] at e
        subst e
        exact .lst (sqL_up hK g h) (dps_of hK g ds r q)
  | .dct _ _, _, _, _, e => by simp [toPy] at e
  | .ref _, _, _, _, e => by simp [toPy] at e
  | .fn _, _, _, _, e => by simp [toPy] at e
theorem dps_of (hK : G.K = X.K) {H : Hp} {S : Sto} {η : List Addr} {T F : Hp} (g : GRel G H S η T F) : ∀ (ds : List D) {vs : List V} {ps : List PyData}, Reps G η T ds vs → toPys ds = some ps → DpAll X.K H vs ps
  | [], _, _, h, e => by cases h; cases e; exact .nil
  | d :: ds, _, _, h, e => by
    cases h with
    | cons h r =>
      cases q : toPy d with
      | none => simp [toPys, q] at e
      | some p =>
        cases q2 : toPys ds with
        | none => simp [toPys, q, q2] at e
        | some ps =>
          simp only [toPys, q, q2, Option.bind_some, Option.map_some, Option.some.injEq] at e
          subst e
          exact .cons (dp_of hK g d h q) (dps_of hK g ds r q2)
end
/-- == of data -/
def eqB : D → D → Option Bool
  | .str a, .str b => some (decide (a = b))
  | .int a, .int b => some (decide (a = b))
  | .bl a, .bl b => some (decide (a = b))
  | .non, .str _ => some false
  | .str _, .non => some false
  | .non, .int _ => some false
  | .int _, .non => some false
  | .int _, .str _ => some false
  | .str _, .int _ => some false
  | .non, .non => some true
  | x, y => match toPy x, toPy y with
    | some a, some b => if SeqAt.shaped a = true ∧ SeqAt.shaped b = true then some (PyData.eqv a b) else none
    | _, _ => none
def eqD : P2 := fun _ x y => (eqB x y).map .bl
def neD : P2 := fun _ x y => (eqB x y).map fun b => .bl (!b)
theorem eqB_reading (hK : G.K = X.K) (hu : X.A.units + 64 < cLine) {dx dy : D} {x y : V} {b : Bool} {H : Hp} {S : Sto} {η : List Addr} {T F : Hp} (g : GRel G H S η T F) (rx : Rep G η T dx x) (ry : Rep G η T dy y) (e : eqB dx dy = some b) :
    (∀ Q : VK, Q (.bl b) H → ∃ r', OpR X (compareOp .Eq) r' ∧ r' x y H Q) ∧ (∀ Q : VK, Q (.bl (!b)) H → ∃ r', OpR X (compareOp .NotEq) r' ∧ r' x y H Q) := by
  have sc : ∀ {b' : Bool}, scal x y = true → decide (x = y) = b' → (∀ Q : VK, Q (.bl b') H → ∃ r', OpR X (compareOp .Eq) r' ∧ r' x y H Q) ∧ (∀ Q : VK, Q (.bl (!b')) H → ∃ r', OpR X (compareOp .NotEq) r' ∧ r' x y H Q) := fun h1 h2 =>
    ⟨fun Q q => ⟨_, op_eq, h1, by rw [h2]; exact q⟩, fun Q q => ⟨_, op_ne, h1, by rw [h2]; exact q⟩⟩
  unfold eqB at e
  split at e
  iterate 10
    · cases rx; cases ry; cases e
      exact sc rfl (by simp)
  · split at e
    · rename_i a c qa qc
      split at e
      · rename_i hs
        cases e
        exact ⟨fun Q q => ⟨_, op_eqD hu, a, c, dp_of hK g _ rx qa, dp_of hK g _ ry qc, hs.1, hs.2, q⟩, fun Q q => ⟨_, op_neD hu, a, c, dp_of hK g _ rx qa, dp_of hK g _ ry qc, hs.1, hs.2, q⟩⟩
      · cases e
    · cases e
theorem o_eq (hK : G.K = X.K) (hu : X.A.units + 64 < cLine) : OpR X (compareOp .Eq) (r2 G eqD) := opR_mk fun x y H Q ⟨S, η, T, F, dx, dy, g, rx, ry, d, e, k⟩ => by
  unfold eqD at e
  cases q : eqB dx dy with
  | none => rw [q] at e; cases e
  | some b => rw [q] at e; cases e; exact (eqB_reading hK hu g rx ry q).1 Q (k _ _ _ _ Ext.refl g .bl)
theorem o_ne (hK : G.K = X.K) (hu : X.A.units + 64 < cLine) : OpR X (compareOp .NotEq) (r2 G neD) := opR_mk fun x y H Q ⟨S, η, T, F, dx, dy, g, rx, ry, d, e, k⟩ => by
  unfold neD at e
  cases q : eqB dx dy with
  | none => rw [q] at e; cases e
  | some b => rw [q] at e; cases e; exact (eqB_reading hK hu g rx ry q).2 Q (k _ _ _ _ Ext.refl g .bl)
def cmpI (p : Int → Int → Bool) : P2 := fun _ x y => match x, y with
  | .int i, .int j => some (.bl (p i j))
  | _, _ => none
theorem o_cmpI {op : CmpOp} {p : Int → Int → Bool} (h : OpR X (compareOp op) (rI0 fun i j => .bl (p i j))) : OpR X (compareOp op) (r2 G (cmpI p)) := opR_mk fun x y H Q ⟨S, η, T, F, dx, dy, g, rx, ry, d, e, k⟩ => by
  unfold cmpI at e
  split at e
  · cases rx; cases ry; cases e
    exact ⟨_, h, _, _, rfl, rfl, k _ _ _ _ Ext.refl g .bl⟩
  · cases e
def ltD : P2 := cmpI fun i j => decide (i < j)
def leD : P2 := cmpI fun i j => decide (i ≤ j)
def gtD : P2 := cmpI fun i j => decide (j < i)
def geD : P2 := cmpI fun i j => decide (j ≤ i)
theorem o_lt : OpR X (compareOp .Lt) (r2 G ltD) := o_cmpI op_lt
theorem o_le : OpR X (compareOp .LtE) (r2 G leD) := o_cmpI op_le
theorem o_gt : OpR X (compareOp .Gt) (r2 G gtD) := o_cmpI op_gt
theorem o_ge : OpR X (compareOp .GtE) (r2 G geD) := o_cmpI op_ge
def isND : P2 := fun _ x y => match y with
  | .non => some (.bl (match x with | .non => true | _ => false))
  | _ => none
def notND : P2 := fun _ x y => match y with
  | .non => some (.bl (match x with | .non => false | _ => true))
  | _ => none
theorem o_isN : OpR X (compareOp .Is) (r2 G isND) := opR_mk fun x y H Q ⟨S, η, T, F, dx, dy, g, rx, ry, d, e, k⟩ => by
  unfold isND at e
  split at e
  · cases ry; cases e
    exact ⟨_, op_isN, rfl, k _ _ _ _ Ext.refl g (by cases rx <;> exact .bl)⟩
  · cases e
theorem o_notN : OpR X (compareOp .IsNot) (r2 G notND) := opR_mk fun x y H Q ⟨S, η, T, F, dx, dy, g, rx, ry, d, e, k⟩ => by
  unfold notND at e
  split at e
  · cases ry; cases e
    exact ⟨_, op_notN, rfl, k _ _ _ _ Ext.refl g (by cases rx <;> exact .bl)⟩
  · cases e
end
end Tok
namespace Tok
open PySem L2

section
variable {X : Cx} {G : Gx} {W : WX} {a b c e : Expr} {ma mb mc m : Den} {pos : Pos} {σ : St} {H : Hp} {es : List Expr} {na : DenA}

/-! ## subscripts -/
theorem atI_rep {η : List Addr} {T : Hp} {ds : List D} {vs : List V} {i : Int} {d : D} (r : Reps G η T ds vs) (e : atI ds i = some d) : ∃ v, atI vs i = some v ∧ Rep G η T d v := by
  unfold atI at e ⊢
  rw [← r.length]
  cases q : ixN ds.length i with
  | none => rw [q] at e; cases e
  | some j =>
    rw [q] at e
    exact r.get e
def ixD : P2 := fun S x y => match x, y with
  | .tup xs, .int i => atI xs i
  | .lst xs, .int i => atI xs i
  | .scr xs, .int i => atI xs i
  | .str z, .int i => if z.length ≤ sizeLine then (atI z.cps.toList i).map fun c => .str ⟨#[c]⟩ else none
  | .ref l, .int i => match S[l]? with
    | some (.lst xs) => atI xs i
    | _ => none
  | _, _ => none
theorem i_ix (hK : G.K = X.K) : IxR X (r2 G ixD) := ixR_mk fun x y H Q ⟨S, η, T, F, dx, dy, g, rx, ry, d, e, k⟩ => by
  unfold ixD at e
  split at e
  · cases rx with
    | tup h r =>
      cases ry
      obtain ⟨v, hv, rv⟩ := atI_rep r e
      exact ⟨_, ix_tup, _, _, _, v, rfl, rfl, sqT_up hK g h, hv, k _ _ _ _ Ext.refl g rv⟩
  · cases rx with
    | lst h r =>
      cases ry
      obtain ⟨v, hv, rv⟩ := atI_rep r e
      exact ⟨_, ix_list, _, _, _, v, rfl, rfl, SqL.of (g.sub _ _ h), hv, k _ _ _ _ Ext.refl g rv⟩
  · cases rx with
    | scr h r =>
      cases ry
      obtain ⟨v, hv, rv⟩ := atI_rep r e
      exact ⟨_, ix_list, _, _, _, v, rfl, rfl, sqL_up hK g h, hv, k _ _ _ _ Ext.refl g rv⟩
  · rename_i z i
    cases rx; cases ry
    split at e
    · rename_i hz
      cases q : atI z.cps.toList i with
      | none => rw [q] at e; cases e
      | some c =>
        rw [q] at e; cases e
        exact ⟨_, ix_str, _, _, c, rfl, rfl, hz, q, k _ _ _ _ Ext.refl g .str⟩
    · cases e
  · cases rx with
    | @ref l p h =>
      cases ry
      split at e
      · rename_i xs hS
        obtain ⟨vs, hH, r⟩ := g.obj _ _ p hS h
        obtain ⟨v, hv, rv⟩ := atI_rep r e
        exact ⟨_, ix_list, _, _, _, v, rfl, rfl, SqL.of hH, hv, k _ _ _ _ Ext.refl g rv⟩
      · cases e
  · cases e
theorem d_ix (hK : G.K = X.K) (ha : PE X a (tE G W ma)) (hb : PE X b (tE G W mb)) (hs : PlainIx b := by exact fun _ _ => rfl) : PE X (.Subscript a b pos) (tE G W (dOp2 ixD ma mb)) := (pe_ix (i_ix hK) ha hb hs).imp fun _ _ _ => op2_reading
/-! slices -/
abbrev DenO := Env → Sto → R (Option Int)
abbrev RpO : List Addr → Hp → Option Int → Option Int → Prop := fun _ _ a b => a = b
def tO (G : Gx) (W : WX) (m : DenO) : TO := fun σ H Q => ∃ ρ S η T F, FRel G ρ σ η T ∧ GRel G H S η T F ∧ Post G F W σ RpO (m ρ S) η T Q
theorem _root_.L2.PO.imp {X : Cx} {e : Option Expr} {t t' : TO} (h : PO X e t) (k : ∀ σ H Q, t' σ H Q → t σ H Q) : PO X e t' := ⟨fun pins s σ H Q I q => h.run pins s σ H Q I (k σ H Q q)⟩
def oNone : DenO := fun _ S => .ok none S
def oSome (m : Den) : DenO := fun ρ S => (m ρ S).bind fun d S1 => match d with
  | .int i => .ok (some i) S1
  | _ => .bad
theorem o_none : PO X none (tO G W oNone) := po_none.imp fun σ H Q ⟨ρ, S, η, T, F, f, g, p⟩ => p.ok g rfl
theorem o_some (h : PE X e (tE G W m)) : PO X (some e) (tO G W (oSome m)) := (po_some h).imp fun σ H Q ⟨ρ, S, η, T, F, f, g, p⟩ => tE_step f g p fun d v S1 H1 η1 T1 _ e1 f1 g1 r1 p1 => by
  cases r1 with
  | int => exact ⟨_, rfl, p1.ok g1 rfl⟩
  | _ => exact p1.elim
theorem tO_step {α β : Type} {Rq : List Addr → Hp → α → β → Prop} {m : DenO} {k : Option Int → Sto → R α} {ρ : Env} {S : Sto} {η : List Addr} {T F : Hp} {Q : β → Hp → Prop} {Q' : Option Int → Hp → Prop} (f : FRel G ρ σ η T) (g : GRel G H S η T F)
    (h : Post G F W σ Rq ((m ρ S).bind k) η T Q)
    (n : ∀ d S1 H1 η1 T1, Ext η T η1 T1 → FRel G ρ σ η1 T1 → GRel G H1 S1 η1 T1 F → Post G F W σ Rq (k d S1) η1 T1 Q → Q' d H1) : tO G W m σ H Q' :=
  ⟨ρ, S, η, T, F, f, g, (Post.bind h).imp fun v H1 ⟨d, S1, η1, T1, e0, e, g1, r, p⟩ => by
    have r : d = v := r
    subst r
    exact n d S1 H1 η1 T1 e (f.mono e) g1 p⟩
def cutL {α : Type} (xs : List α) (lo hi : Option Int) : List α := (xs.drop (HT.sIx xs.length 0 lo)).take (HT.sIx xs.length xs.length hi - HT.sIx xs.length 0 lo)
def slD (x : D) (lo hi : Option Int) : Option D := match x with
  | .lst xs => some (.lst (cutL xs lo hi))
  | .tup xs => some (.tup (cutL xs lo hi))
  | .str z => if z.length ≤ sizeLine then some (.str (cutS z lo hi)) else none
  | _ => none
def dSl (mx : Den) (ml mh : DenO) : Den := fun ρ S => (mx ρ S).bind fun x S1 => (ml ρ S1).bind fun l S2 => (mh ρ S2).bind fun h S3 => R.ofO (slD x l h) S3
def rSl (G : Gx) : V → Option Int → Option Int → Hp → VK → Prop := fun x lo hi H Q => ∃ S η T F dx, GRel G H S η T F ∧ Rep G η T dx x ∧ PostP G F S (slD dx lo hi) η T Q
theorem cut_rep {η : List Addr} {T : Hp} {ds : List D} {vs : List V} (lo hi : Option Int) (r : Reps G η T ds vs) : Reps G η T (cutL ds lo hi) (cutV vs lo hi) := by
  unfold cutL cutV
  rw [r.length]
  exact (r.drop _).take _
theorem cut_whole {α : Type} {xs : List α} {lo hi : Option Int} (h1 : HT.sIx xs.length 0 lo = 0) (h2 : HT.sIx xs.length xs.length hi = xs.length) : cutL xs lo hi = xs := by
  unfold cutL
  rw [h1, h2]
  simp
theorem sl_rd (hK : G.K = X.K) : SlR X (rSl G) := slR_mk fun x lo hi H Q ⟨S, η, T, F, dx, g, rx, d, e, k⟩ => by
  unfold slD at e
  split at e
  · cases rx with
    | lst h r =>
      cases e
      exact ⟨_, sl_list, _, _, rfl, SqL.of (g.sub _ _ h), newL k g (cut_rep lo hi r)⟩
  · cases rx with
    | @tup a vs ds h r =>
      cases e
      refine ⟨_, sl_tupA, _, _, rfl, sqT_up hK g h, fun hw => ?_, fun _ => newT k g (cut_rep lo hi r)⟩
      rw [← r.length] at hw
      rw [cut_whole hw.1 hw.2] at k
      exact k _ _ _ _ Ext.refl g (.tup h r)
  · cases rx
    split at e
    · rename_i hz
      cases e
      exact ⟨_, sl_str, _, rfl, hz, k _ _ _ _ Ext.refl g .str⟩
    · cases e
  · cases e
theorem d_slice (hK : G.K = X.K) {lo hi : Option Expr} {ml mh : DenO} {p2 : Pos} (ha : PE X a (tE G W ma)) (hl : PO X lo (tO G W ml)) (hh : PO X hi (tO G W mh)) : PE X (.Subscript a (.Slice lo hi none p2) pos) (tE G W (dSl ma ml mh)) :=
  (pe_slice (sl_rd hK) ha hl hh).imp fun σ H Q ⟨ρ, S, η, T, F, f, g, p⟩ => tE_step f g p fun d v S1 H1 η1 T1 _ e1 f1 g1 r1 p1 => tO_step f1 g1 p1 fun l S2 H2 η2 T2 e2 f2 g2 p2 => tO_step f2 g2 p2 fun h S3 H3 η3 T3 e3 f3 g3 p3 =>
    ⟨S3, η3, T3, F, d, g3, r1.mono (e2.trans e3), postP_of p3⟩

/-! ## calls of built-ins -/
theorem d_callB {id : String} {f : PN} {x : Str} {p : Pos} (hc : CallR X (.builtin id) (rN G f)) (hg : Gl X x) (hm : X.mg x = none) (hv : bootBuiltins x = some (.builtin id)) (ha : PA X (e :: es) (tA G W na)) (hn : x ≠ "__name__" := by decide) (hdb : (x == ("__debug__" : Str)) = false := by decide)
    (he : starEach (e :: es) X.env = (false, eval e X.env) :: starEach es X.env := by rfl) (hpl : (backTo pos (starEach es X.env)).any (·.1) = false := by rfl) : PE X (.Call (.Name x p) (e :: es) [] pos) (tE G W (dOpN f na)) :=
  (pe_callB hc hg hm hv ha hn hdb he hpl).imp fun σ H Q ⟨ρ, S, η, T, F, fr, g, p⟩ => tA_step fr g p fun d v S1 H1 η1 T1 _ e1 f1 g1 r1 p1 => ⟨S1, η1, T1, F, d, g1, r1, postP_of p1⟩
theorem d_callTy {T' : String} {f : PN} {x : Str} {p : Pos} (hc : CallR X (.type T') (rN G f)) (hg : Gl X x) (hm : X.mg x = none) (hv : bootBuiltins x = some (.type T')) (ha : PA X (e :: es) (tA G W na)) (hn : x ≠ "__name__" := by decide) (hdb : (x == ("__debug__" : Str)) = false := by decide)
    (he : starEach (e :: es) X.env = (false, eval e X.env) :: starEach es X.env := by rfl) (hpl : (backTo pos (starEach es X.env)).any (·.1) = false := by rfl) : PE X (.Call (.Name x p) (e :: es) [] pos) (tE G W (dOpN f na)) :=
  (pe_callTy hc hg hm hv ha hn hdb he hpl).imp fun σ H Q ⟨ρ, S, η, T, F, fr, g, p⟩ => tA_step fr g p fun d v S1 H1 η1 T1 _ e1 f1 g1 r1 p1 => ⟨S1, η1, T1, F, d, g1, r1, postP_of p1⟩
def lenD : PN := fun S xs => match xs with
  | [.str z] => if z.length ≤ sizeLine then some (.int z.length) else none
  | [.tup ds] => some (.int ds.length)
  | [.lst ds] => some (.int ds.length)
  | [.scr ds] => some (.int ds.length)
  | [.ref l] => match S[l]? with
    | some (.lst ds) => some (.int ds.length)
    | _ => none
  | _ => none
theorem c_len (hK : G.K = X.K) : CallR X (.builtin "len") (rN G lenD) := callR_mk fun xs H Q ⟨S, η, T, F, ds, g, rx, d, e, k⟩ => by
  unfold lenD at e
  split at e
  · cases rx with | cons r rr => cases r; cases rr; exact (by
      split at e
      · rename_i hz
        cases e
        exact ⟨_, call_len, _, _, rfl, ⟨hz, rfl⟩, k _ _ _ _ Ext.refl g .int⟩
      · cases e)
  · cases rx with | cons r rr => cases rr; cases r with | tup h r =>
      cases e
      exact ⟨_, call_len, _, _, rfl, .inr ⟨_, sqT_up hK g h, r.length⟩, k _ _ _ _ Ext.refl g .int⟩
  · cases rx with | cons r rr => cases rr; cases r with | lst h r =>
      cases e
      exact ⟨_, call_len, _, _, rfl, .inl ⟨_, SqL.of (g.sub _ _ h), r.length⟩, k _ _ _ _ Ext.refl g .int⟩
  · cases rx with | cons r rr => cases rr; cases r with | scr h r =>
      cases e
      exact ⟨_, call_len, _, _, rfl, .inl ⟨_, sqL_up hK g h, r.length⟩, k _ _ _ _ Ext.refl g .int⟩
  · cases rx with | cons r rr => cases rr; cases r with | @ref l p h =>
      split at e
      · rename_i xs hS
        cases e
        obtain ⟨vs, hH, r⟩ := g.obj _ _ p hS h
        exact ⟨_, call_len, _, _, rfl, .inl ⟨_, SqL.of hH, r.length⟩, k _ _ _ _ Ext.refl g .int⟩
      · cases e
  · cases e
/-- tuple(x), list(x) of a list or a tuple -/
def tupleD : PN := fun S xs => match xs with
  | [.lst ds] => some (.tup ds)
  | [.tup ds] => some (.tup ds)
  | [.ref l] => match S[l]? with
    | some (.lst ds) => some (.tup ds)
    | _ => none
  | _ => none
def listD : PN := fun _ xs => match xs with
  | [.lst ds] => some (.lst ds)
  | [.tup ds] => some (.lst ds)
  | _ => none
theorem c_tuple (hK : G.K = X.K) : CallR X (.type "tuple") (rN G tupleD) := callR_mk fun xs H Q ⟨S, η, T, F, ds, g, rx, d, e, k⟩ => by
  unfold tupleD at e
  split at e
  · cases rx with | cons r rr => cases rr; cases r with | lst h r =>
      cases e
      exact ⟨_, call_tuple_of, _, _, rfl, .inl ⟨SqL.of (g.sub _ _ h), newT k g r⟩⟩
  · cases rx with | cons r rr => cases rr; cases r with | tup h r =>
      cases e
      exact ⟨_, call_tuple_of, _, _, rfl, .inr ⟨sqT_up hK g h, k _ _ _ _ Ext.refl g (.tup h r)⟩⟩
  · cases rx with | cons r rr => cases rr; cases r with | @ref l p h =>
      split at e
      · rename_i xs hS
        cases e
        obtain ⟨vs, hH, r⟩ := g.obj _ _ p hS h
        exact ⟨_, call_tuple_of, _, _, rfl, .inl ⟨SqL.of hH, newT k g r⟩⟩
      · cases e
  · cases e
theorem c_list (hK : G.K = X.K) : CallR X (.type "list") (rN G listD) := callR_mk fun xs H Q ⟨S, η, T, F, ds, g, rx, d, e, k⟩ => by
  unfold listD at e
  split at e
  · cases rx with | cons r rr => cases rr; cases r with | lst h r =>
      cases e
      exact ⟨_, call_list_of, _, _, rfl, .inl (SqL.of (g.sub _ _ h)), newL k g r⟩
  · cases rx with | cons r rr => cases rr; cases r with | tup h r =>
      cases e
      exact ⟨_, call_list_of, _, _, rfl, .inr (sqT_up hK g h), newL k g r⟩
  · cases e
def intD : PN := fun _ xs => match xs with
  | [.int i] => some (.int i)
  | [.bl b] => some (.int (if b then 1 else 0))
  | [.str a] => if a.length ≤ 640 then (intText? a).map .int else none
  | _ => none
theorem c_int : CallR X (.type "int") (rN G intD) := callR_mk fun xs H Q ⟨S, η, T, F, ds, g, rx, d, e, k⟩ => by
  unfold intD at e
  split at e
  · cases rx with | cons r rr => cases rr; cases r; cases e; exact ⟨_, call_int1, .inl ⟨_, rfl, k _ _ _ _ Ext.refl g .int⟩⟩
  · cases rx with | cons r rr => cases rr; cases r; cases e; exact ⟨_, call_int1, .inr ⟨_, rfl, k _ _ _ _ Ext.refl g .int⟩⟩
  · rename_i a
    cases rx with | cons r rr => cases rr; cases r; exact (by
      split at e
      · cases q : intText? a with
        | none => rw [q] at e; cases e
        | some n => rw [q] at e; cases e; exact ⟨_, call_int_str, a, n, rfl, q, by assumption, k _ _ _ _ Ext.refl g .int⟩
      · cases e)
  · cases e
def strD : PN := fun _ xs => match xs with
  | [.int i] => if i.natAbs < 2 ^ 1000 then some (.str (toString i)) else none
  | _ => none
theorem c_str : CallR X (.type "str") (rN G strD) := callR_mk fun xs H Q ⟨S, η, T, F, ds, g, rx, d, e, k⟩ => by
  unfold strD at e
  split at e
  · rename_i i
    cases rx with | cons r rr => cases rr; cases r; exact (by
      split at e
      · rename_i hi
        cases e
        refine ⟨_, call_str_int, _, rfl, ?_, k _ _ _ _ Ext.refl g .str⟩
        by_cases h0 : i.natAbs = 0
        · rw [h0]; decide
        · have := (Nat.log2_lt h0).mpr hi
          omega
      · cases e)
  · cases e
def absD : PN := fun _ xs => match xs with
  | [.int i] => some (.int (if i < 0 then -i else i))
  | _ => none
theorem c_abs : CallR X (.builtin "abs") (rN G absD) := callR_mk fun xs H Q ⟨S, η, T, F, ds, g, rx, d, e, k⟩ => by
  unfold absD at e
  split at e
  · cases rx with | cons r rr => cases rr; cases r; cases e; exact ⟨_, call_abs, _, rfl, k _ _ _ _ Ext.refl g .int⟩
  · cases e
def maxD : PN := fun _ xs => match xs with
  | [.int i, .int j] => some (.int (if j > i then j else i))
  | _ => none
def minD : PN := fun _ xs => match xs with
  | [.int i, .int j] => some (.int (if j < i then j else i))
  | _ => none
theorem c_max (hc : X.calm = true) : CallR X (.builtin "max") (rN G maxD) := callR_mk fun xs H Q ⟨S, η, T, F, ds, g, rx, d, e, k⟩ => by
  unfold maxD at e
  split at e
  · cases rx with | cons r rr => cases rr with | cons r2 rr => cases rr; cases r; cases r2; cases e; exact ⟨_, call_max2 hc, _, _, rfl, k _ _ _ _ Ext.refl g .int⟩
  · cases e
theorem c_min (hc : X.calm = true) : CallR X (.builtin "min") (rN G minD) := callR_mk fun xs H Q ⟨S, η, T, F, ds, g, rx, d, e, k⟩ => by
  unfold minD at e
  split at e
  · cases rx with | cons r rr => cases rr with | cons r2 rr => cases rr; cases r; cases r2; cases e; exact ⟨_, call_min2 hc, _, _, rfl, k _ _ _ _ Ext.refl g .int⟩
  · cases e
/-- all([..]), any([..]) of bools -/
def blsOf : List D → Option (List Bool)
  | [] => some []
  | .bl b :: r => (blsOf r).map (b :: ·)
  | _ :: _ => none
theorem bls_rep {η : List Addr} {T : Hp} : ∀ {ds : List D} {vs : List V} {bs : List Bool}, Reps G η T ds vs → blsOf ds = some bs → vs = bs.map V.bl
  | [], _, _, .nil, e => by cases e; rfl
  | .bl b :: r, _, _, .cons h t, e => by
    cases h
    unfold blsOf at e
    cases q : blsOf r with
    | none => rw [q] at e; cases e
    | some cs => rw [q] at e; cases e; rw [bls_rep t q]; rfl
def allD : PN := fun _ xs => match xs with
  | [.lst ds] => (blsOf ds).map fun bs => .bl (bs.all id)
  | _ => none
def anyD : PN := fun _ xs => match xs with
  | [.lst ds] => (blsOf ds).map fun bs => .bl (bs.any id)
  | _ => none
theorem c_all (hc : X.calm = true) : CallR X (.builtin "all") (rN G allD) := callR_mk fun xs H Q ⟨S, η, T, F, ds, g, rx, d, e, k⟩ => by
  unfold allD at e
  split at e
  · rename_i ds
    cases rx with | cons r rr => cases rr; cases r with | lst h r =>
      cases q : blsOf ds with
      | none => rw [q] at e; cases e
      | some bs => rw [q] at e; cases e; exact ⟨_, cr_all hc, _, bs, rfl, bls_rep r q ▸ SqL.of (g.sub _ _ h), k _ _ _ _ Ext.refl g .bl⟩
  · cases e
theorem c_any (hc : X.calm = true) : CallR X (.builtin "any") (rN G anyD) := callR_mk fun xs H Q ⟨S, η, T, F, ds, g, rx, d, e, k⟩ => by
  unfold anyD at e
  split at e
  · rename_i ds
    cases rx with | cons r rr => cases rr; cases r with | lst h r =>
      cases q : blsOf ds with
      | none => rw [q] at e; cases e
      | some bs => rw [q] at e; cases e; exact ⟨_, cr_any hc, _, bs, rfl, bls_rep r q ▸ SqL.of (g.sub _ _ h), k _ _ _ _ Ext.refl g .bl⟩
  · cases e
end
end Tok
namespace Tok
open PySem L2

section
variable {X : Cx} {G : Gx} {W : WX} {a b c e : Expr} {ma mb mc m : Den} {pos : Pos} {σ : St} {H : Hp} {es : List Expr} {na : DenA}

/-! ## in -/
def strsOf : List D → Option (List Str)
  | [] => some []
  | .str s :: r => (strsOf r).map (s :: ·)
  | _ :: _ => none
theorem strs_rep {η : List Addr} {T : Hp} : ∀ {ds : List D} {vs : List V} {bs : List Str}, Reps G η T ds vs → strsOf ds = some bs → vs = bs.map V.str
  | [], _, _, .nil, e => by cases e; rfl
  | .str b :: r, _, _, .cons h t, e => by
    cases h
    unfold strsOf at e
    cases q : strsOf r with
    | none => rw [q] at e; cases e
    | some cs => rw [q] at e; cases e; rw [strs_rep t q]; rfl
theorem flat_strV (ys : List Str) : (ys.map V.str).all flatV = true := by
  induction ys with
  | nil => rfl
  | cons y r ih => rw [List.map_cons, List.all_cons, ih]; rfl
theorem inV_strs (x : Str) : ∀ ys : List Str, inV (.str x) (ys.map V.str) = decide (x ∈ ys)
  | [] => rfl
  | y :: r => by
    have ih := inV_strs x r
    unfold inV at ih ⊢
    rw [List.map_cons, List.any_cons, ih]
    have : eqV (.str y) (.str x) = decide (x = y) := by
      show (y == x) = decide (x = y)
      by_cases h : x = y
      · subst h; simp
      · have h' : ¬ y = x := fun e => h e.symm
        rw [decide_eq_false h]
        exact beq_eq_false_iff_ne.mpr h'
    rw [this]
    by_cases h : x = y <;> simp [h]
def seqOf (S : Sto) : D → Option (List D)
  | .tup xs => some xs
  | .lst xs => some xs
  | .ref l => match S[l]? with
    | some (.lst xs) => some xs
    | _ => none
  | _ => none
theorem seq_rep (hK : G.K = X.K) {S : Sto} {η : List Addr} {T F : Hp} (g : GRel G H S η T F) {d : D} {v : V} {ds : List D} (r : Rep G η T d v) (e : seqOf S d = some ds) : ∃ a vs, v = .ref a ∧ (SqL X.K H a vs ∨ SqT X.K H a vs) ∧ Reps G η T ds vs := by
  unfold seqOf at e
  split at e
  · cases e; cases r with | @tup a vs _ h r => exact ⟨a, vs, rfl, .inr (sqT_up hK g h), r⟩
  · cases e; cases r with | @lst a vs _ h r => exact ⟨a, vs, rfl, .inl (SqL.of (g.sub _ _ h)), r⟩
  · cases r with
    | @ref l p h =>
      split at e
      · rename_i xs hS
        cases e
        obtain ⟨vs, hH, r⟩ := g.obj _ _ p hS h
        exact ⟨p, vs, rfl, .inl (SqL.of hH), r⟩
      · cases e
  · cases e
def inB (S : Sto) (x y : D) : Option Bool := match x, y with
  | .str s, .str z => match s.cps.toList with
    | [c] => some (decide (c ∈ z.cps.toList))
    | _ => none
  | .str s, y => (seqOf S y).bind fun ys => (strsOf ys).map fun zs => decide (s ∈ zs)
  | _, _ => none
def inD : P2 := fun S x y => (inB S x y).map .bl
def notInD : P2 := fun S x y => (inB S x y).map fun b => .bl (!b)
theorem inB_reading (hK : G.K = X.K) {dx dy : D} {x y : V} {b : Bool} {S : Sto} {η : List Addr} {T F : Hp} (g : GRel G H S η T F) (rx : Rep G η T dx x) (ry : Rep G η T dy y) (e : inB S dx dy = some b) :
    (∀ Q : VK, Q (.bl b) H → ∃ r', OpR X (compareOp .In) r' ∧ r' x y H Q) ∧ (∀ Q : VK, Q (.bl (!b)) H → ∃ r', OpR X (compareOp .NotIn) r' ∧ r' x y H Q) := by
  unfold inB at e
  split at e
  · rename_i s z
    cases rx; cases ry
    split at e
    · rename_i c hc
      have es : s = ⟨#[c]⟩ := Str.ext' (by rw [← Array.toList_inj, hc])
      cases e
      subst es
      exact ⟨fun Q q => ⟨_, op_in_sign, _, _, rfl, rfl, q⟩, fun Q q => ⟨_, op_notIn_sign, _, _, rfl, rfl, q⟩⟩
    · cases e
  · rename_i s _ _
    cases rx
    cases q1 : seqOf S dy with
    | none => rw [q1] at e; cases e
    | some ys =>
      cases q2 : strsOf ys with
      | none => rw [q1] at e; simp [q2] at e
      | some zs =>
        rw [q1] at e
        simp only [Option.bind_some, q2, Option.map_some, Option.some.injEq] at e
        subst e
        obtain ⟨a, vs, rfl, hs, r⟩ := seq_rep hK g ry q1
        have ev := strs_rep r q2
        subst ev
        refine ⟨fun Q q => ⟨_, op_in_seq, a, _, rfl, hs, rfl, flat_strV zs, ?_⟩, fun Q q => ⟨_, op_notIn_seq, a, _, rfl, hs, rfl, flat_strV zs, ?_⟩⟩
        · rw [if_neg (by decide), inV_strs]; exact q
        · rw [if_pos rfl, inV_strs]; exact q
  · cases e
theorem o_in (hK : G.K = X.K) : OpR X (compareOp .In) (r2 G inD) := opR_mk fun x y H Q ⟨S, η, T, F, dx, dy, g, rx, ry, d, e, k⟩ => by
  unfold inD at e
  cases q : inB S dx dy with
  | none => rw [q] at e; cases e
  | some b => rw [q] at e; cases e; exact (inB_reading hK g rx ry q).1 Q (k _ _ _ _ Ext.refl g .bl)
theorem o_notIn (hK : G.K = X.K) : OpR X (compareOp .NotIn) (r2 G notInD) := opR_mk fun x y H Q ⟨S, η, T, F, dx, dy, g, rx, ry, d, e, k⟩ => by
  unfold notInD at e
  cases q : inB S dx dy with
  | none => rw [q] at e; cases e
  | some b => rw [q] at e; cases e; exact (inB_reading hK g rx ry q).2 Q (k _ _ _ _ Ext.refl g .bl)
/-! a chain of two -/
def dChain (f f' : P2) (ma mb mc : Den) : Den := fun ρ S => (ma ρ S).bind fun x S1 => (mb ρ S1).bind fun y S2 => (R.ofO (f S2 x y) S2).bind fun z S3 => match z with
  | .bl true => (mc ρ S3).bind fun w S4 => R.ofO (f' S4 y w) S4
  | .bl false => .ok (.bl false) S3
  | _ => .bad
/-! ## isinstance -/
inductive Ty where
  | non | bl | int | str | lst | tup | own (c : Nat)
  deriving DecidableEq
def Ty.val (G : Gx) : Ty → Value
  | .non => .type "NoneType"
  | .bl => .type "bool"
  | .int => .type "int"
  | .str => .type "str"
  | .lst => .type "list"
  | .tup => .type "tuple"
  | .own c => .ref (G.CA c)
def tyD (S : Sto) : D → Option Ty
  | .non => some .non
  | .bl _ => some .bl
  | .int _ => some .int
  | .str _ => some .str
  | .lst _ => some .lst
  | .tup _ => some .tup
  | .ref l => match S[l]? with
    | some (.lst _) => some .lst
    | some (.ins c _) => some (.own c)
    | _ => none
  | _ => none
def isT : Ty → Ty → Bool
  | .bl, .int => true
  | a, b => decide (a = b)
/-- what isinstance must know of the own classes -/
structure IsOk (G : Gx) (K : PySem.W.Frag) (cs : List Nat) : Prop where
  obj : ∀ c ∈ cs, Cls K (G.CA c) ∧ PySem.W.findIn K (.ref (G.CA c)) "__class__" = some (some (.builtin "object.__class__")) ∧ PySem.W.mroIn K (G.CA c) (.type "object") = some true
  dsc : PySem.W.specialIn K (.builtin "object.__class__") "__get__" = some (some (.builtin "getset_descriptor.__get__")) ∧ PySem.W.takesIn K (.builtin "object.__class__") = some true
  own : ∀ t u : Ty, (∀ c, t = .own c → c ∈ cs) → (∀ c, u = .own c → c ∈ cs) → (∃ c, t = .own c ∨ u = .own c) → PySem.W.kitOne K (t.val G) (u.val G) = some (isT t u)
theorem kit_is {K : PySem.W.Frag} {cs : List Nat} (h : IsOk G K cs) (t u : Ty) (ht : ∀ c, t = .own c → c ∈ cs) (hu : ∀ c, u = .own c → c ∈ cs) (hn : u ≠ .non) : PySem.W.kitOne K (t.val G) (u.val G) = some (isT t u) := by
  cases t <;> cases u <;> first
    | exact absurd rfl hn
    | exact h.own _ _ ht hu ⟨_, .inl rfl⟩
    | exact h.own _ _ ht hu ⟨_, .inr rfl⟩
    | exact kit_ty (by decide +kernel)
theorem ty_of {K : PySem.W.Frag} {cs : List Nat} (hK : G.K = K) (h : IsOk G K cs) {S : Sto} {η : List Addr} {T F : Hp} (g : GRel G H S η T F) {d : D} {v : V} {t : Ty} (r : Rep G η T d v) (e : tyD S d = some t) (ht : ∀ c, t = .own c → c ∈ cs) : TyX K H v (t.val G) := by
  unfold tyD at e
  split at e
  · cases e; cases r; exact .base .non
  · cases e; cases r; exact .base (.bl _)
  · cases e; cases r; exact .base (.int _)
  · cases e; cases r; exact .base (.str _)
  · cases e; cases r with | lst h r => exact .base (.lst (g.sub _ _ h))
  · cases e
    cases r with
    | tup h r =>
      rcases h with h | h
      · rcases h with h | ⟨o, h⟩
        · exact .base (.tup (g.sub _ _ h))
        · exact .fTuple (g.sub _ _ h)
      · obtain ⟨o, its, n, hl, hc, _⟩ := h
        subst hK
        exact .kTuple hl hc
  · cases r with
    | @ref l p hp =>
      split at e
      · rename_i xs hS
        cases e
        obtain ⟨vs, hH, _⟩ := g.obj _ _ p hS hp
        exact .base (.lst hH)
      · rename_i c fs hS
        cases e
        obtain ⟨dx, fv, hH, _⟩ := g.obj _ _ p hS hp
        obtain ⟨h1, h2, h3⟩ := h.obj c (ht c rfl)
        exact .base (.ins hH h1 h2 h.dsc.1 h.dsc.2 h3)
      · cases e
  · cases e
def okTy (cs : List Nat) : Ty → Bool
  | .own c => cs.contains c
  | _ => true
theorem okTy_mem {cs : List Nat} {t : Ty} (h : okTy cs t = true) : ∀ c, t = .own c → c ∈ cs := fun c e => by
  subst e
  simpa [okTy] using h
def isiD (cs : List Nat) (u : Ty) (S : Sto) (d : D) : Option D := (tyD S d).bind fun t => if okTy cs t = true then some (.bl (isT t u)) else none
def isi2D (cs : List Nat) (us : List Ty) (S : Sto) (d : D) : Option D := (tyD S d).bind fun t => if okTy cs t = true then some (.bl (us.any (isT t))) else none
/-- isinstance(x, T): T's name is a built-in's, or a class of the text -/
theorem d_isi {cs : List Nat} {u : Ty} {n : Expr} {uv : V} {p : Pos} (hK : G.K = X.K) (h : IsOk G X.K cs) (hu : okTy cs u = true) (hn : u ≠ .non) (hg : Gl X "isinstance") (hm : X.mg "isinstance" = none) (ha : PE X a (tE G W ma)) (hc : PE X n (tC uv)) (hv : ClsV uv (u.val G))
    (s1 : starEach [a, n] X.env = (false, eval a X.env) :: starEach [n] X.env := by rfl) (s2 : starEach [n] X.env = (false, eval n X.env) :: starEach [] X.env := by rfl) (hpl : (backTo pos (starEach [n] X.env)).any (·.1) = false := by rfl) :
    PE X (.Call (.Name "isinstance" p) [a, n] [] pos) (tE G W (dOp1 (isiD cs u) ma)) :=
  (pe_callB call_isi hg hm (by decide +kernel) (pa_cons ha (pa_cons hc pa_nil s2) s1) (by decide) (by decide) s1 hpl).imp fun σ H Q ⟨ρ, S, η, T, F, fr, g, p⟩ => tE_step fr g p fun d v S1 H1 η1 T1 _ e1 f1 g1 r1 p1 => by
    obtain ⟨d', e, k⟩ := postP_of p1
    unfold isiD at e
    cases q : tyD S1 d with
    | none => rw [q] at e; cases e
    | some t =>
      rw [q] at e
      simp only [Option.bind_some] at e
      split at e
      · rename_i ht
        cases e
        exact ⟨_, _, _, _, _, rfl, hv, ty_of hK h g1 r1 q (okTy_mem ht), kit_is h t u (okTy_mem ht) (okTy_mem hu) hn, k _ _ _ _ Ext.refl g1 .bl⟩
      · cases e
theorem kitAny_is {K : PySem.W.Frag} {cs : List Nat} (h : IsOk G K cs) (t : Ty) (ht : ∀ c, t = .own c → c ∈ cs) : ∀ us : List Ty, (∀ u ∈ us, okTy cs u = true ∧ u ≠ .non) → PySem.W.kitAny K (t.val G) (us.map (Ty.val G)) = some (us.any (isT t))
  | [], _ => rfl
  | u :: r, hu => by
    obtain ⟨h1, h2⟩ := hu u List.mem_cons_self
    refine kitAny_cons (kit_is h t u ht (okTy_mem h1) h2) (fun e => ?_) fun e => ?_
    · rw [kitAny_is h t ht r fun v hv => hu v (List.mem_cons_of_mem _ hv), List.any_cons, e, Bool.false_or]
    · rw [List.any_cons, e, Bool.true_or]
/-- isinstance(x, (T1, T2)) of two built-ins -/
theorem d_isi2 {cs : List Nat} {n1 n2 : Expr} {u1 u2 : Ty} {v1 v2 : V} {p : Pos} {k : Nat} {tp : Pos} (hK : G.K = X.K) (h : IsOk G X.K cs) (hu : okTy cs u1 = true ∧ u1 ≠ .non ∧ okTy cs u2 = true ∧ u2 ≠ .non) (hg : Gl X "isinstance") (hm : X.mg "isinstance" = none) (ha : PE X a (tE G W ma))
    (hc : PE X (.Tuple [n1, n2] k tp) (tTup (tCons (tC v1) (tCons (tC v2) tNil)))) (hv : ClsV v1 (u1.val G) ∧ ClsV v2 (u2.val G))
    (s1 : starEach [a, .Tuple [n1, n2] k tp] X.env = (false, eval a X.env) :: starEach [.Tuple [n1, n2] k tp] X.env := by rfl) (s2 : starEach [.Tuple [n1, n2] k tp] X.env = (false, eval (.Tuple [n1, n2] k tp) X.env) :: starEach [] X.env := by rfl) (hpl : (backTo pos (starEach [.Tuple [n1, n2] k tp] X.env)).any (·.1) = false := by rfl) :
    PE X (.Call (.Name "isinstance" p) [a, .Tuple [n1, n2] k tp] [] pos) (tE G W (dOp1 (isi2D cs [u1, u2]) ma)) :=
  (pe_callB call_isiT hg hm (by decide +kernel) (pa_cons ha (pa_cons hc pa_nil s2) s1) (by decide) (by decide) s1 hpl).imp fun σ H Q ⟨ρ, S, η, T, F, fr, g, p⟩ => tE_step fr g p fun d v S1 H1 η1 T1 _ e1 f1 g1 r1 p1 => by
    obtain ⟨d', e, kk⟩ := postP_of p1
    unfold isi2D at e
    cases q : tyD S1 d with
    | none => rw [q] at e; cases e
    | some t =>
      rw [q] at e
      simp only [Option.bind_some] at e
      split at e
      · rename_i ht
        cases e
        refine ⟨(by show 2 ≤ sizeLine; decide), fun tp hp => ?_⟩
        have gb := g1.beside hp (.tup [v1, v2])
        refine ⟨v, tp, [v1, v2], _, [u1.val G, u2.val G], _, rfl, upd_same, .cons hv.1 (.cons hv.2 .nil), ty_of hK h gb r1 q (okTy_mem ht), ?_, kk _ _ _ _ Ext.refl gb .bl⟩
        exact kitAny_is h t (okTy_mem ht) [u1, u2] fun u hu' => by
          rcases List.mem_cons.mp hu' with e | hu'
          · rw [e]; exact ⟨hu.1, hu.2.1⟩
          · rcases List.mem_cons.mp hu' with e | hu'
            · rw [e]; exact ⟨hu.2.2.1, hu.2.2.2⟩
            · cases hu'
      · cases e
end
end Tok
namespace Tok
open PySem L2

/-! ## defs -/
abbrev DF := List D → Sto → R D
def spD (G : Gx) (n : Nat) (f : DF) : Sp := fun vs H Q E => vs.length = n ∧ ∃ ds S η T F, GRel G H S η T F ∧ Reps G η T ds vs ∧ Post G F (fun cls d _ H => E cls d H) [] (Rep G) (f ds S) η T Q
structure Fn (G : Gx) (P : Program) (w : World) (K : PySem.W.Frag) (mg : Str → Option Value) (base : Heap) (x : Str) (k : Nat) (ps : List Str) (f : DF) : Prop where
  ex : ∃ (fa : Addr) (fd : FuncData), FnOk P w K mg base (L2N.CX P w) k fa fd ps (spD G ps.length f) ∧ mg x = some (.ref fa) ∧ PySem.W.keepIn K (.ref fa) = true ∧ Binds K fd ps []
def startD (n : Nat) (ds : List D) : Env := ds.map some ++ List.replicate (n - ds.length) none
def dFn (n : Nat) (body : DenS) : DF := fun ds S => (body (startD n ds) S).bind fun f S1 => match f with
  | .rt d => .ok d S1
  | .nx _ => .ok .non S1
  | _ => .bad
/-- a wish of exceptions that does not look at the slots -/
def NoSl (W : WX) : Prop := ∀ cls d σ σ' H, W cls d σ H → W cls d σ' H
theorem noSl0 : NoSl W0 := fun _ _ _ _ _ h => h
theorem noSlE {E : XK} : NoSl (fun cls d _ H => E cls d H) := fun _ _ _ _ _ h => h
theorem start_rel {G : Gx} {N : List Str} {ds : List D} {vs : List V} {η : List Addr} {T : Hp} (r : Reps G η T ds vs) : FRel G (startD N.length ds) (L2.start N vs) η T := by
  have hl := r.length
  refine ⟨by unfold startD L2.start; simp [hl], fun i d h => ?_⟩
  unfold startD at h
  by_cases hi : i < ds.length
  · rw [List.getElem?_append_left (by simpa using hi), List.getElem?_map] at h
    cases q : ds[i]? with
    | none => rw [q] at h; cases h
    | some d' =>
      rw [q] at h
      simp at h
      subst h
      obtain ⟨v, hv, rv⟩ := r.get q
      refine ⟨v, ?_, rv⟩
      unfold L2.start
      rw [List.getElem?_append_left (by simp; omega), List.getElem?_map, hv]
      rfl
  · rw [List.getElem?_append_right (by simpa using hi), List.getElem?_replicate] at h
    split at h <;> simp at h
theorem fn_mk {G : Gx} {P : Program} {w : World} {K : PySem.W.Frag} {mg : Str → Option Value} {base : Heap} {x qual : Str} {st : Stmt} {fa : Addr} {fd : FuncData} {N ps : List Str} {k : Nat} {body : DenS} (Ff : Fun K x qual st fa fd) (Sc : FnScope N ps (defScope st))
    (hb : ∀ (cdv : Value) (A : Around) (outer : List PySem.Env) (s : Shared) (H : Hp) (E : XK), Room k (A.deeper (PyProof.Rows.envOfC qual (defScope st) s.heap.objs.size fa cdv)) →
      PSs (cxOf (L2N.CX P w) P w K mg base N qual (defScope st) fa cdv A outer s H E) (defBody st) (tS G (fun cls d _ H => E cls d H) body)) :
    FnOk P w K mg base (L2N.CX P w) (k + 1) fa fd ps (spD G ps.length (dFn N.length body)) := by
  obtain ⟨oc, od, kV, doc, pm, an, cdv, ct, osl, rfl, lk, hcd⟩ := Ff.ex
  refine fn_of lk hcd Sc (fun vs H Q E h => h.1) fun A outer s H vs Q E hr h => ?_
  obtain ⟨hl, ds, S, η, T, F, g, r, p⟩ := h
  refine ⟨_, hb cdv A outer s H E hr, startD N.length ds, S, η, T, F, start_rel r, g, ?_⟩
  unfold dFn at p
  cases e : body (startD N.length ds) S with
  | bad => rw [e] at p; exact p.elim
  | exn c fs S1 => rw [e] at p; exact fun cls dd σ' H' η' T' e' g' x' => p cls dd H' η' T' e' g' x'
  | ok fl S1 =>
    rw [e] at p
    cases fl with
    | nx ρ1 => exact fun σ' H' η' T' e' g' f' => p .non H' η' T' e' g' .non
    | rt d => exact fun v H' η' T' e' g' r' => p v H' η' T' e' g' r'
    | bk ρ1 => exact p.elim
    | ct ρ1 => exact p.elim
/-- a weaker denotation: f' is told where f is -/
theorem fn_imp {G : Gx} {P : Program} {w : World} {K : PySem.W.Frag} {mg : Str → Option Value} {base : Heap} {k n : Nat} {fa : Addr} {fd : FuncData} {ps : List Str} {f f' : DF} (h : FnOk P w K mg base (L2N.CX P w) k fa fd ps (spD G n f))
    (e : ∀ ds S, f' ds S = .bad ∨ f' ds S = f ds S) : FnOk P w K mg base (L2N.CX P w) k fa fd ps (spD G n f') := h.imp fun vs H Q E ⟨hl, ds, S, η, T, F, g, r, p⟩ => by
  refine ⟨hl, ds, S, η, T, F, g, r, ?_⟩
  rcases e ds S with q | q
  · rw [q] at p; exact p.elim
  · rw [q] at p; exact p

section
variable {X : Cx} {G : Gx} {W : WX} {a b c e : Expr} {ma mb mc m : Den} {pos : Pos} {σ : St} {H : Hp} {es : List Expr} {na : DenA} {k : Nat} {ps : List Str} {f : DF} {x : Str}
def dCall (f : DF) (na : DenA) : Den := fun ρ S => (na ρ S).bind f
theorem post_W {α β : Type} {F : Hp} {Rp : List Addr → Hp → α → β → Prop} {r : R α} {η : List Addr} {T : Hp} {Q : β → Hp → Prop} {W' : WX} {σ' : St} (h : Post G F W σ Rp r η T Q) (k : ∀ cls d H, W cls d σ H → W' cls d σ' H) : Post G F W' σ' Rp r η T Q := by
  cases r with
  | ok d S => exact h
  | exn c fs S => exact fun cls dd H' η' T' e g x => k _ _ _ (h cls dd H' η' T' e g x)
  | bad => exact h
theorem d_call {p : Pos} (hf : Fn G X.prog X.w X.K X.mg X.base x k ps f) (hr : Room k X.A) (tk : L2N.Takes X W) (hg : Gl X x) (hn : ps.length = (e :: es).length) (ha : PA X (e :: es) (tA G W na)) (hl : ∀ ρ S ds S1, na ρ S = .ok ds S1 → ds.length = (e :: es).length)
    (hdb : (x == ("__debug__" : Str)) = false := by decide) (he : starEach (e :: es) X.env = (false, eval e X.env) :: starEach es X.env := by rfl) (hpl : (backTo pos (starEach es X.env)).any (·.1) = false := by rfl) : PE X (.Call (.Name x p) (e :: es) [] pos) (tE G W (dCall f na)) := by
  obtain ⟨fa, fd, F1, hm, hk, hb⟩ := hf.ex
  exact (pe_callS F1 hr hg hm hk hb (fun σ => L2N.passAt tk σ) ha hdb he hpl).imp fun σ H Q ⟨ρ, S, η, T, F, fr, g, p⟩ => tA_step fr g p fun d v S1 H1 η1 T1 e0 e1 f1 g1 r1 p1 =>
    ⟨by rw [← r1.length, hl _ _ _ _ e0, hn], d, S1, η1, T1, F, g1, r1, post_W p1 fun _ _ _ h => h⟩
theorem d_call0 {p : Pos} (hf : Fn G X.prog X.w X.K X.mg X.base x k [] f) (hr : Room k X.A) (tk : L2N.Takes X W) (hW : NoSl W) (hg : Gl X x) (hdb : (x == ("__debug__" : Str)) = false := by decide) : PE X (.Call (.Name x p) [] [] pos) (tE G W (dCall f aNil)) := by
  obtain ⟨fa, fd, F1, hm, hk, hb⟩ := hf.ex
  exact (pe_call0 (E := fun cls d H => W cls d [] H) F1 hr hg hm hk hb .nil (L2N.passes_call tk fun _ _ σ _ h => hW _ _ _ _ _ h) hdb).imp fun σ H Q ⟨ρ, S, η, T, F, fr, g, p⟩ =>
    ⟨rfl, [], S, η, T, F, g, .nil, post_W p fun _ _ _ h => hW _ _ _ _ _ h⟩
/-! lengths of argument lists -/
def ALen (na : DenA) (n : Nat) : Prop := ∀ ρ S ds S1, na ρ S = .ok ds S1 → ds.length = n
theorem al_nil : ALen aNil 0 := fun ρ S ds S1 h => by cases h; rfl
theorem al_cons {n : Nat} (h : ALen na n) : ALen (aCons ma na) (n + 1) := fun ρ S ds S1 e => by
  unfold aCons at e
  cases q : ma ρ S with
  | bad => rw [q] at e; cases e
  | exn c fs S => rw [q] at e; cases e
  | ok d S2 =>
    rw [q] at e
    simp only [R.bind_ok] at e
    cases q2 : na ρ S2 with
    | bad => rw [q2] at e; cases e
    | exn c fs S => rw [q2] at e; cases e
    | ok xs S3 =>
      rw [q2] at e
      cases e
      rw [List.length_cons, h _ _ _ _ q2]

/-! ## objects -/
def putD (f : Str) (v : D) : List (Str × D) → List (Str × D)
  | [] => [(f, v)]
  | (g, x) :: r => if g = f then (g, v) :: r else (g, x) :: putD f v r
theorem putF_rep {η : List Addr} {T : Hp} {fl : Str} {d : D} {v : V} (r : Rep G η T d v) : ∀ {fs : List (Str × D)} {fv : List (Str × V)}, RepF G η T fs fv → RepF G η T (putD fl d fs) (putF fl v fv)
  | [], [], _ => ⟨rfl, Reps.one r⟩
  | [], _ :: _, h => by have := h.1; simp at this
  | _ :: _, [], h => by have := h.1; simp at this
  | (g, y) :: fs, (g', y') :: fv, h => by
    obtain ⟨h1, h2⟩ := h
    simp at h1
    obtain ⟨rfl, h1⟩ := h1
    cases h2 with
    | cons ry rr =>
      unfold putD putF
      by_cases e : g' = fl
      · rw [if_pos e, if_pos e]
        exact ⟨by simp [h1], .cons r rr⟩
      · rw [if_neg e, if_neg e]
        obtain ⟨i1, i2⟩ := putF_rep r (fs := fs) (fv := fv) ⟨by simpa using h1, rr⟩
        exact ⟨by simp [i1], .cons ry i2⟩
theorem look_rep {η : List Addr} {T : Hp} {fl : Str} {d : D} : ∀ {fs : List (Str × D)} {fv : List (Str × V)}, RepF G η T fs fv → fs.lookup fl = some d → ∃ v, fv.lookup fl = some v ∧ Rep G η T d v
  | [], _, _, e => by cases e
  | _ :: _, [], h, _ => by have := h.1; simp at this
  | (g, y) :: fs, (g', y') :: fv, h, e => by
    obtain ⟨h1, h2⟩ := h
    simp at h1
    obtain ⟨rfl, h1⟩ := h1
    cases h2 with
    | cons ry rr =>
      rw [List.lookup_cons] at e ⊢
      split at e
      · cases e
        rename_i q
        exact ⟨y', rfl, ry⟩
      · rename_i q
        exact look_rep (fs := fs) (fv := fv) ⟨by simpa using h1, rr⟩ e
theorem look_none {η : List Addr} {T : Hp} {fl : Str} : ∀ {fs : List (Str × D)} {fv : List (Str × V)}, RepF G η T fs fv → fs.lookup fl = none → fv.lookup fl = none
  | [], [], _, _ => rfl
  | [], _ :: _, h, _ => by have := h.1; simp at this
  | _ :: _, [], h, _ => by have := h.1; simp at this
  | (g, y) :: fs, (g', y') :: fv, h, e => by
    obtain ⟨h1, h2⟩ := h
    simp at h1
    obtain ⟨rfl, h1⟩ := h1
    cases h2 with
    | cons ry rr =>
      rw [List.lookup_cons] at e ⊢
      split at e
      · cases e
      · exact look_none (fs := fs) (fv := fv) ⟨by simpa using h1, rr⟩ e
def insOf (S : Sto) (c : Nat) : D → Option (Nat × List (Str × D))
  | .ref l => match S[l]? with
    | some (.ins c' fs) => if c' = c then some (l, fs) else none
    | _ => none
  | _ => none
theorem ins_rep {S : Sto} {η : List Addr} {T F : Hp} {c : Nat} {d : D} {v : V} {l : Nat} {fs : List (Str × D)} (g : GRel G H S η T F) (r : Rep G η T d v) (e : insOf S c d = some (l, fs)) : ∃ p dx fv, d = .ref l ∧ v = .ref p ∧ η[l]? = some p ∧ S[l]? = some (.ins c fs) ∧ H p = some (.ins (G.CA c) dx fv) ∧ RepF G η T fs fv := by
  unfold insOf at e
  split at e
  · cases r with
    | @ref l' p hp =>
      split at e
      · rename_i c' fs' hS
        split at e
        · rename_i hc
          cases e
          subst hc
          obtain ⟨dx, fv, hH, rf⟩ := g.obj _ _ p hS hp
          exact ⟨p, dx, fv, rfl, rfl, hp, hS, hH, rf⟩
        · cases e
      · cases e
  · cases e
/-- o.f -/
def fldD (c : Nat) (fl : Str) : P1 := fun S d => (insOf S c d).bind fun q => q.2.lookup fl
theorem d_fld {c : Nat} {fl : Str} (hc : Cls X.K (G.CA c)) (hn : NoAttr X.K (G.CA c) fl) (h : PE X e (tFld X.K (tE G W m) fl)) : PE X e (tE G W (dOp1 (fldD c fl) m)) := h.imp fun σ H Q ⟨ρ, S, η, T, F, fr, g, p⟩ => tE_step fr g p fun d v S1 H1 η1 T1 _ e1 f1 g1 r1 p1 => by
  obtain ⟨d', q, k⟩ := postP_of p1
  unfold fldD at q
  cases qi : insOf S1 c d with
  | none => rw [qi] at q; cases q
  | some lf =>
    obtain ⟨l, fs⟩ := lf
    rw [qi] at q
    obtain ⟨p, dx, fv, rfl, rfl, hp, hS, hH, rf⟩ := ins_rep g1 r1 qi
    obtain ⟨v, hv, rv⟩ := look_rep rf q
    exact ⟨p, _, dx, fv, v, rfl, hH, hc, hn, hv, k _ _ _ _ Ext.refl g1 rv⟩
/-- o.f = e: e first -/
def sSetF (c : Nat) (fl : Str) (mv mo : Den) : DenS := fun ρ S => (mv ρ S).bind fun v S1 => (mo ρ S1).bind fun o S2 => match insOf S2 c o with
  | some (l, fs) => if fs.length < 1000 then .ok (.nx ρ) (S2.set l (.ins c (putD fl v fs))) else .bad
  | none => .bad
theorem s_setF {c : Nat} {fl : Str} {st : Stmt} {mv mo : Den} (hc : Cls X.K (G.CA c)) (hn : NoAttr X.K (G.CA c) fl) (h : PS X st (sFld X.K (tE G W mo) (tE G W mv) fl)) : PS X st (tS G W (sSetF c fl mv mo)) :=
  h.imp fun E σ H ⟨ρ, S, η, T, F, fr, g, p⟩ => sE_step fr g p fun d v S1 H1 η1 T1 _ e1 f1 g1 r1 p1 => sE_step f1 g1 p1 fun o vo S2 H2 η2 T2 _ e2 f2 g2 r2 p2 => by
    cases qi : insOf S2 c o with
    | none => rw [qi] at p2; exact p2.elim
    | some lf =>
      obtain ⟨l, fs⟩ := lf
      rw [qi] at p2
      dsimp only at p2
      split at p2
      · rename_i hz
        obtain ⟨q, dx, fv, rfl, rfl, hq, hS, hH, rf⟩ := ins_rep g2 r2 qi
        have hl : fs.length = fv.length := by have := congrArg List.length rf.1; simpa using this.symm
        refine ⟨q, _, dx, fv, rfl, hH, hc, hn, by rw [← hl]; exact hz, ?_⟩
        exact p2 σ _ η2 T2 Ext.refl (g2.write hS trivial hq ⟨dx, _, upd_same, putF_rep (r1.mono e2) rf⟩) f2
      · exact p2.elim
/-- C(..) -/
def dMake (c : Nat) (f : DF) (na : DenA) : Den := fun ρ S => (na ρ S).bind fun ds S1 => (f (.ref S1.length :: ds) (S1 ++ [.ins c []])).bind fun d S2 => match d with
  | .non => .ok (.ref S1.length) S2
  | _ => .bad
theorem d_make {c n : Nat} (hW : NoSl W) (hn : ALen na n) (h : PE X e (tMake (G.CA c) (spD G (n + 1) f) [] (fun cls d H => W cls d [] H) (tA G W na))) : PE X e (tE G W (dMake c f na)) := h.imp fun σ H Q ⟨ρ, S, η, T, F, fr, g, p⟩ => tA_step fr g p fun ds vs S1 H1 η1 T1 e0 e1 f1 g1 r1 p1 => fun x dx hx hdx hne => by
  have g2 := g1.beside hdx (.own x)
  have hx2 : (upd H1 dx (.own x)) x = none := by rw [upd_ne (Ne.symm hne)]; exact hx
  have g3 := g2.newLoc (so := .ins c []) hx2 (o := .ins (G.CA c) dx []) ⟨dx, [], upd_same, rfl, .nil⟩
  have hl : (η1 ++ [x])[S1.length]? = some x := by rw [← g1.len]; simp
  refine ⟨by rw [List.length_cons, List.append_nil, ← r1.length, hn _ _ _ _ e0], .ref S1.length :: ds, _, _, T1, F, g3, .cons (.ref hl) (by rw [List.append_nil]; exact r1.mono ext_loc), ?_⟩
  have p2 := post_W (W' := fun cls d _ H => W cls d [] H) (σ' := []) (Post.bind (Rp := Rep G) (p1.mono (ext_loc (p := x)))) fun _ _ _ h => hW _ _ _ _ _ h
  refine p2.imp ?_
  rintro v H2 ⟨d, S2, η2, T2, _, e2, g2', rd, p3⟩
  cases rd with
  | non => exact ⟨rfl, p3.ok g2' (.ref (pre_get e2.pre hl))⟩
  | _ => exact p3.elim
/-- o.m(..), o.m() -/
def dMeth (c : Nat) (mn : Str) (f : DF) (mo : Den) (na : DenA) : Den := fun ρ S => (mo ρ S).bind fun o S1 => match insOf S1 c o with
  | some (_, fs) => if fs.lookup mn = none then (na ρ S1).bind fun ds S2 => f (o :: ds) S2 else .bad
  | none => .bad
theorem d_meth {c n : Nat} {mn : Str} {mo : Den} (hW : NoSl W) (hn : ALen na n) (h : PE X e (tMeth (G.CA c) mn (spD G (n + 1) f) [] (fun cls d H => W cls d [] H) (tE G W mo) (tA G W na))) : PE X e (tE G W (dMeth c mn f mo na)) := h.imp fun σ H Q ⟨ρ, S, η, T, F, fr, g, p⟩ => tE_step fr g p fun d v S1 H1 η1 T1 _ e1 f1 g1 r1 p1 => by
  cases qi : insOf S1 c d with
  | none => rw [qi] at p1; exact p1.elim
  | some lf =>
    obtain ⟨l, fs⟩ := lf
    rw [qi] at p1
    dsimp only at p1
    split at p1
    · rename_i hz
      obtain ⟨q, dx, fv, rfl, rfl, hq, hS, hH, rf⟩ := ins_rep g1 r1 qi
      refine ⟨q, dx, fv, rfl, hH, look_none rf hz, tA_step f1 g1 p1 fun ds vs S2 H2 η2 T2 e0 e2 f2 g2 r2 p2 => ?_⟩
      exact ⟨by rw [List.length_cons, List.append_nil, ← r2.length, hn _ _ _ _ e0], .ref l :: ds, S2, η2, T2, F, g2, .cons (r1.mono e2) (by rw [List.append_nil]; exact r2), post_W p2 fun _ _ _ h => hW _ _ _ _ _ h⟩
    · exact p1.elim
/-- l[i] = e, l.append(e): a list of the store -/
def sSetIx (mv mo mi : Den) : DenS := fun ρ S => (mv ρ S).bind fun v S1 => (mo ρ S1).bind fun o S2 => (mi ρ S2).bind fun i S3 => match o, i with
  | .ref l, .int i => match S3[l]? with
    | some (.lst xs) => match ixN xs.length i with
      | some j => .ok (.nx ρ) (S3.set l (.lst (xs.set j v)))
      | none => .bad
    | _ => .bad
  | _, _ => .bad
theorem s_setIx {st : Stmt} {mv mo mi : Den} (h : PS X st (tAsg (tE G W mv) (gSub (tE G W mo) (tE G W mi) rSetL))) : PS X st (tS G W (sSetIx mv mo mi)) :=
  h.imp fun E σ H ⟨ρ, S, η, T, F, fr, g, p⟩ => sE_step fr g p fun d v S1 H1 η1 T1 _ e1 f1 g1 r1 p1 => sE_step f1 g1 p1 fun o vo S2 H2 η2 T2 _ e2 f2 g2 r2 p2 => sE_step f2 g2 p2 fun i vi S3 H3 η3 T3 _ e3 f3 g3 r3 p3 => by
    split at p3
    · cases r3
      cases (r2.mono e3) with
      | @ref l q hq =>
        split at p3
        · rename_i xs hS
          split at p3
          · rename_i j hj
            obtain ⟨vs, hH, rr⟩ := g3.obj _ _ q hS hq
            refine ⟨q, vs, _, j, rfl, rfl, hH, by rw [← rr.length]; exact hj, ?_⟩
            exact p3 σ _ η3 T3 Ext.refl (g3.write hS trivial hq ⟨_, upd_same, rr.set ((r1.mono e2).mono e3) j⟩) f3
          · exact p3.elim
        · exact p3.elim
    · exact p3.elim
def lstOf (S : Sto) : D → Option (Nat × List D)
  | .ref l => match S[l]? with
    | some (.lst xs) => some (l, xs)
    | _ => none
  | _ => none
def dAppend (mo me : Den) : Den := fun ρ S => (mo ρ S).bind fun o S1 => match lstOf S1 o with
  | some _ => (me ρ S1).bind fun d S2 => match lstOf S2 o with
    | some (l, xs) => if xs.length < sizeLine then .ok .non (S2.set l (.lst (xs ++ [d]))) else .bad
    | none => .bad
  | none => .bad
theorem lst_rep {S : Sto} {η : List Addr} {T F : Hp} {d : D} {v : V} {l : Nat} {xs : List D} (g : GRel G H S η T F) (r : Rep G η T d v) (e : lstOf S d = some (l, xs)) : ∃ p vs, d = .ref l ∧ v = .ref p ∧ η[l]? = some p ∧ S[l]? = some (.lst xs) ∧ H p = some (.lst vs) ∧ Reps G η T xs vs := by
  unfold lstOf at e
  split at e
  · cases r with
    | @ref l' p hp =>
      split at e
      · rename_i xs' hS
        cases e
        obtain ⟨vs, hH, rf⟩ := g.obj _ _ p hS hp
        exact ⟨p, vs, rfl, rfl, hp, hS, hH, rf⟩
      · cases e
  · cases e
theorem d_append {mo me : Den} (h : PE X e (tBM X.K "list" rAppend (tE G W mo) (tCons (tE G W me) tNil))) : PE X e (tE G W (dAppend mo me)) := h.imp fun σ H Q ⟨ρ, S, η, T, F, fr, g, p⟩ => tE_step fr g p fun d v S1 H1 η1 T1 _ e1 f1 g1 r1 p1 => by
  cases qi : lstOf S1 d with
  | none => rw [qi] at p1; exact p1.elim
  | some lx =>
    rw [qi] at p1
    dsimp only at p1
    obtain ⟨p, vs, rfl, rfl, hp, hS, hH, rr⟩ := lst_rep g1 r1 (l := lx.1) (xs := lx.2) qi
    refine ⟨.inl ⟨rfl, _, SqL.of hH⟩, tE_step f1 g1 p1 fun d2 v2 S2 H2 η2 T2 _ e2 f2 g2 r2 p2 => ?_⟩
    cases qi2 : lstOf S2 (.ref lx.1) with
    | none => rw [qi2] at p2; exact p2.elim
    | some lx2 =>
      obtain ⟨l2, xs2⟩ := lx2
      rw [qi2] at p2
      dsimp only at p2
      split at p2
      · rename_i hz
        obtain ⟨p', vs2, e', ev, hp2, hS2, hH2, rr2⟩ := lst_rep g2 (r1.mono e2) qi2
        cases ev
        exact ⟨_, vs2, v2, rfl, rfl, hH2, by rw [← rr2.length]; exact hz, p2 .non _ η2 T2 Ext.refl (g2.write hS2 trivial hp2 ⟨_, upd_same, rr2.append (Reps.one r2)⟩) .non⟩
      · exact p2.elim
/-- raise C('..'), C without an __init__ of its own -/
def sRaise (c : Nat) : DenS := fun _ S => .exn c [] S
theorem s_raise {c : Nat} {st : Stmt} (h : PS X st (fun _ σ H => (fun (_ : St) (H : Hp) (Q : XK) => Q (.ref (G.CA c)) none H) σ H fun cls d H' => W cls d σ H')) : PS X st (tS G W (sRaise c)) :=
  h.imp fun E σ H ⟨ρ, S, η, T, F, fr, g, p⟩ => p _ _ σ H η T Ext.refl g ⟨rfl, rfl⟩
end
end Tok
namespace Tok
open PySem L2

/-! ## first, *others = a list -/
section
variable {X : Cx} {G : Gx} {pins : List (Addr × Obj)} {σ : St} {H : Hp} {s : Shared}
/-- the items of a list behind the first one, in a new list -/
theorem unpack_star1 {E : Value → Shared → Prop} {a : Addr} {x : V} {xs : List V} {Q : List Value → Shared → Prop} (hc : X.calm = true) (I : Inv X pins σ H s) (h : SqL X.K H a (x :: xs))
    (hQ : ∀ u p s', H p = none → RelV x u → Inv X pins σ (upd H p (.lst xs)) s' → Q [u, .ref p] s') : wpAny (model X.prog X.w) X.A (unpackItems (.ref a) 2 (some 1)) Q E s := by
  obtain ⟨its, rv, pl, hz⟩ := I.list h
  cases rv with
  | @cons _ u _ us ru rus =>
  have hL := pl.isList
  have hsz : (u :: us).toArray.size = us.length + 1 := by simp
  have hlen : xs.length = us.length := rus.length
  have hne : a ≠ s.heap.objs.size := by obtain ⟨o, ho, _⟩ := hL; exact Nat.ne_of_lt (Heap.lt_size ho)
  unfold unpackItems notIterableAtAll
  refine wpAny_bind ?_
  refine wpAny_bind (wpAny_specialOf hL.typeIs PySem.F.slot_list_iter.lookup ?_)
  refine wpAny_pure ?_
  rw [if_neg Bool.false_ne_true]
  refine wpAny_bind (wpAny_holding (wpAny_pyIter_list hL ?_))
  refine wpAny_bind (wpAny_holding (PySem.W.kun_draw hne 1 0 _ _ ⟨_, Heap.get?_push_size _ rfl, rfl, rfl⟩ (hL.push _) (by rw [hsz]; omega) fun h1 it1 sb1 => ?_))
  have hL1 : h1.IsList a (u :: us).toArray := (hL.push _).extBut sb1.extBut hne
  obtain ⟨oi, hoi, _⟩ := id it1
  obtain ⟨ol, hol, _⟩ := id hL1
  have e1 : (((u :: us).toArray.toList.drop 0).take 1) = [u] := by simp
  rw [e1]
  show wpAny _ _ (if ([u] : List Value).length < 1 then _ else _) _ _ _
  rw [if_neg (by simp)]
  refine wpAny_bind (wpAny_holding (PySem.W.kun_collect (s := { s with heap := h1 }) (T := "list_iterator") (k := 1) (.inr (.inr (.inl rfl))) (Walks.list (A := X.A.in1) (show X.A.in1.handled = none from I.ok.hd hc) s.heap.objs.size a hne (u :: us).toArray) (fun _ _ st => st.1.typeIs) (by rw [hsz]; omega) ⟨it1, hL1⟩ (Heap.lt_size hoi) (Heap.lt_size hol) (fun h2 tk hk => ?_)
    (by rw [hsz]; have := hz; simp at this; omega)))
  have e2 : (u :: us).toArray.toList.drop 1 = us := by simp
  rw [e2]
  show wpAny _ _ (if us.length < 2 - 1 - 1 then _ else _) _ _ _
  rw [if_neg (by simp)]
  have kept : ∀ b o, s.heap.get? b = some o → h2.get? b = some o := fun b o e => hk b o (Nat.ne_of_lt (Heap.lt_size e)) (sb1.extBut b o (Nat.ne_of_lt (Heap.lt_size e)) (Heap.get?_push_of_some _ e))
  have I2 : Inv X pins σ H { s with heap := h2, toks := tk } := I.kept kept
  have e3 : us.take (us.length - (2 - 1 - 1)) = us := by simp
  have e4 : us.drop (us.length - (2 - 1 - 1)) = [] := by simp
  show wpAny _ _ (newList (us.take (us.length - (2 - 1 - 1))) >>= fun d => pure ([u] ++ [d] ++ us.drop (us.length - (2 - 1 - 1)))) _ _ _
  rw [e3, e4]
  have hz' : us.length ≤ sizeLine := by have := hz; simp at this; omega
  refine wpAny_bind (wpAny_newObj_type ?_ hz')
  refine wpAny_pure ?_
  exact hQ u h2.objs.size _ (I2.hok.fresh (Nat.le_refl _)) ru (I2.lnew (t' := tk) rus (by omega))
end
section
variable {X : Cx} {G : Gx} {W : WX} {a b c e : Expr} {ma mb mc m : Den} {pos : Pos} {σ : St} {H : Hp} {es : List Expr} {na : DenA} {vl : List Nat}
def tgStar (t u : Tgt) : Tgt := fun d ρ => match d with
  | .lst (x :: xs) => (t x ρ).bind fun ρ1 => u (.lst xs) ρ1
  | _ => none
theorem g_star {e1 e2 : Expr} {sp : Pos} {k : Nat} {t u : Tgt} (hc : X.calm = true) (h1 : PG X e1 (tG G vl t)) (h2 : PG X e2 (tG G vl u))
    (ha : assignEach [e1, .Starred e2 sp] X.env = [(false, assign e1 X.env), (true, assign e2 X.env)] := by rfl) : PG X (.Tuple [e1, .Starred e2 sp] k pos) (tG G vl (tgStar t u)) := by
  refine ⟨fun pins s σ H v uv Q I r hw => ?_⟩
  obtain ⟨ρ, S, η, T, F, d, ρ', f, g, rd, e, kk⟩ := hw
  unfold tgStar at e
  split at e
  · rename_i x xs
    cases rd with
    | @lst p vs _ hT rr =>
      cases rr with
      | @cons _ y _ ys ry rys =>
        cases r
        cases q : t x ρ with
        | none => rw [q] at e; cases e
        | some ρ1 =>
          rw [q] at e
          rw [PyProof.Rows.assign_Tuple]
          refine wpAny_bind (wpAny_standAt ?_)
          unfold unpack
          rw [ha]
          refine wpAny_bind (wpAny_holding (unpack_star1 hc I (SqL.of (g.sub _ _ hT)) fun w p' s' hp rw' I' => ?_))
          have ex : Ext η T η (upd T p' (.lst ys)) := ext_fresh (g.tnone hp)
          have g' := g.fresh hp (.lst ys)
          show wpAny _ _ (assignInOrder [assign e1 X.env, assign e2 X.env] [w, .ref p']) _ _ _
          refine PyProof.Rows.assignInOrder_cons (thn (h1.run pins s' σ _ y w (fun σ1 H1 => ∃ η1 T1, Ext η (upd T p' (.lst ys)) η1 T1 ∧ GRel G H1 S η1 T1 F ∧ FRel G ρ1 σ1 η1 T1 ∧ wipe σ1 vl = wipe σ vl) I' rw' ⟨ρ, S, η, _, F, x, ρ1, f.mono ex, g', ry.mono ex, q, fun σ1 H1 η1 T1 e1 g1 f1 w1 => ⟨η1, T1, e1, g1, f1, w1⟩⟩) fun _ s1 ⟨σ1, H1, I1, η1, T1, e1, g1, f1, w1⟩ => ?_)
          refine PyProof.Rows.assignInOrder_cons (thn (h2.run pins s1 σ1 H1 (.ref p') (.ref p') Q I1 rfl ⟨ρ1, S, η1, T1, F, .lst xs, ρ', f1, g1, (rep_lst upd_same (rys.mono ex)).mono e1, e, fun σ2 H2 η2 T2 e2 g2 f2 w2 => kk σ2 H2 η2 T2 ((ex.trans e1).trans e2) g2 f2 (w2.trans w1)⟩) fun _ s2 q2 => PyProof.Rows.assignInOrder_nil q2)
  · cases e

/-! ## a, b = x, y: stored from the right -/
def sPar (i j : Nat) (na : DenA) : DenS := fun ρ S => (na ρ S).bind fun ds S1 => match ds with
  | [d, e] => .ok (.nx ((ρ.set i (some d)).set j (some e))) S1
  | _ => .bad
theorem s_par {st : Stmt} {i j : Nat} (h : PS X st (tPar i j (tA G W na))) : PS X st (tS G W (sPar i j na)) := h.imp fun E σ H ⟨ρ, S, η, T, F, f, g, p⟩ => by
  refine ⟨ρ, S, η, T, F, f, g, (PostS.bind (Rp := Reps G) p).imp fun vs H1 ⟨ds, S1, η1, T1, e0, e1, g1, r1, p1⟩ => ?_⟩
  split at p1
  · cases r1 with | cons r r' => cases r' with | cons r2 r' => cases r'; exact ⟨_, _, rfl, p1 _ H1 η1 T1 Ext.refl g1 (((f.mono e1).set i r).set j r2)⟩
  · exact p1.elim
def sPar3 (i j l : Nat) (na : DenA) : DenS := fun ρ S => (na ρ S).bind fun ds S1 => match ds with
  | [d, e, f] => .ok (.nx (((ρ.set i (some d)).set j (some e)).set l (some f))) S1
  | _ => .bad
theorem s_par3 {st : Stmt} {i j l : Nat} (h : PS X st (tPar3 i j l (tA G W na))) : PS X st (tS G W (sPar3 i j l na)) := h.imp fun E σ H ⟨ρ, S, η, T, F, f, g, p⟩ => by
  refine ⟨ρ, S, η, T, F, f, g, (PostS.bind (Rp := Reps G) p).imp fun vs H1 ⟨ds, S1, η1, T1, e0, e1, g1, r1, p1⟩ => ?_⟩
  split at p1
  · cases r1 with | cons r r' => cases r' with | cons r2 r' => cases r' with | cons r3 r' => cases r'; exact ⟨_, _, _, rfl, p1 _ H1 η1 T1 Ext.refl g1 ((((f.mono e1).set i r).set j r2).set l r3)⟩
  · exact p1.elim

/-! ## chains, names of the module -/
theorem d_chain {f f' : P2} (h : PE X e (tChain (r2 G f) (r2 G f') (tE G W ma) (tE G W mb) (tE G W mc))) : PE X e (tE G W (dChain f f' ma mb mc)) :=
  h.imp fun σ H Q ⟨ρ, S, η, T, F, fr, g, p⟩ => tE_step fr g p fun d v S1 H1 η1 T1 _ e1 f1 g1 r1 p1 => tE_step f1 g1 p1 fun d2 v2 S2 H2 η2 T2 _ e2 f2 g2 r2 p2 => by
    refine ⟨S2, η2, T2, F, d, d2, g2, r1.mono e2, r2, ?_⟩
    cases q : f S2 d d2 with
    | none => rw [q] at p2; exact p2.elim
    | some z =>
      rw [q] at p2
      refine ⟨z, rfl, fun v H' η' T' e' g' rz => ?_⟩
      have p3 := p2.mono e'
      cases rz with
      | @bl b =>
        refine ⟨b, rfl, ?_⟩
        cases b with
        | true =>
          rw [if_pos rfl]
          exact tE_step (f2.mono e') g' p3 fun d4 v4 S4 H4 η4 T4 _ e4 f4 g4 r4 p4 => ⟨S4, η4, T4, F, d2, d4, g4, (r2.mono e').mono e4, r4, postP_of p4⟩
        | false =>
          rw [if_neg (by decide)]
          exact p3.ok g' .bl
      | _ => exact p3.elim
def GlobC (G : Gx) (mg : Str → Option Value) (x : Str) (d : D) : Prop := ∃ u v, mg x = some u ∧ RelV v u ∧ ∀ η T, Rep G η T d v
theorem d_glob {x : Str} {d : D} (h : GlobC G X.mg x d) (hg : Gl X x) (hd : (x == ("__debug__" : Str)) = false := by decide) : PE X (.Name x pos) (tE G W (dC d)) := by
  obtain ⟨u, v, hm, r, rp⟩ := h
  exact d_of (pe_glob hg hm r hd) rp
theorem globC_str {mg : Str → Option Value} {x s : Str} {t : Tok} (h : mg x = some (.str s t)) : GlobC G mg x (.str s) := ⟨_, .str s, h, ⟨t, rfl⟩, fun _ _ => .str⟩
theorem globC_int {mg : Str → Option Value} {x : Str} {i : Int} {t : Tok} (h : mg x = some (.int i t)) : GlobC G mg x (.int i) := ⟨_, .int i, h, ⟨t, rfl⟩, fun _ _ => .int⟩
/-- a tuple of the module's top -/
theorem rep_topT {K : PySem.W.Frag} (hK : G.K = K) {a : Addr} {dd : Option Addr} {us : List Value} {n : Nat} {sl : Array (Option Value)} {ds : List D} {vs : List V} (h : K.lookup a = some ⟨.type "tuple", dd, .seq us.toArray n, sl⟩) (hz : us.length ≤ sizeLine) (hv : Vals vs us) (hr : ∀ η T, Reps G η T ds vs) (η : List Addr) (T : Hp) : Rep G η T (.tup ds) (.ref a) := by
  subst hK
  exact .tup (.inr ⟨_, us.toArray, n, h, rfl, rfl, by simpa using hz, by simpa using hv⟩) (hr η T)
theorem globC_tup {K : PySem.W.Frag} {mg : Str → Option Value} (hK : G.K = K) {x : Str} {a : Addr} {dd : Option Addr} {us : List Value} {n : Nat} {sl : Array (Option Value)} {ds : List D} {vs : List V} (hm : mg x = some (.ref a)) (h : K.lookup a = some ⟨.type "tuple", dd, .seq us.toArray n, sl⟩) (hz : us.length ≤ sizeLine) (hv : Vals vs us) (hr : ∀ η T, Reps G η T ds vs) : GlobC G mg x (.tup ds) :=
  ⟨_, .ref a, hm, rfl, rep_topT hK h hz hv hr⟩

/-! ## enumerate, zip -/
theorem fresh_pair {S : Sto} {η : List Addr} {T F : Hp} {p : Addr} {x y : V} {dx dy : D} (g : GRel G H S η T F) (hp : H p = none) (rx : Rep G η T dx x) (ry : Rep G η T dy y) : ∃ η2 T2, Ext η T η2 T2 ∧ GRel G (upd H p (.tup [x, y])) S η2 T2 F ∧ Rep G η2 T2 (.tup [dx, dy]) (.ref p) := by
  have ex : Ext η T η (upd T p (.tup [x, y])) := ext_fresh (g.tnone hp)
  exact ⟨η, _, ex, g.fresh hp _, rep_tup upd_same (.cons (rx.mono ex) (.cons (ry.mono ex) .nil))⟩
def enumD (k : Nat) : List D → List D
  | [] => []
  | d :: ds => .tup [.int (k : Int), d] :: enumD (k + 1) ds
theorem enumD_len (ds : List D) : ∀ k, (enumD k ds).length = ds.length := by
  induction ds with
  | nil => intro k; rfl
  | cons d r ih => intro k; unfold enumD; rw [List.length_cons, List.length_cons, ih]
theorem enumD_get : ∀ (ds : List D) (k i : Nat) (d : D), (enumD k ds)[i]? = some d → ∃ x, ds[i]? = some x ∧ d = .tup [.int ((k + i : Nat) : Int), x]
  | [], _, _, _, h => by simp [enumD] at h
  | x :: r, k, 0, d, h => by
    simp [enumD] at h
    exact ⟨x, rfl, by rw [← h]; rfl⟩
  | x :: r, k, i + 1, d, h => by
    simp only [enumD, List.getElem?_cons_succ] at h
    obtain ⟨y, h1, h2⟩ := enumD_get r (k + 1) i d h
    exact ⟨y, by simpa using h1, by rw [h2]; congr 3; omega⟩
def iEnumD (m : DenA) : DenI := fun ρ S => (m ρ S).bind fun ds S1 => match ds with
  | [.lst xs] => .ok (enumD 0 xs) S1
  | _ => .bad
theorem i_enum {tg x : Expr} (hK : G.K = X.K) (h : PI X tg x (iEnum X.K (tA G W na))) : PI X tg x (tI G W (iEnumD na)) := h.imp fun σ H Q ⟨ρ, S, η, T, F, f, g, p⟩ => tA_step f g p fun d v S1 H1 η1 T1 _ e1 f1 g1 r1 p1 => by
  split at p1
  · rename_i xs
    cases r1 with
    | cons r rr =>
      cases rr
      cases r with
      | @lst a vs _ hT r =>
        refine ⟨a, vs, rfl, SqL.of (g1.sub _ _ hT), p1 _ H1 η1 T1 Ext.refl g1 ?_⟩
        intro η2 T2 H2 S2 F2 i e2 g2 _
        have key : SqL X.K H2 a vs := SqL.of (g2.sub _ _ (e2.sub _ _ hT))
        refine ⟨fun hl => ⟨vs, key, by rw [← r.length]; simpa [enumD_len] using hl⟩, fun d hd => ?_⟩
        obtain ⟨x, hx, rfl⟩ := enumD_get _ _ _ _ hd
        obtain ⟨v, hv, rv⟩ := r.get hx
        refine ⟨⟨vs, v, key, hv⟩, fun y H3 hy => ?_⟩
        obtain ⟨p, z, rfl, hp, rfl, hz⟩ := hy
        have := hz vs key
        rw [hv] at this; cases this
        simpa using fresh_pair g2 hp (dx := .int ((i : Nat) : Int)) .int (rv.mono e2)
  · exact p1.elim
def zipD : List D → List D → List D
  | x :: xs, y :: ys => .tup [x, y] :: zipD xs ys
  | _, _ => []
theorem zipD_get : ∀ (xs ys : List D) (i : Nat) (d : D), (zipD xs ys)[i]? = some d → ∃ x y, xs[i]? = some x ∧ ys[i]? = some y ∧ d = .tup [x, y]
  | [], _, _, _, h => by simp [zipD] at h
  | _ :: _, [], _, _, h => by simp [zipD] at h
  | x :: xs, y :: ys, 0, d, h => by
    simp [zipD] at h
    exact ⟨x, y, rfl, rfl, h.symm⟩
  | x :: xs, y :: ys, i + 1, d, h => by
    simp only [zipD, List.getElem?_cons_succ] at h
    obtain ⟨a, b, h1, h2, h3⟩ := zipD_get xs ys i d h
    exact ⟨a, b, by simpa using h1, by simpa using h2, h3⟩
theorem zipD_len : ∀ (xs ys : List D) (i : Nat), (zipD xs ys).length ≤ i → xs.length ≤ i ∨ ys.length ≤ i
  | [], _, _, _ => .inl (Nat.zero_le _)
  | _ :: _, [], _, _ => .inr (Nat.zero_le _)
  | x :: xs, y :: ys, 0, h => by simp [zipD] at h
  | x :: xs, y :: ys, i + 1, h => by
    simp only [zipD, List.length_cons] at h
    rcases zipD_len xs ys i (by omega) with h | h
    · exact .inl (by simp; omega)
    · exact .inr (by simp; omega)
def iZipD (m : DenA) : DenI := fun ρ S => (m ρ S).bind fun ds S1 => match ds with
  | [.lst xs, .lst ys] => .ok (zipD xs ys) S1
  | [.tup xs, .tup ys] => .ok (zipD xs ys) S1
  | _ => .bad
theorem i_zip {tg x : Expr} (hK : G.K = X.K) (h : PI X tg x (RZ.iZipA X.K (tA G W na))) : PI X tg x (tI G W (iZipD na)) := h.imp fun σ H Q ⟨ρ, S, η, T, F, f, g, p⟩ => tA_step f g p fun d v S1 H1 η1 T1 _ e1 f1 g1 r1 p1 => by
  split at p1
  · cases r1 with
    | cons r rr =>
      cases rr with
      | cons r' rr =>
      cases rr
      cases r with
      | @lst a vs _ hT r =>
      cases r' with
      | @lst b us _ hU r' =>
        refine ⟨a, b, vs, us, rfl, .inl ⟨SqL.of (g1.sub _ _ hT), SqL.of (g1.sub _ _ hU), p1 _ H1 η1 T1 Ext.refl g1 ?_⟩⟩
        intro η2 T2 H2 S2 F2 i e2 g2 _
        have k1 : SqL X.K H2 a vs := SqL.of (g2.sub _ _ (e2.sub _ _ hT))
        have k2 : SqL X.K H2 b us := SqL.of (g2.sub _ _ (e2.sub _ _ hU))
        refine ⟨fun hl => ⟨vs, us, k1, k2, by rw [← r.length, ← r'.length]; exact zipD_len _ _ _ hl⟩, fun d hd => ?_⟩
        obtain ⟨x, y, hx, hy, rfl⟩ := zipD_get _ _ _ _ hd
        obtain ⟨v, hv, rv⟩ := r.get hx
        obtain ⟨u, hu, ru⟩ := r'.get hy
        refine ⟨⟨vs, us, v, u, k1, k2, hv, hu⟩, fun z H3 hz => ?_⟩
        obtain ⟨p, v', u', rfl, hp, rfl, q1, q2⟩ := hz
        have q1 := q1 vs k1
        have q2 := q2 us k2
        rw [hv] at q1; cases q1
        rw [hu] at q2; cases q2
        exact fresh_pair g2 hp (rv.mono e2) (ru.mono e2)
  · cases r1 with
    | cons r rr =>
      cases rr with
      | cons r' rr =>
      cases rr
      cases r with
      | @tup a vs _ hT r =>
      cases r' with
      | @tup b us _ hU r' =>
        refine ⟨a, b, vs, us, rfl, .inr ⟨sqT_up hK g1 hT, sqT_up hK g1 hU, p1 _ H1 η1 T1 Ext.refl g1 ?_⟩⟩
        intro η2 T2 H2 S2 F2 i e2 g2 _
        have k1 : SqT X.K H2 a vs := sqT_up hK g2 (sqT_mono e2.sub hT)
        have k2 : SqT X.K H2 b us := sqT_up hK g2 (sqT_mono e2.sub hU)
        refine ⟨fun hl => ⟨vs, us, k1, k2, by rw [← r.length, ← r'.length]; exact zipD_len _ _ _ hl⟩, fun d hd => ?_⟩
        obtain ⟨x, y, hx, hy, rfl⟩ := zipD_get _ _ _ _ hd
        obtain ⟨v, hv, rv⟩ := r.get hx
        obtain ⟨u, hu, ru⟩ := r'.get hy
        refine ⟨⟨vs, us, v, u, k1, k2, hv, hu⟩, fun z H3 hz => ?_⟩
        obtain ⟨p, v', u', rfl, hp, rfl, q1, q2⟩ := hz
        have q1 := q1 vs k1
        have q2 := q2 us k2
        rw [hv] at q1; cases q1
        rw [hu] at q2; cases q2
        exact fresh_pair g2 hp (rv.mono e2) (ru.mono e2)
  · exact p1.elim
end
end Tok
namespace Tok
open PySem L2

/-! ## methods of texts -/
abbrev PM := Str → List D → Option D
def rMs (G : Gx) (f : PM) : V → List V → Hp → VK → Prop := fun x xs H Q => ∃ S η T F z ds, GRel G H S η T F ∧ x = .str z ∧ Reps G η T ds xs ∧ PostP G F S (f z ds) η T Q
section
variable {X : Cx} {G : Gx} {W : WX} {a b c e : Expr} {ma mb mc m : Den} {pos : Pos} {σ : St} {H : Hp} {es : List Expr} {na : DenA}
def dStrM (f : PM) (mo : Den) (na : DenA) : Den := fun ρ S => (mo ρ S).bind fun o S1 => match o with
  | .str z => (na ρ S1).bind fun ds S2 => R.ofO (f z ds) S2
  | _ => .bad
theorem d_strM {f : PM} {mo : Den} (h : PE X e (tBM X.K "str" (rMs G f) (tE G W mo) (tA G W na))) : PE X e (tE G W (dStrM f mo na)) := h.imp fun σ H Q ⟨ρ, S, η, T, F, fr, g, p⟩ => tE_step fr g p fun d v S1 H1 η1 T1 _ e1 f1 g1 r1 p1 => by
  cases r1 with
  | str => exact ⟨rfl, tA_step f1 g1 p1 fun ds vs S2 H2 η2 T2 _ e2 f2 g2 r2 p2 => ⟨S2, η2, T2, F, _, ds, g2, rfl, r2, postP_of p2⟩⟩
  | _ => exact p1.elim
theorem reps_strs {η : List Addr} {T : Hp} : ∀ ys : List Str, Reps G η T (ys.map D.str) (ys.map V.str)
  | [] => .nil
  | _ :: r => .cons .str (reps_strs r)
def splitD : PM := fun z ds => match ds with
  | [.str b] => if (b.length == 0) = false ∧ z.length + 2 ≤ sizeLine then some (.lst ((Txt.split z b).map .str)) else none
  | _ => none
theorem m_split : MtR X "str.split" (rMs G splitD) := mtR_mk fun x xs H Q ⟨S, η, T, F, z, ds, g, ex, rx, d, e, k⟩ => by
  subst ex
  unfold splitD at e
  split at e
  · cases rx with | cons r rr => cases rr; cases r; exact (by
      split at e
      · rename_i hz
        cases e
        exact ⟨_, mt_split, _, _, rfl, rfl, hz.1, hz.2, newL k g (reps_strs _)⟩
      · cases e)
  · cases e
def joinL (a : Str) (xs : List D) : Option D := (strsOf xs).bind fun ys => if (ys.map (·.length)).sum + ys.length * a.length ≤ 16777216 then some (.str (Txt.join a ys)) else none
def joinD : PM := fun a ds => match ds with
  | [.lst xs] => joinL a xs
  | [.tup xs] => joinL a xs
  | _ => none
theorem joinL_some {a : Str} {xs : List D} {d : D} (e : joinL a xs = some d) : ∃ ys, strsOf xs = some ys ∧ (ys.map (·.length)).sum + ys.length * a.length ≤ 16777216 ∧ d = .str (Txt.join a ys) := by
  unfold joinL at e
  cases q : strsOf xs with
  | none => rw [q] at e; cases e
  | some ys =>
    rw [q] at e
    simp only [Option.bind_some] at e
    split at e
    · rename_i hz; cases e; exact ⟨ys, rfl, hz, rfl⟩
    · cases e
theorem m_join (hK : G.K = X.K) : MtR X "str.join" (rMs G joinD) := mtR_mk fun x xs H Q ⟨S, η, T, F, z, ds, g, ex, rx, d, e, k⟩ => by
  subst ex
  unfold joinD at e
  split at e
  · cases rx with | cons r rr => cases rr; cases r with | lst h r =>
      obtain ⟨ys, q, hz, rfl⟩ := joinL_some e
      have ev := strs_rep r q
      subst ev
      exact ⟨_, mt_join, _, _, ys, rfl, rfl, .inl (SqL.of (g.sub _ _ h)), hz, k _ _ _ _ Ext.refl g .str⟩
  · cases rx with | cons r rr => cases rr; cases r with | tup h r =>
      obtain ⟨ys, q, hz, rfl⟩ := joinL_some e
      have ev := strs_rep r q
      subst ev
      exact ⟨_, mt_join, _, _, ys, rfl, rfl, .inr (sqT_up hK g h), hz, k _ _ _ _ Ext.refl g .str⟩
  · cases e

/-! ## f'{x} {y}' -/
def fmtD : P1 := fun _ d => match d with
  | .str y => if y.length ≤ sizeLine then some (.str y) else none
  | _ => none
theorem d_fmt (h : PE X e (tE G W m)) : PE X (.FormattedValue e (-1) none pos) (tE G W (dOp1 fmtD m)) := (pe_fmt h).imp fun σ H Q ⟨ρ, S, η, T, F, fr, g, p⟩ => tE_step fr g p fun d v S1 H1 η1 T1 _ e1 f1 g1 r1 p1 => by
  obtain ⟨d', q, k⟩ := postP_of p1
  unfold fmtD at q
  split at q
  · cases r1
    split at q
    · rename_i hz
      cases q
      exact .inl ⟨_, rfl, hz, k _ _ _ _ Ext.refl g1 .str⟩
    · cases q
  · cases q
def dJs : List Den → Str → Den
  | [], acc => fun _ S => .ok (.str acc) S
  | m :: ms, acc => fun ρ S => (m ρ S).bind fun d S1 => match d with
    | .str y => if (acc ++ y).length ≤ sizeLine then dJs ms (acc ++ y) ρ S1 else .bad
    | _ => .bad
theorem js_reading : ∀ (ms : List Den) (acc : Str) (σ : St) (H : Hp) (Q : VK), tE G W (dJs ms acc) σ H Q → tJs (ms.map (tE G W)) acc σ H (fun out H1 => Q (.str out) H1)
  | [], acc, σ, H, Q, ⟨ρ, S, η, T, F, fr, g, p⟩ => p.ok g .str
  | m :: ms, acc, σ, H, Q, ⟨ρ, S, η, T, F, fr, g, p⟩ => by
    refine tE_step fr g p fun d v S1 H1 η1 T1 _ e1 f1 g1 r1 p1 => ?_
    split at p1
    · rename_i y _
      cases r1
      split at p1
      · rename_i hz
        exact ⟨y, rfl, hz, js_reading ms _ σ H1 Q ⟨ρ, S1, η1, T1, F, f1, g1, p1⟩⟩
      · exact p1.elim
    · exact p1.elim
theorem d_joined {v1 v2 : Expr} {rest : List Expr} {ms : List Den} (h : PJ X (v1 :: v2 :: rest) (ms.map (tE G W))) : PE X (.JoinedStr (v1 :: v2 :: rest) pos) (tE G W (dJs ms Str.empty)) := (pe_joined h).imp fun σ H Q => js_reading ms Str.empty σ H Q

/-! ## x[i].replace('a', 'b') -/
def replD (y z : Str) : P1 := fun _ d => match d with
  | .str x => if x.length + (x.length + 1) * z.length ≤ 16777216 then some (.str (Txt.replace x y z)) else none
  | _ => none
theorem d_replIx {y z : Str} {i : Int} {j j1 j2 : Nat} {cp sp apos c0 c1 : Pos} (hK : G.K = X.K) (ha : PE X a (tE G W ma)) (hyz : (y == z) = false := by decide)
    (hst : starEach [.Constant (.str y) j1 c0, .Constant (.str z) j2 c1] X.env = [(false, eval (.Constant (.str y) j1 c0) X.env), (false, eval (.Constant (.str z) j2 c1) X.env)] := by rfl)
    (hbase : attributeBase (.Subscript a (.Constant (.int i) j cp) sp) "replace" X.env (eval (.Subscript a (.Constant (.int i) j cp) sp) X.env) = eval (.Subscript a (.Constant (.int i) j cp) sp) X.env := by rfl) (hline : (apos.endLine == pos.line) = true := by rfl) :
    PE X (.Call (.Attribute (.Subscript a (.Constant (.int i) j cp) sp) "replace" apos) [.Constant (.str y) j1 c0, .Constant (.str z) j2 c1] [] pos) (tE G W (dOp1 (replD y z) (dOp2 ixD ma (dC (.int i))))) := by
  refine ⟨fun pins s σ H Q I h => ?_⟩
  -- the receiver: behind it a token is given out
  have recv : wpAny (model X.prog X.w) X.A (eval (.Subscript a (.Constant (.int i) j cp) sp) X.env) (fun u s' => 1 ≤ s'.toks ∧ EP X pins σ (fun x H' => r1 G (replD y z) x H' Q) u s') X.xe s := by
    obtain ⟨ρ, S, η, T, F, fr, g, p⟩ := h
    refine PyProof.Rows.Subscript_ ?_
    have h1 : tE G W ma σ H fun x H1 => r2 G ixD x (.int i) H1 fun x' H' => r1 G (replD y z) x' H' Q := by
      have p' : Post G F W σ (Rep G) ((ma ρ S).bind fun d S1 => (R.ofO (ixD S1 d (.int i)) S1).bind fun d' S2 => R.ofO (replD y z S2 d') S2) η T Q := by
        have : (dOp1 (replD y z) (dOp2 ixD ma (dC (.int i)))) ρ S = (ma ρ S).bind fun d S1 => (R.ofO (ixD S1 d (.int i)) S1).bind fun d' S2 => R.ofO (replD y z S2 d') S2 := by
          unfold dOp1 dOp2 dC
          rw [R.bind_assoc]
          rfl
        rw [this] at p
        exact p
      refine tE_step fr g p' fun d v S1 H1 η1 T1 _ e1 f1 g1 r1 p1 => ?_
      cases q : ixD S1 d (.int i) with
      | none => rw [q] at p1; exact p1.elim
      | some d' =>
        rw [q] at p1
        exact ⟨S1, η1, T1, F, d, .int i, g1, r1, .int, d', q, fun v H' η' T' e' g' r' => ⟨S1, η', T', F, d', g', r', postP_of (p1.mono e')⟩⟩
    refine thn (ha.run pins s σ H _ I h1) fun v s1 ⟨x, H1, I1, rx, q1⟩ => ?_
    refine wpAny_Constant_int ?_
    have I2 := I1.tok (s1.toks + 1)
    refine wpAny_mono (PySem.wpAny_toks (i_ix hK a (.Constant (.int i) j cp) pins _ σ H1 x (.int i) v (.int i s1.toks) _ I2 rx ⟨_, rfl⟩ q1 rfl)) (fun u s2 hu => ⟨?_, hu.2⟩) fun _ _ z => z.2
    have := hu.1
    show 1 ≤ s2.toks
    have h3 : s1.toks + 1 ≤ s2.toks := this
    omega
  refine PySem.Call_method2 hbase hst hline (thn recv fun v s1 ⟨ht, x, H1, I1, rx, q1⟩ => ?_)
  obtain ⟨S, η, T, F, dx, g, rdx, d', e, k⟩ := q1
  unfold replD at e
  split at e
  · cases rdx
    split at e
    · rename_i hz
      cases e
      obtain ⟨tx, rfl⟩ := rx
      refine ⟨"str", _, PySem.F.plainAttrs_str, PySem.F.slot_str_replace, PySem.F.type_str_replace, typeIs_str _ _ _, (fun _ e => nomatch e), Calls.callWith_builtin rfl (Calls.evalArgs_plain (Calls.spliced_cons (Calls.Constant_str (Calls.spliced_cons (Calls.Constant_str (Calls.spliced_nil ?_))))))⟩
      exact PySem.SC.replace (by show s1.toks ≠ 0; omega) (by show s1.toks + 1 ≠ 0; omega) (by show s1.toks ≠ s1.toks + 1; omega) hyz hz fun t' kk => ⟨.str _, H1, I1.tok kk, ⟨t', rfl⟩, k _ _ _ _ Ext.refl g .str⟩
    · cases e
  · cases e

/-! ## raise C(e), C.__init__ keeping e in one field -/
/-- B.__init__(self, ..), B an own class over ValueError -/
theorem pe_binit {C0 : Addr} {x : Str} {p1 p2 : Pos} {ta : TA} {pl : Sem Bool} (hg : Gl X x) (hm : X.mg x = some (.ref C0)) (ga : PySem.W.specialIn X.K (.ref C0) "__getattribute__" = some (some (.builtin "type.__getattribute__"))) (rd : PySem.W.readsIn X.K C0 (.type "type") = true)
    (fd : PySem.W.findCls X.K (.ref C0) (.type "type") "__init__" = some (.val (.builtin "ValueError.__init__"))) (ha : PA X (e :: es) ta) (hdb : (x == ("__debug__" : Str)) = false := by decide)
    (hc : eval (.Call (.Attribute (.Name x p1) "__init__" p2) (e :: es) [] pos) X.env = (do
      let o ← eval (.Name x p1) X.env
      standAt p2.atName
      let (f, first) ← holding [o] (getMethod o "__init__" pl)
      callWith pos f first (backTo pos (starEach (e :: es) X.env)) (backToKw pos (keywordEach [] X.env))) := by rfl)
    (he : starEach (e :: es) X.env = (false, eval e X.env) :: starEach es X.env := by rfl) (hpl : (backTo pos (starEach es X.env)).any (·.1) = false := by rfl) :
    PE X (.Call (.Attribute (.Name x p1) "__init__" p2) (e :: es) [] pos) (tVeI X.K ta) := by
  refine ⟨fun pins s σ H Q I h => ?_⟩
  refine PySem.W.methodCall_KW (ld_glob I hg hm (PySem.W.method_cls I.kIn ga (PySem.W.cls_value I.kIn rd fd (by decide +kernel) ?_)) hdb) hc
  show wpAny _ _ (callWith pos (Value.builtin "ValueError.__init__") [] (backTo pos (starEach (e :: es) X.env)) []) _ _ _
  refine PyProof.Rows.callWith_method1 (thn (ha.run pos pins _ σ H _ (I.tok _) h) fun us s1 ⟨vs, H1, I1, r1, a, C, ws, ev, hl, T, ea, q⟩ => ?_) he hpl
  subst ev
  cases r1 with
  | @cons _ u0 _ ur ra rr =>
    cases ra
    exact oinit_ok T I1 ea (by rw [← Paired.length rr, sizeLine_eq]; omega) fun s' J => ⟨.non, H1, J, rfl, q⟩
/-- what such an __init__ promises -/
def spX1 (C : Addr) (fl : Str) : Sp := fun vs H Q _ => ∃ a y, vs = [.ref a, y] ∧ H a = some (exo a C none) ∧ ∀ dx, H dx = none → dx ≠ a → Q .non (upd (upd H dx (exd dx [(fl, y)])) a (exo a C (some dx)))
def sRaise1 (c : Nat) (fl : Str) (m : Den) : DenS := fun ρ S => (m ρ S).bind fun d S1 => .exn c [(fl, d)] S1
theorem s_raise1 {c : Nat} {fl : Str} {st : Stmt} (h : PS X st (fun _ σ H => tMkO (G.CA c) (spX1 (G.CA c) fl) [] (tCons (tE G W m) tNil) σ H fun cls d H' => W cls d σ H')) : PS X st (tS G W (sRaise1 c fl m)) :=
  h.imp fun E σ H ⟨ρ, S, η, T, F, fr, g, p⟩ => sE_step fr g p fun d v S1 H1 η1 T1 _ e1 f1 g1 r1 p1 => by
  refine ⟨(by show 1 ≤ 1000; decide), fun a ha => ⟨a, v, rfl, upd_same, fun dx hd hne => ⟨rfl, dx, [(fl, v)], upd_same, ?_, ?_, ?_⟩⟩⟩
  · rw [upd_ne hne, upd_same]
  · rw [upd_ne hne] at hd; exact hd
  · have hd1 : H1 dx = none := by rw [upd_ne hne] at hd; exact hd
    have eH : upd (del (upd (upd (upd H1 a (exo a (G.CA c) none)) dx (exd dx [(fl, v)])) a (exo a (G.CA c) (some dx))) a) dx (.xd [(fl, v)]) = upd H1 dx (.xd [(fl, v)]) := by
      funext b
      unfold upd del
      by_cases hb : b = dx
      · rw [if_pos hb, if_pos hb]
      · rw [if_neg hb, if_neg hb]
        by_cases hba : b = a
        · rw [if_pos hba, hba, ha]
        · rw [if_neg hba]
          dsimp only
          rw [if_neg hba, if_neg hb, if_neg hba]
    rw [eH]
    exact p1 _ _ σ _ η1 T1 Ext.refl (g1.beside hd1 _) ⟨rfl, dx, [(fl, v)], rfl, upd_same, rfl, Reps.one r1⟩
end
end Tok
namespace Tok
open PySem PySem.Spec PyProof.Rows L2

/-! ## a class whose __iter__ gives the iterator of a tuple, and whose __len__ is told by a def -/
def ItT (a it : Addr) : HO := .ext fun h => h.IsTupleIter it a 0
section
variable {P : Program} {w : World} {H : Hp} {h : Heap} {a it : Addr}
theorem itT_ok (e : h.IsTupleIter it a 0) : ObjOk P w H h it (ItT a it) :=
  ⟨e, (by obtain ⟨o, q, _⟩ := id e; exact ⟨_, q⟩), fun h1 h2 q k => (show h1.IsTupleIter it a 0 from q).at fun o z => k _ z⟩
end
section
variable {prog : Program} {w : World} {A : Around} {E : Value → Shared → Prop} {s : Shared}
def tupIt (a : Addr) : Obj := { cls := .type "tuple_iterator", data := .fields #[.ref a, rawInt 0] }
theorem iter_tup {l : Addr} {items : Array Value} {Q : Value → Shared → Prop} (hl : s.heap.IsTuple l items) (h : ∀ h', (∀ b o, s.heap.get? b = some o → h'.get? b = some o) → h'.IsTupleIter s.heap.objs.size l 0 → Q (.ref s.heap.objs.size) { s with heap := h' }) :
    wpAny (model prog w) A (call (.builtin "iter") [.ref l]) Q E s := by
  apply Calls.call_function_entry (by decide +kernel) (by decide +kernel) PySem.W.kdk_entry_iter (PySem.W.kdk_args_iter _)
  unfold Builtin.«iter»
  apply wpAny_bind (m := someArgs "iter" 1 2 _) (wpAny_of_eq (a := [Value.ref l]) (by first | rfl | kernel_rfl!) _)
  show wpAny _ _ (pyIter (.ref l) >>= _) _ _ _
  apply wpAny_bind (wpAny_pyIter_tuple hl _)
  apply wpAny_pure
  exact ⟨_, rfl, h _ (fun b o e => Heap.get?_push_of_some _ e) ⟨_, Heap.get?_push_size _ rfl, rfl, rfl⟩⟩
end
def rIterT (K : PySem.W.Frag) (n : Nat) : List V → Hp → VK → Prop := fun xs H Q => ∃ l zs, xs = [V.ref l] ∧ SqT K H l zs ∧ ∀ it, H it = Option.none → n ≤ it → Q (.ref it) (upd H it (ItT l it))
theorem call_iterT {X : Cx} : CallR X (.builtin "iter") (rIterT X.K X.s_0.heap.objs.size) := fun pins s σ H xs us Q I r h => by
  obtain ⟨l, zs, rfl, hq, q⟩ := h
  obtain rfl := Vals.ref1 r
  obtain ⟨its, rv, pl, hz⟩ := I.tuple hq
  refine iter_tup (show s.heap.IsTuple l its.toArray from pl) fun h' k ht => ?_
  exact ⟨.ref s.heap.objs.size, _, I.laid (t' := s.toks) k (Nat.le_refl _) (itT_ok ht), rfl, q _ (I.hok.fresh (Nat.le_refl _)) I.sz⟩
end Tok
namespace Tok
open PySem PySem.Spec PyProof.Rows L2
/-- a def's body is run, its reading may look at the state at the call -/
theorem run_at {P : Program} {w : World} {K : PySem.W.Frag} {mg : Str → Option Value} {base : Heap} {x qual : Str} {st : Stmt} {fa : Addr} {fd : FuncData} {N ps : List Str} {k : Nat} {t : TS}
    {A : Around} {outer : List PySem.Env} {s : Shared} {H : Hp} {args : Args} {us : List Value} {vs : List V} {Q : VK} {E : XK} (Ff : Fun K x qual st fa fd) (Sc : FnScope N ps (defScope st)) (hr : Room (k + 1) A)
    (e0 : Env0 P w K mg base A outer s H) (bd : BindsTo s fd args (ps.zip us)) (r : Vals vs us) (hl : vs.length = ps.length)
    (hb : ∀ cdv, Room k (A.deeper (PyProof.Rows.envOfC qual (defScope st) s.heap.objs.size fa cdv)) → PSs (cxOf (L2N.CX P w) P w K mg base N qual (defScope st) fa cdv A outer s H E) (defBody st) t)
    (hq : t { nx := fun _ H' => Q .non H', rt := Q } (L2.start N vs) H) : codeAny (model P w) A (.call (.ref fa) args) (CR (L2N.CX P w) outer P w H s Q E) s := by
  obtain ⟨oc, od, kV, doc, pm, an, cdv, ct, osl, rfl, lk, hcd⟩ := Ff.ex
  have old := fun b o e => (e0.bs b o e).1
  have KX := e0.mod.kin.keeps old
  have lim := e0.mod.nolimit.keeps old
  have kinds : ∀ y ∈ ps.zip us, (defScope st).names.lookup y.1 = some .local ∨ ((defScope st).names.lookup y.1 = some .cell ∧ ((cellsFrom (s.heap.objs.size + 1) (defScope st).names []).lookup y.1).isSome = true) := by
    rintro ⟨n, v⟩ hy
    exact (Sc.par n (List.of_mem_zip hy).1).elim .inl fun q => .inr ⟨q, PySem.W.cellsFrom_some _ _ _ (.inl q)⟩
  apply codeAny_call_function hr.depth (KX _ _ lk) rfl Sc.co Sc.gen rfl (PySem.W.codeRec_of KX hcd) (bd _ _ _ _ _)
  apply wpAny_newFunctionEnv_cells Sc.kind kinds
  rintro env rfl s1 ic
  apply And.intro (lim.keeps ic.toInCall.keep)
  apply codeAny_func
  have I := inv_start (CX := L2N.CX P w) (E := E) Sc hr.hd e0 hl r ic
  refine wpAny_mono ((hb cdv (hr.deeper _)).run [] s1 (L2.start N vs) H _ I hq) (fun fl s' hs => ?_) fun _ _ z => z
  cases fl
  case ret => obtain ⟨v, σ', H', J, rv, q⟩ := hs; exact ⟨v, H', J.os, J.bare, J.base, J.hok, rv, q⟩
  case next => obtain ⟨σ', H', J, q⟩ := hs; exact ⟨.non, H', J.os, J.bare, J.base, J.hok, rfl, q⟩
  case brk => obtain ⟨_, _, _, q⟩ := hs; exact q.elim
  case cont => obtain ⟨_, _, _, q⟩ := hs; exact q.elim
/-- such an __iter__ of the class at C: the iterator of the tuple in the field fl -/
structure ItFn (P : Program) (w : World) (K : PySem.W.Frag) (mg : Str → Option Value) (base : Heap) (C fi : Addr) (fl : Str) (k : Nat) : Prop where
  at_ : PySem.W.findIn K (.ref C) "__iter__" = some (some (.ref fi))
  fn : PySem.W.isFn K (.ref fi) = true
  run : ∀ (A : Around) (outer : List PySem.Env) (s : Shared) (H : Hp) (p dx a : Addr) (fv : List (Str × V)) (xs : List V), Room k A → Env0 P w K mg base A outer s H → H p = some (.ins C dx fv) → fv.lookup fl = some (.ref a) → SqT K H a xs →
    codeAny (model P w) A (.call (.ref fi) ⟨[.ref p], []⟩) (CR (L2N.CX P w) outer P w H s (fun v H' => ∃ it, s.heap.objs.size ≤ it ∧ v = .ref it ∧ H it = Option.none ∧ H' = upd H it (ItT a it)) fun _ _ _ => False) s
theorem itFn_mk {P : Program} {w : World} {K : PySem.W.Frag} {mg : Str → Option Value} {base : Heap} {qual fl : Str} {st : Stmt} {C fi : Addr} {fd : FuncData} {N : List Str} {k : Nat}
    (Ff : Fun K "__iter__" qual st fi fd) (Sc : FnScope N ["self"] (defScope st)) (bd : Binds K fd ["self"] []) (at_ : PySem.W.findIn K (.ref C) "__iter__" = some (some (.ref fi))) (fn : PySem.W.isFn K (.ref fi) = true) (hc : Cls K C) (hn : NoAttr K C fl)
    (hb : ∀ (cdv : Value) (A : Around) (outer : List PySem.Env) (s : Shared) (H : Hp) (E : XK), PSs (cxOf (L2N.CX P w) P w K mg base N qual (defScope st) fi cdv A outer s H E) (defBody st) (tRet (tCB (rIterT K s.heap.objs.size) (tCons (tFld K (tVar 0) fl) tNil)))) : ItFn P w K mg base C fi fl (k + 1) := by
  refine ⟨at_, fn, fun A outer s H p dx a fv xs hr e0 hp hl hs => ?_⟩
  have b := bd s [.ref p] (e0.mod.kin.keeps fun b o e => (e0.bs b o e).1) (by rfl)
  refine run_at (us := [.ref p]) (vs := [.ref p]) Ff Sc hr e0 (by simpa using b) (.cons rfl .nil) rfl (fun cdv hr' => hb cdv A outer s H _) ?_
  have h0 : (L2.start N [V.ref p])[0]? = some (some (V.ref p)) := by unfold L2.start; simp
  exact ⟨.ref p, h0, p, C, dx, fv, .ref a, rfl, hp, hc, hn, hl, a, xs, rfl, hs, fun it hi hn => ⟨it, hn, rfl, hi, rfl⟩⟩
end Tok
namespace Tok
open PySem PySem.Spec PyProof.Rows L2
section
variable {X : Cx} {G : Gx} {W : WX} {tg e : Expr} {m : Den} {c k : Nat} {fl : Str} {fi : Addr}
theorem own_it {EE : Value → Shared → Prop} {pins : List (Addr × Obj)} {σ : L2.St} {H : Hp} {s : Shared} {Q : Value → Shared → Prop} {C p dx a : Addr} {fv : List (Str × V)} {xs : List V} {A1 : Around} {kk : Nat} (hf : ItFn X.prog X.w X.K X.mg X.base C fi fl k) (sb : Sub X k A1) (I : Inv X pins σ H s)
    (hp : H p = some (.ins C dx fv)) (hl : fv.lookup fl = some (.ref a)) (hs : SqT X.K H a xs) (hQ : ∀ it s', s.heap.objs.size ≤ it → H it = Option.none → Inv X pins σ (upd H it (ItT a it)) s' → Q (.ref it) s') :
    wpAny (model X.prog X.w) A1 (pyIter (.ref p)) Q EE s := by
  obtain ⟨mA, J, _⟩ := ins_get I.hok hp
  obtain ⟨od, J, _⟩ := J.look
  obtain ⟨m0, hF⟩ := I.fr
  apply PySem.W.owit_iter hF I.ok.mod.kin J hf.at_ hf.fn
  have e0 : Env0 X.prog X.w X.K X.mg X.base A1 X.stack s H := by
    have z := I.env0
    refine ⟨?_, z.mod, z.bs, z.bsz, z.funs, z.frf, z.hok, z.bare⟩
    rw [sb.fr]; exact z.frames
  apply wpAny_call
  refine codeAny_mono (hf.run A1 X.stack s H p dx a fv xs sb.room e0 hp hl hs) fun r s' hq => ?_
  cases r with
  | error e => obtain ⟨_, _, _, _, _, _, _, _, _, _, _, _, z⟩ := hq; exact z.elim
  | ok f => cases f with
    | next => exact hq.elim
    | brk => exact hq.elim
    | cont => exact hq.elim
    | ret u =>
      obtain ⟨v, H', I', rv, it, hle, ev, hn, eH⟩ := I.after hq
      subst ev eH
      cases rv
      have st : s'.heap.IsTupleIter it a 0 := (I'.hok it _ upd_same).1
      unfold PySem.W.OwitIt
      apply wpAny_specialOf st.typeIs PySem.F.slot_tuple_iterator_next.lookup
      exact hQ it s' hle hn I'
def iOwnD (c : Nat) (fl : Str) (m : Den) : DenI := fun ρ S => (m ρ S).bind fun o S1 => match insOf S1 c o with
  | some (_, fs) => match fs.lookup fl with
    | some (.tup ds) => .ok ds S1
    | _ => .bad
  | none => .bad
theorem yields_tup {F : Hp} {a : Addr} {ds : List D} {vs : List V} {η : List Addr} {T : Hp} (hK : G.K = X.K) (h : SqT G.K T a vs) (r : Reps G η T ds vs) : Yields G F (Itt X.K a) ds η T := by
  intro η2 T2 H2 S2 F2 i e2 g2 _
  have key : SqT X.K H2 a vs := hK ▸ sqT_mono g2.sub (sqT_mono e2.sub h)
  refine ⟨fun hl => ⟨vs, key, by rw [← r.length]; exact hl⟩, fun d hd => ?_⟩
  obtain ⟨x, hx, rx⟩ := r.get hd
  refine ⟨⟨vs, x, key, hx⟩, fun y H3 hy => ?_⟩
  obtain ⟨rfl, hy⟩ := hy
  have q := hy vs key
  rw [hx] at q; cases q
  exact ⟨η2, T2, Ext.refl, g2, rx.mono e2⟩
theorem i_own (hK : G.K = X.K) (hf : ItFn X.prog X.w X.K X.mg X.base (G.CA c) fi fl k) (hr : Room k X.A) (h : PE X e (tE G W m)) : PI X tg e (tI G W (iOwnD c fl m)) := by
  refine ⟨fun pins s σ H R I ⟨ρ, S, η, T, F, f, g, p⟩ => ?_⟩
  refine thn (h.run pins s σ H (fun v H1 => ∃ pt dx fv a xs, v = V.ref pt ∧ H1 pt = some (.ins (G.CA c) dx fv) ∧ fv.lookup fl = some (.ref a) ∧ SqT X.K H1 a xs ∧ R (Itt X.K a) H1) I (tE_step f g p fun d v S1 H1 η1 T1 _ e1 f1 g1 r1 p1 => ?_)) fun u s1 ⟨v, H1, I1, r1, pt, dx, fv, a, xs, ev, hp, hl, hs, q⟩ => ?_
  · cases qi : insOf S1 c d with
    | none => rw [qi] at p1; exact p1.elim
    | some lf =>
      obtain ⟨l, fs⟩ := lf
      rw [qi] at p1
      dsimp only at p1
      split at p1
      · rename_i ds hl
        obtain ⟨pt, dx, fv, rfl, rfl, hp, hS, hH, rf⟩ := ins_rep g1 r1 qi
        obtain ⟨v, hv, rv⟩ := look_rep rf hl
        cases rv with
        | @tup a vs _ h r => exact ⟨pt, dx, fv, a, vs, rfl, hH, hv, hK ▸ sqT_mono g1.sub h, p1 _ H1 η1 T1 Ext.refl g1 (yields_tup hK h r)⟩
      · exact p1.elim
  · subst ev
    cases r1
    refine own_it (kk := 0) hf ⟨hr, rfl⟩ I1 hp hl hs fun it s' hle hn I' => ?_
    have st : s'.heap.IsTupleIter it a 0 := (I'.hok it _ upd_same).1
    have hi : (upd H1 it (ItT a it)) it = some (ItT a it) := upd_same
    refine ⟨it, [it], _, Itt X.K a, ItX.dropH (upd H1 it (ItT a it)) it, rfl, ItX.inv_drop I' hi, turn_tuple a it, st, fun b hb => ?_, ?_⟩
    · obtain rfl : b = it := by simpa using hb
      exact ItX.inv_fp I' hi (Nat.le_trans I1.sz hle)
    · rw [ItX.dropH_upd hn]; exact q
end
end Tok
namespace Tok
open PySem PySem.Spec PyProof.Rows L2
section
variable {X : Cx} {pins : List (Addr × Obj)} {σ : L2.St} {a q it : Addr} {xs : List V} {A1 : Around}
theorem fp_upd {H : Hp} {o : HO} (f : FpOk X pins H it) (h : it ≠ q) : FpOk X pins (upd H q o) it := ⟨by rw [upd_ne h]; exact f.1, f.2⟩
theorem ext_loop {Rs : Result → Shared → Prop} (hh : A1.in1.handled = none) (hz : xs.length < sizeLine) (hxe : ∀ e s, X.xe e s → Rs (.error e) s) :
    ∀ (n i : Nat) (H : Hp) (s : Shared), n + i = xs.length → Inv X pins σ H s → FpOk X pins H it → s.heap.IsTupleIter it a i → SqT X.K H a xs → H q = some (.lst (xs.take i)) →
      (∀ s', Inv X pins σ (upd H q (.lst xs)) s' → Rs (.ok (.ret .none)) s') → codeAny (model X.prog X.w) A1 (.builtin "list.extend.loop" ⟨[.ref q, .ref it, .none], []⟩) Rs s := by
  intro n
  induction n with
  | zero =>
    intro i H s hn I fp st hs hq k
    obtain rfl : i = xs.length := by omega
    obtain ⟨f0, f1, f2, f3, f4, f5⟩ := id fp
    obtain ⟨its, rv, p, _⟩ := I.tuple hs
    have hl := rv.length
    apply codeAny_builtin PySem.F.entry_extend_loop
    rw [Around.under_plainId PySem.F.plain_extend_loop _]
    apply wpAny_bind
    refine wpAny_pyNext_tuple_end hh st (show s.heap.IsTuple a its.toArray from p) (by simp; omega) fun h' eb => ?_
    have I1 : Inv X pins σ H { s with heap := h' } := I.turned (t' := s.toks) (fun b o hb e => eb b o hb e) f0 f1 f3 f4 f5
    apply wpAny_pure
    have e : upd H q (.lst xs) = H := by
      funext b
      by_cases hb : b = q
      · rw [hb, upd_same, hq, List.take_length]
      · rw [upd_ne hb]
    exact k _ (by rw [e]; exact I1)
  | succ n ih =>
    intro i H s hn I fp st hs hq k
    obtain ⟨f0, f1, f2, f3, f4, f5⟩ := id fp
    obtain ⟨its, rv, p, _⟩ := I.tuple hs
    have hi : i < xs.length := by omega
    obtain ⟨u, hu, ru⟩ := rv.get (List.getElem?_eq_getElem hi)
    have hne : it ≠ q := fun z => by rw [z, hq] at f0; cases f0
    apply codeAny_builtin PySem.F.entry_extend_loop
    rw [Around.under_plainId PySem.F.plain_extend_loop _]
    apply wpAny_bind
    refine wpAny_pyNext_tuple_item st (show s.heap.IsTuple a its.toArray from p) (x := u) (by simpa using hu) fun h' st' sb => ?_
    have I1 : Inv X pins σ H { s with heap := h' } := I.turned (t' := s.toks) (fun b o hb e => (sb.2 b hb).trans e) f0 f1 f3 f4 f5
    show wpAny _ A1.in1 (updateSeq q (·.push u) >>= _) _ _ _
    obtain ⟨z, its2, k2, r2, hl2, e2⟩ := I1.lstM hq
    have hlen : its2.length = i := by have := r2.length; rw [List.length_take] at this; omega
    have hsz : its2.length + 1 ≤ sizeLine := by omega
    apply wpAny_bind
    refine wpAny_updateSeq e2 rfl (wpAny_pure ⟨plainId_quiet PySem.F.plain_extend_loop _, ?_⟩) (by rw [List.size_toArray]; omega) (by show (its2.toArray.push u).size ≤ sizeLine + 1; rw [Array.size_push, List.size_toArray]; omega)
    have I2 := I1.lset (f := fun y => y.push u) (its' := its2 ++ [u]) (ys := xs.take i ++ [xs[i]]) (t' := s.toks) hq e2 (by simp) (r2.append (.cons ru .nil)) (by rw [List.length_append, List.length_singleton]; omega)
    have et : xs.take i ++ [xs[i]] = xs.take (i + 1) := by rw [List.take_succ, List.getElem?_eq_getElem hi]; rfl
    rw [et] at I2
    refine ih (i + 1) _ _ (by omega) I2 (fp_upd fp hne) ?_ ?_ upd_same (fun s' I' => k s' (by rw [upd_upd] at I'; exact I'))
    · exact st'.at fun o e => (Heap.get?_update_other _ _ (Ne.symm hne)).trans e
    · rcases hs with (h | ⟨o, h⟩) | h
      · exact .inl (.inl (by rw [upd_ne (ne_of h hq (fun z => nomatch z))]; exact h))
      · exact .inl (.inr ⟨o, by rw [upd_ne (ne_of h hq (fun z => nomatch z))]; exact h⟩)
      · exact .inr h
end
end Tok
namespace Tok
open PySem PySem.Spec PyProof.Rows L2
/-- what list(o) asks of the class: no more than that __len__ tells the tuple's length -/
def spLen (K : PySem.W.Frag) (C : Addr) (fl : Str) : Sp := fun vs H Q _ => ∃ p dx fv a xs, vs = [V.ref p] ∧ H p = some (.ins C dx fv) ∧ fv.lookup fl = some (.ref a) ∧ SqT K H a xs ∧ Q (.int xs.length) H
structure LenFn (P : Program) (w : World) (K : PySem.W.Frag) (mg : Str → Option Value) (base : Heap) (C f : Addr) (fl : Str) (k : Nat) : Prop where
  at_ : PySem.W.findIn K (.ref C) "__len__" = some (some (.ref f))
  fn : PySem.W.isFn K (.ref f) = true
  ex : ∃ fd, FnOk P w K mg base (L2N.CX P w) k f fd ["self"] (spLen K C fl) ∧ Binds K fd ["self"] []
section
variable {X : Cx} {pins : List (Addr × Obj)} {σ : L2.St} {C fi fl' : Addr} {fl : Str} {k : Nat} {A1 : Around}
theorem own_len {EE : Value → Shared → Prop} {H : Hp} {s : Shared} {Q : Value → Shared → Prop} {p dx a : Addr} {fv : List (Str × V)} {xs : List V} (hf : LenFn X.prog X.w X.K X.mg X.base C fl' fl k) (sb : Sub X k A1.in1) (I : Inv X pins σ H s) (hp : H p = some (.ins C dx fv)) (hl : fv.lookup fl = some (.ref a)) (hs : SqT X.K H a xs) (hz : xs.length ≤ sizeLine)
    (hQ : ∀ t s', Inv X pins σ H s' → Q (.int xs.length t) s') : wpAny (model X.prog X.w) A1 (call (.builtin "len") [.ref p]) Q EE s := by
  obtain ⟨fd, F, bd⟩ := hf.ex
  obtain ⟨mA, J, _⟩ := ins_get I.hok hp
  obtain ⟨od, J, _⟩ := J.look
  apply Calls.call_function_entry kind_len plain_len entry_len (args_len1 _)
  unfold Builtin.«len»
  refine wpAny_bind (m := oneArg "len" _) (wpAny_pure (wpAny_bind (m := callSpecial? (.ref p) (Str.ofString "__len__")) (PySem.W.special_fn (name := "__len__") (args := []) I.kIn J hf.at_ (beq_iff_eq.mp hf.fn) ?_)))
  have e0 : Env0 X.prog X.w X.K X.mg X.base A1.in1 X.stack s H := by
    have z := I.env0
    refine ⟨?_, z.mod, z.bs, z.bsz, z.funs, z.frf, z.hok, z.bare⟩
    rw [sb.fr]; exact z.frames
  apply wpAny_call
  have b := bd s [.ref p] I.kIn (by rfl)
  refine codeAny_mono (F.run A1.in1 X.stack s H ⟨[.ref p], []⟩ [.ref p] [.ref p] (fun v H' => v = .int xs.length ∧ H' = H) (fun _ _ _ => False) sb.room e0 (by simpa using b) (.cons rfl .nil) ⟨p, dx, fv, a, xs, rfl, hp, hl, hs, rfl, rfl⟩) fun r s' hq => ?_
  cases r with
  | error e => obtain ⟨_, _, _, _, _, _, _, _, _, _, _, _, z⟩ := hq; exact z.elim
  | ok f => cases f with
    | next => exact hq.elim
    | brk => exact hq.elim
    | cont => exact hq.elim
    | ret u =>
      obtain ⟨v, H', I', rv, ev, eH⟩ := I.after hq
      subst ev
      rw [eH] at I'
      obtain ⟨t, rfl⟩ := rv
      have h0 : ((xs.length : Nat) : Int) < 2 ^ 63 := by have := sizeLine_eq; omega
      refine wpAny_bind (wpAny_holding (wpAny_pure (wpAny_bind (wpAny_letGo ?_))))
      show wpAny _ _ (if ((xs.length : Nat) : Int) < 0 then _ else _) _ _ _
      rw [if_neg (by omega)]
      show wpAny _ _ (if ((xs.length : Nat) : Int) ≥ 2 ^ 63 then _ else _) _ _ _
      rw [if_neg (by omega)]
      exact wpAny_bind (wpAny_mkInt (wpAny_pure ⟨_, rfl, hQ _ _ (I'.tok _)⟩))
end
end Tok
namespace Tok
open PySem PySem.Spec PyProof.Rows L2
section
variable {X : Cx} {pins : List (Addr × Obj)} {σ : L2.St} {C fi fl' : Addr} {fl : Str} {k : Nat} {A1 : Around}
theorem own_hintT {EE : Value → Shared → Prop} {H : Hp} {s : Shared} {Q : Bool → Shared → Prop} {p dx a : Addr} {fv : List (Str × V)} {xs : List V} (hf : LenFn X.prog X.w X.K X.mg X.base C fl' fl k) (sb : Sub X k A1.in1) (I : Inv X pins σ H s) (hp : H p = some (.ins C dx fv)) (hl : fv.lookup fl = some (.ref a)) (hs : SqT X.K H a xs) (hz : xs.length < sizeLine)
    (hQ : ∀ b s', Inv X pins σ H s' → Q b s') : wpAny (model X.prog X.w) A1 (Builtin.List.listLengthHint (.ref p)) Q EE s := by
  obtain ⟨mA, J, _⟩ := ins_get I.hok hp
  obtain ⟨od, J, _⟩ := J.look
  unfold Builtin.List.listLengthHint
  refine wpAny_bind (wpAny_bind (J.type.here ((PySem.W.looks_findIn I.kIn hf.at_).here ?_)))
  refine PySem.W.KFB.if_not rfl ?_
  show wpAny _ _ (rule "list.length-hint.len" >>= fun _ => (call (Value.builtin "len") [Value.ref p]).attempt >>= _) _ _ _
  refine wpAny_bind (wpAny_rule (wpAny_bind (wpAny_attempt (own_len hf sb I hp hl hs (Nat.le_of_lt hz) fun t s' I' => ?_))))
  show wpAny _ _ (asInt? (Value.int (xs.length : Int) t) >>= _) _ _ _
  refine wpAny_bind (wpAny_pure ?_)
  show wpAny _ _ (if Builtin.List.listTooLong ((xs.length : Int)).toNat = true then _ else _) _ _ _
  rw [if_neg (by unfold Builtin.List.listTooLong; have := sizeLine_eq; simp; omega)]
  exact wpAny_pure (hQ _ s' I')

def rListT (K : PySem.W.Frag) (C : Addr) (fl : Str) : List V → Hp → VK → Prop := fun xs H Q => ∃ p dx fv a ys, xs = [V.ref p] ∧ H p = some (.ins C dx fv) ∧ fv.lookup fl = some (.ref a) ∧ SqT K H a ys ∧ ys.length < sizeLine ∧ ∀ q, H q = Option.none → Q (.ref q) (upd H q (.lst ys))
theorem sqT_upd {K : PySem.W.Frag} {H : Hp} {a q : Addr} {ys : List V} {o : HO} (h : SqT K H a ys) (hq : H q = Option.none) : SqT K (upd H q o) a ys := by
  rcases h with (h | ⟨u, h⟩) | h
  · exact .inl (.inl (by rw [upd_ne (ne_of_none h hq)]; exact h))
  · exact .inl (.inr ⟨u, by rw [upd_ne (ne_of_none h hq)]; exact h⟩)
  · exact .inr h
theorem call_listT (hf : ItFn X.prog X.w X.K X.mg X.base C fi fl k) (hl : LenFn X.prog X.w X.K X.mg X.base C fl' fl k) (hr : Room (k + 4) X.A) (hcm : X.calm = true) : CallR X (.type "list") (rListT X.K C fl) := fun pins s σ H xs us Q I rv h => by
  obtain ⟨p, dx, fv, a, ys, rfl, hp, hlk, hs, hz, hq⟩ := h
  obtain rfl := Vals.ref1 rv
  have sb : Sub X k X.A.in1.in1.in1.in1 := Sub.in1 (Sub.in1 (Sub.in1 (Sub.in1 (⟨hr, rfl⟩ : Sub X (k + 4) X.A))))
  have sb2 : Sub X k X.A.in1.in1 := ⟨(Sub.in1 (Sub.in1 (⟨hr, rfl⟩ : Sub X (k + 4) X.A))).room.mono (by omega), (Sub.in1 (Sub.in1 (⟨hr, rfl⟩ : Sub X (k + 4) X.A))).fr⟩
  have sb3 : Sub X k X.A.in1.in1.in1 := ⟨(Sub.in1 (Sub.in1 (Sub.in1 (⟨hr, rfl⟩ : Sub X (k + 4) X.A)))).room.mono (by omega), (Sub.in1 (Sub.in1 (Sub.in1 (⟨hr, rfl⟩ : Sub X (k + 4) X.A)))).fr⟩
  have hh : X.A.in1.in1.handled = Option.none := I.ok.hd hcm
  apply callType_codes (Q₁ := fun obj s₁ => obj = .ref s.heap.objs.size ∧ s₁ = { s with heap := s.heap.push { cls := .type "list", data := .seq #[] } }) PySem.F.called_list (PySem.F.typeCall_list_1 _) PySem.F.entry_list_init
  · exact code_list_new _ ⟨rfl, rfl⟩
  rintro obj s₁ ⟨rfl, rfl⟩
  have hS : (s.heap.push { cls := .type "list", data := .seq #[] }).get? s.heap.objs.size = some { cls := .type "list", data := .seq #[] } := Heap.get?_push_size _ rfl
  refine ⟨⟨_, hS, rfl⟩, PySem.F.args_list_init_2 _ _, ?_⟩
  have fr : H s.heap.objs.size = Option.none := I.hok.fresh (Nat.le_refl _)
  have hqq := hq _ fr
  generalize hqa : s.heap.objs.size = q at *
  have I1 : Inv X pins σ (upd H q (.lst [])) { s with heap := s.heap.push { cls := .type "list", data := .seq #[] } } := by have := I.lnew (its := []) (t' := s.toks) .nil (Nat.zero_le _); rw [hqa] at this; exact this
  show wpAny _ _ (do let old ← Builtin.List.listItems (.ref q); Builtin.List.listUpdate (.ref q) (fun _ => #[]); letGo old.toList.reverse; Builtin.List.listExtendWith (.ref q) (.ref p) .none) _ _ _
  refine wpAny_bind ?_
  unfold Builtin.List.listItems
  apply wpAny_bind
  refine wpAny_seqItems hS rfl (wpAny_pure ?_)
  show wpAny _ _ (updateSeq q (fun _ => #[]) >>= fun _ => letGo (#[] : Array Value).toList.reverse >>= fun _ => Builtin.List.listExtendWith (.ref q) (.ref p) .none) _ _ _
  apply wpAny_bind
  refine wpAny_updateSeq hS rfl ?_
  have I2 := I1.lset (f := fun _ => #[]) (its := []) (its' := []) (ys := []) (t' := s.toks) upd_same hS rfl .nil (Nat.zero_le _)
  rw [upd_upd] at I2
  apply wpAny_bind
  refine wpAny_letGo ?_
  have hp2 : upd H q (.lst []) p = some (.ins C dx fv) := by rw [upd_ne (ne_of_none hp fr)]; exact hp
  have hs2 : SqT X.K (upd H q (.lst [])) a ys := sqT_upd hs fr
  have hne : q ≠ p := Ne.symm (ne_of_none hp fr)
  obtain ⟨mA, J, _⟩ := ins_get I2.hok hp2
  obtain ⟨od, J, _⟩ := J.look
  unfold Builtin.List.listExtendWith
  refine wpAny_bind (J.type.here ?_)
  have h1 : Builtin.List.listSameRef (.ref q) (.ref p) = false := by simp [Builtin.List.listSameRef, hne]
  rw [h1]
  show wpAny _ _ (if (false || Value.ref C == Value.type "list" || Value.ref C == Value.type "tuple") = true then _ else _) _ _ _
  have h2 : (false || Value.ref C == Value.type "list" || Value.ref C == Value.type "tuple") = false := rfl
  rw [h2, if_neg Bool.false_ne_true]
  refine wpAny_bind (own_it (kk := 0) hf sb2 I2 hp2 hlk hs2 fun it s' hle hn I' => ?_)
  have hit : (upd (upd H q (.lst [])) it (ItT a it)) it = some (ItT a it) := upd_same
  have hpi : it ≠ p := fun z => by rw [z, hp2] at hn; cases hn
  have hqi : it ≠ q := fun z => by rw [z, upd_same] at hn; cases hn
  refine wpAny_bind (wpAny_holding (own_hintT hl sb3 I' (by rw [upd_ne (Ne.symm hpi)]; exact hp2) hlk (sqT_upd hs2 hn) hz fun b s'' I4 => ?_))
  have st : s''.heap.IsTupleIter it a 0 := (I4.hok it _ hit).1
  have fp : FpOk X pins (ItX.dropH (upd (upd H q (.lst [])) it (ItT a it)) it) it := ItX.inv_fp I4 hit (Nat.le_trans I2.sz hle)
  have I5 := ItX.inv_drop I4 hit
  rw [ItX.dropH_upd hn] at I5 fp
  have fin : ∀ s3, Inv X pins σ (upd H q (.lst [])) s3 → s3.heap.IsTupleIter it a 0 → codeAny (model X.prog X.w) X.A.in1 (.builtin "list.extend.loop" ⟨[.ref q, .ref it, .none], []⟩) (wants (fun r s₂ => r = .none ∧ EP X pins σ Q (.ref q) s₂) X.xe) s3 := fun s3 I6 st3 =>
    ext_loop hh hz (fun e s he => he) ys.length 0 _ s3 rfl I6 fp st3 hs2 (by rw [upd_same]; rfl) fun s4 I7 => by
      rw [upd_upd] at I7
      exact ⟨rfl, .ref q, _, I7, rfl, hqq⟩
  refine wpAny_ite_split (fun _ => ?_) (fun _ => wpAny_pure ⟨plainId_quiet PySem.F.plain_extend_loop _, fin _ I5 st⟩)
  obtain ⟨z, its, k3, r3, hl3, e3⟩ := I5.lstM upd_same
  cases r3
  apply wpAny_bind
  refine wpAny_rule ?_
  apply wpAny_bind
  show wpAny _ _ (updateSeq q (·.push .none) >>= fun _ => updateSeq q (·.pop)) _ _ _
  apply wpAny_bind
  refine wpAny_updateSeq e3 rfl ?_
  have J2 := I5.lset (f := fun y => y.push Value.none) (its' := [Value.none]) (ys := [.non]) (t' := s''.toks) upd_same e3 (by simp) (.cons rfl .nil) (by rw [List.length_singleton, sizeLine_eq]; decide)
  obtain ⟨z4, its4, k4, r4, hl4, e4⟩ := J2.lstM upd_same
  obtain ⟨u4, rfl, ru4⟩ := r4.one
  have J3 := J2.lset (f := fun y => y.pop) (its := [u4]) (its' := []) (ys := []) (t' := s''.toks) upd_same e4 (by rfl) .nil (Nat.zero_le _)
  rw [upd_upd, upd_upd] at J3
  refine wpAny_updateSeq e4 rfl ?_ (by show 1 ≤ sizeLine; rw [sizeLine_eq]; decide) (by show 0 ≤ sizeLine + 1; exact Nat.zero_le _)
  refine wpAny_pure ⟨plainId_quiet PySem.F.plain_extend_loop _, fin _ J3 ?_⟩
  exact st.at fun o e => (Heap.get?_update_other _ _ (Ne.symm hqi)).trans ((Heap.get?_update_other _ _ (Ne.symm hqi)).trans e)
end
end Tok
namespace Tok
open PySem PySem.Spec PyProof.Rows L2
section
variable {X : Cx} {G : Gx} {W : WX} {e : Expr} {m : Den} {c k : Nat} {fl : Str} {fi fl' : Addr} {p pos : Pos}
def dListOwn (c : Nat) (fl : Str) (m : Den) : Den := fun ρ S => (m ρ S).bind fun o S1 => match insOf S1 c o with
  | some (_, fs) => match fs.lookup fl with
    | some (.tup ds) => if ds.length < sizeLine then .ok (.lst ds) S1 else .bad
    | _ => .bad
  | none => .bad
theorem d_listOwn (hK : G.K = X.K) (hf : ItFn X.prog X.w X.K X.mg X.base (G.CA c) fi fl k) (hl : LenFn X.prog X.w X.K X.mg X.base (G.CA c) fl' fl k) (hr : Room (k + 4) X.A) (hcm : X.calm = true) (hg : Gl X "list") (hm : X.mg "list" = Option.none) (h : PE X e (tE G W m))
    (hst : starEach [e] X.env = (false, eval e X.env) :: starEach [] X.env := by rfl) : PE X (.Call (.Name "list" p) [e] [] pos) (tE G W (dListOwn c fl m)) :=
  (pe_callTy (call_listT hf hl hr hcm) hg hm (by decide +kernel) (pa_cons h pa_nil (hs := hst)) (by decide) (by decide) hst).imp fun σ H Q ⟨ρ, S, η, T, F, f, g, q⟩ => tE_step f g q fun d v S1 H1 η1 T1 _ e1 f1 g1 r1 p1 => by
    cases qi : insOf S1 c d with
    | none => rw [qi] at p1; exact p1.elim
    | some lf =>
      obtain ⟨l, fs⟩ := lf
      rw [qi] at p1
      dsimp only at p1
      split at p1
      · rename_i ds hlk
        split at p1
        · rename_i hz
          obtain ⟨pt, dx, fv, rfl, rfl, hp, hS, hH, rf⟩ := ins_rep g1 r1 qi
          obtain ⟨v, hv, rv⟩ := look_rep rf hlk
          cases rv with
          | @tup a vs _ h r =>
            refine ⟨pt, dx, fv, a, vs, rfl, hH, hv, hK ▸ sqT_mono g1.sub h, by rw [← r.length]; exact hz, fun q hq => ?_⟩
            have ex : Ext η1 T1 η1 (upd T1 q (.lst vs)) := ext_fresh (g1.tnone hq)
            exact p1 _ _ η1 _ ex (g1.fresh hq (.lst vs)) (rep_lst upd_same (r.mono ex))
        · exact p1.elim
      · exact p1.elim
end
end Tok
namespace Tok
open PySem PySem.Spec PyProof.Rows L2

/-! ## making an exception of an own class with an own __init__: nothing is its context -/
theorem pmk_oexN {X : Cx} {x : Str} {C fI : Addr} {k : Nat} {fd : FuncData} {ps : List Str} {sp : Sp} {e : Expr} {es : List Expr} {ta : TA} {p pos : Pos} (T : OexC X.K C) (iC : PySem.W.findIn X.K (.ref C) "__init__" = some (some (.ref fI)))
    (tI : PySem.W.typeIn X.K (.ref fI) = some (.type "function")) (F1 : FnOk X.prog X.w X.K X.mg X.base (L2N.CX X.prog X.w) k fI fd ps sp) (hr : Room (k + 1) X.A) (hb : Binds X.K fd ps []) (hx : Passes (L2N.CX X.prog X.w) X (fun _ _ _ => False))
    (hg : Gl X x) (hm : X.mg x = some (.ref C)) (ha : PA X (e :: es) ta) (hdb : (x == ("__debug__" : Str)) = false := by decide) (he : starEach (e :: es) X.env = (false, eval e X.env) :: starEach es X.env := by rfl)
    (hpl : (backTo pos (starEach es X.env)).any (·.1) = false := by rfl) : L2N.PMk X (.Call (.Name x p) (e :: es) [] pos) (tMkO C sp [] ta) := fun pins s σ H Q I h => by
  obtain ⟨nm, q, N, bs, bm, sn, sub, ab, col, dd, k0, k1, k2, k3, k5, hC, hbm⟩ := T.cls
  apply wpAny_Call_Name_kw
  refine ld_glob I hg hm ?_ hdb
  refine PySem.W.callWith_K (h₀ := X.base) I.ok.mod.kin T.kC (thn (ha.run pos pins s σ H _ I h) ?_) he hpl
  rintro us ⟨hp, g, dr, tk, os⟩ ⟨vs, H1, I1, r1, hz, q1⟩
  refine ⟨I1.kIn, (?_ : wpAny _ _ (call (.ref C) us) _ _ _)⟩
  have hsz := Nat.le_succ hp.objs.size
  have hn : H1 (hp.objs.size + 1) = Option.none := I1.hok.fresh hsz
  have hq := q1 (hp.objs.size + 1) hn
  rw [List.append_nil] at hq
  generalize hhp : (hp.push (PySem.W.kdv_tup us)).push (PySem.HandSPX.excO C hp.objs.size) = hp2
  have kk : ∀ b o, hp.get? b = some o → hp2.get? b = some o := fun b o e => hhp ▸ Heap.get?_push_of_some _ (Heap.get?_push_of_some _ e)
  have hget : hp2.get? (hp.objs.size + 1) = some (PySem.HandSPX.excO C hp.objs.size) := by rw [← hhp]; heap_get
  have I2 : Inv X pins σ (upd H1 (hp.objs.size + 1) (exo (hp.objs.size + 1) C Option.none)) ⟨hp2, g, dr, tk, os⟩ := I1.laid (t' := tk) (o := exo (hp.objs.size + 1) C Option.none) kk hsz (exo_ok hget)
  have r2 : Vals (V.ref (hp.objs.size + 1) :: vs) (Value.ref (hp.objs.size + 1) :: us) := .cons rfl r1
  have b2 := hb _ (Value.ref (hp.objs.size + 1) :: us) I2.kIn (by rw [List.append_nil, ← r2.length, F1.len _ _ _ _ hq])
  rw [List.append_nil] at b2
  have hus : us.length ≤ sizeLine := by have := r1.length; have := sizeLine_eq; omega
  apply wpAny_call
  refine PySem.HandSPX.call_own F.excBase_ValueError (fun Y => PySem.HandSPX.refsVE_contains Y bm hbm) (I1.kIn _ _ hC) (PySem.W.looks_findIn I1.kIn iC) (fun self => PySem.W.bind_fn I1.kIn self tI) hus ?_
  rw [hhp]
  refine codeAny_mono (F1.run _ X.stack _ _ ⟨Value.ref (hp.objs.size + 1) :: us, []⟩ (Value.ref (hp.objs.size + 1) :: us) _ _ (fun _ _ _ => False) (hr.make C us []) (I2.env0.make C us []) b2 r2 hq) fun r s' hq' => ?_
  cases r with
  | error er => exact hx pins σ _ _ er s' I2 hq'
  | ok fl => cases fl with
    | next => exact hq'.elim
    | brk => exact hq'.elim
    | cont => exact hq'.elim
    | ret u =>
      obtain ⟨v, H2, os2, bare2, un2, hok2, rv, ev, d, fs, ea, ed, hd1, q2⟩ := hq'
      subst ev
      obtain ⟨h2, g2, d2, t2, os'⟩ := s'
      obtain ⟨t0, Gh, J, kG, ge, hoe, na⟩ := mk_end0 (d2 := d2) (t2 := t2) I1 hsz kk un2 hok2 os2 bare2 ea ed hd1
      exact ⟨rv, hp.objs.size + 1, _, _, ⟨Gh, g2, d2, t2, os'⟩, _, .ref C, some d, rfl, J, kG, ge, hoe, ⟨rfl, rfl, fun vs hv => by cases hv; rfl⟩, rfl, rfl, na, rfl, bare2, raises_own T.exC T.tyC, q2⟩
end Tok
namespace Tok
open PySem PySem.Spec PyProof.Rows L2 HotX
section
variable {prog : Program} {w : World} {A : Around} {E : Value → Shared → Prop} {s : Shared}
/-- a tuple's iterator at its end, while an exception is handled -/
theorem tup_end_hot {it t x1 : Addr} {i : Nat} {items : Array Value} {Q : Option Value → Shared → Prop} (hot : HotAt A x1 s.heap) (hi1 : x1 ≠ it) (hit : IsTupIter s.heap it t i) (ht : IsTup s.heap t items) (hx : items[i]? = Option.none)
    (hQ : ∀ h', Heap.ExtBut it s.heap h' → Q Option.none { s with heap := h' }) : wpAny (model prog w) A (pyNext (.ref it)) Q E s := by
  obtain ⟨o, ho, hc, hd⟩ := id hit
  obtain ⟨ol, hol, _, nl, hdl⟩ := ht
  obtain ⟨hh, o1, vs1, h1, d1, c1⟩ := hot
  unfold pyNext
  apply wpAny_bind
  refine wpAny_attempt (wpAny_callSpecial?_slot (name := Str.ofString "__next__") hit.typeIs slot_tupleiter_next (wpAny_call_entry slot_tupleiter_next hit.typeIs entry_tupleiter_next ?_ (args_tupleiter_next _)))
  show wpAny _ _ (field (.ref it) 0 >>= _) _ _ s
  apply wpAny_bind
  refine wpAny_field ho hd (x := .ref t) rfl ?_
  show wpAny _ _ (if (Value.ref t == Value.none) = true then _ else _) _ _ s
  have ne : ¬ ((Value.ref t == Value.none) = true) := Bool.false_ne_true
  rw [if_neg ne]
  show wpAny _ _ (field (.ref it) 1 >>= _) _ _ s
  apply wpAny_bind
  refine wpAny_field ho hd (x := .int i 0) rfl ?_
  show wpAny _ _ (seqItems? (.ref t) >>= _) _ _ s
  apply wpAny_bind
  refine wpAny_seqItems hol hdl ?_
  simp only [Int.toNat_natCast, hx]
  apply wpAny_bind
  refine wpAny_rule (wpAny_bind (wpAny_setField ho hd (by simp) ?_))
  have sb : Heap.SameBut it s.heap (s.heap.update it (Obj.mapFields fun x => x.setIfInBounds 0 Value.none)) := Heap.SameBut.update ..
  generalize s.heap.update it (Obj.mapFields fun x => x.setIfInBounds 0 Value.none) = hu at sb ⊢
  have h1' : hu.get? x1 = some o1 := (sb.2 _ hi1).trans h1
  show wpAny _ _ (newExc (.type "StopIteration") [] >>= _) _ _ _
  apply wpAny_bind
  simp only [newExc, newTuple]
  apply wpAny_bind
  refine wpAny_newObj_type ?_ (by size_fits)
  refine wpAny_bind (m := firstArgMember _ _) (wpAny_of_eq (a := Value.none) (by first | rfl | (simp only [firstArgMember]; rfl)) (wpAny_newObj_type ?_ (by size_fits)))
  refine raiseNew_hot ⟨hh, o1, vs1, Heap.get?_push_of_some _ (Heap.get?_push_of_some _ h1'), d1, c1⟩ ?_ (Heap.get?_push_size _ rfl) rfl (by first | (simp; done) | (simp; omega) | (simp only [Array.size_append]; simp; omega)) ?_
  · exact Nat.ne_of_lt (Heap.lt_size (Heap.get?_push_of_some _ h1'))
  apply wpAny_bind
  refine wpAny_isInstance (T := "StopIteration") (b := true) ⟨_, Heap.get?_update_self _ (Heap.get?_push_size _ rfl) rfl, rfl⟩ isSubtype_stop (wpAny_pure (hQ _ fun b o hb e => ?_))
  have e' : hu.get? b = some o := (sb.2 _ hb).trans e
  exact (Heap.get?_update_other _ _ (Nat.ne_of_gt (Heap.lt_size (Heap.get?_push_of_some _ e')))).trans (Heap.get?_push_of_some _ (Heap.get?_push_of_some _ e'))
end
end Tok
namespace Tok
open PySem PySem.Spec PyProof.Rows L2 HotX
section
variable {prog : Program} {w : World} {A : Around} {E : Value → Shared → Prop} {s : Shared}
theorem unpack_hot {t x1 : Addr} {items : Array Value} {Q : List Value → Shared → Prop} (hot : HotAt A x1 s.heap) (ht : IsTup s.heap t items) (hQ : ∀ h', Heap.ExtBut s.heap.objs.size s.heap h' → Q items.toList { s with heap := h' }) :
    wpAny (model prog w) A (unpackItems (.ref t) items.size Option.none) Q E s := by
  have hlt : t ≠ s.heap.objs.size := by obtain ⟨o, ho, _⟩ := ht; exact Nat.ne_of_lt (Heap.lt_size ho)
  obtain ⟨hh, o1, vs1, h1, d1, c1⟩ := hot
  unfold unpackItems
  apply wpAny_bind
  unfold notIterableAtAll
  apply wpAny_bind
  refine wpAny_specialOf ht.typeIs slot_tuple_iter.lookup (wpAny_pure ?_)
  simp only [Bool.false_eq_true, if_false]
  apply wpAny_bind
  refine wpAny_holding (iter_tuple ht ?_)
  apply wpAny_bind
  refine wpAny_holding (draw_tuple hlt items.size 0 _ _ ⟨_, Heap.get?_push_size _ rfl, rfl, rfl⟩ (ht.push _) (by omega) ?_)
  intro hq hit1 hs1
  have hall : (items.toList.drop 0).take items.size = items.toList := by rw [List.drop_zero, List.take_of_length_le]; simp
  rw [hall, if_neg (by simp)]
  have ht1 : IsTup hq t items := (ht.push _).extBut hs1.extBut hlt
  have nx : x1 ≠ s.heap.objs.size := Nat.ne_of_lt (Heap.lt_size h1)
  have g1 : hq.get? x1 = some o1 := (hs1.2 _ nx).trans (Heap.get?_push_of_some _ h1)
  apply wpAny_bind
  refine wpAny_holding (tup_end_hot (x1 := x1) ⟨hh, o1, vs1, g1, d1, c1⟩ nx hit1 ht1 (by simp) fun h2 he2 => ?_)
  simp only [Option.isSome_none, Bool.false_eq_true, if_false]
  exact wpAny_pure (hQ h2 fun b o hb e => he2 b o hb (hs1.extBut b o hb (Heap.get?_push_of_some _ e)))
end
/-- a, b = e, f in an except suite -/
theorem ps_parH {X : Cx} {pos : Pos} {i j : Nat} {x y : Str} {a b : Expr} {ta : TA} {px py pt : Pos} {kt : Nat} {k2 : Nat} {pt2 : Pos} (hc : L2H.HotC X) (hN : X.N.Nodup) (hi : X.N[i]? = some x) (hj : X.N[j]? = some y) (hij : i ≠ j)
    (hx : X.env.scope.names.lookup x = some .local) (hy : X.env.scope.names.lookup y = some .local) (ha : PA X [a, b] ta)
    (hw : swappedStores [.Tuple [.Name x px, .Name y py] kt pt] (.Tuple [a, b] k2 pt2) X.env = pure (some [x, y])) (hs : swapsWithSole [.Tuple [.Name x px, .Name y py] kt pt] (.Tuple [a, b] k2 pt2) pos.line X.env = pure false := by rfl) :
    PS X (.Assign [.Tuple [.Name x px, .Name y py] kt pt] (.Tuple [a, b] k2 pt2) pos) (tPar i j ta) := by
  refine ⟨fun pins s σ H D I h => ?_⟩
  rw [exec_Assign_arm]
  apply wpAny_bind
  refine wpAny_standAt ?_
  rw [hs]
  apply wpAny_bind
  refine wpAny_pure ?_
  rw [if_neg (by decide)]
  apply wpAny_bind
  refine Tuple_ (thn (ha.run _ pins s σ H _ I h) ?_)
  rintro us s1 ⟨vs, H1, I1, r1, v, w, e1, q1⟩
  subst e1
  cases r1 with | cons rv r1 => cases r1 with | cons rw' r1 => cases r1 with | nil =>
  rename_i u1 u2
  refine wpAny_newObj_type ?_ (by show 2 ≤ sizeLine; decide)
  have I2 : Inv X pins σ H1 { s1 with heap := s1.heap.push { cls := .type "tuple", data := .seq [u1, u2].toArray } } := I1.kept (t' := s1.toks) fun b o e => Heap.get?_push_of_some _ e
  obtain ⟨x1, hot⟩ := hc.at I2
  rw [hw]
  apply wpAny_bind
  refine wpAny_pure ?_
  show wpAny (model X.prog X.w) X.A (do rule "assign.swapped-stores"; let items ← unpackItems (.ref s1.heap.objs.size) 2 .none; assignInOrder [fun v => bindName X.env y v, fun v => bindName X.env x v] items.reverse; pure Flow.next) _ _ _
  apply wpAny_bind
  refine wpAny_rule ?_
  apply wpAny_bind
  refine unpack_hot (items := #[u1, u2]) hot (IsTup.new s1.heap _) fun h' hx' => ?_
  have I3 := I2.kept (h' := h') (t' := s1.toks) fun b o e => hx' b o (Nat.ne_of_lt (Heap.lt_size e)) e
  show wpAny _ _ (assignInOrder [fun v => bindName X.env y v, fun v => bindName X.env x v] [u2, u1] >>= fun _ => pure Flow.next) _ _ _
  apply wpAny_bind
  refine assignInOrder_cons (wpAny_bindName (store_ok I3 hN hj (.inl hy) rw' ?_ (.inr hy)))
  intro s2 I4
  refine assignInOrder_cons (wpAny_bindName (store_ok I4 hN hi (.inl hx) rv ?_ (.inr hx)))
  intro s3 I5
  refine assignInOrder_nil (wpAny_pure ?_)
  rw [List.set_comm _ _ (Ne.symm hij)] at I5
  exact ⟨_, H1, I5, q1⟩
end Tok
namespace Tok
open PySem PySem.Spec PyProof.Rows L2
/-! ## isinstance of the exception that the suite holds -/
def rIsX (K : PySem.W.Frag) (D a : Addr) (cls : Value) (d : Option Addr) : List V → Hp → VK → Prop := fun xs H Q => ∃ c, xs = [V.ref a, c] ∧ cls = .ref D ∧ (d = Option.none ∨ ∃ dd fs, d = some dd ∧ H dd = some (.xd fs)) ∧
  ((∃ cv b, (∀ u, RelV c u → u = cv) ∧ PySem.W.kitOne K (.ref D) cv = some b ∧ Q (.bl b) H) ∨ ∃ tp cs cvs b, c = .ref tp ∧ H tp = some (.tup cs) ∧ (∀ us, Vals cs us → us = cvs) ∧ PySem.W.kitAny K (.ref D) cvs = some b ∧ Q (.bl b) H)
theorem call_isX {X : Cx} {a D : Addr} {d : Option Addr} {oe : Obj} {pn : List (Addr × Obj)} (C : L2.ExcC X.K D) {cls : Value} (hz : Zc cls d oe) (hf : ∃ vs, oe.data = .fields vs) : CallR (X.suite a ((a, oe) :: pn)) (.builtin "isinstance") (rIsX X.K D a cls d) := fun pins s σ H xs us Q I r h => by
  obtain ⟨c, rfl, rfl, hd, q⟩ := h
  cases r with | cons rx r => cases r with | cons rt r => cases r with | nil =>
  cases rx
  rename_i u
  obtain ⟨hget, _⟩ := I.pin (a, oe) (List.mem_append.mpr (.inl List.mem_cons_self))
  obtain ⟨vs, hv⟩ := hf
  obtain ⟨cd, hcd, _⟩ := PySem.W.any_some C.hd
  have hcl : (PySem.W.clsIn X.K D).isSome = true := by rw [hcd]; rfl
  obtain ⟨od, J⟩ : ∃ od, PySem.W.InstAt s.heap a oe D od := by
    have nc : PySem.W.notCls oe := by unfold PySem.W.notCls; rw [hv] <;> trivial
    rcases hd with rfl | ⟨dd, fs, rfl, hdd⟩
    · exact ⟨Option.none, hget, hz.1, nc, by rw [hz.2]; trivial⟩
    · have hx : ObjOk X.prog X.w H s.heap dd (.xd fs) := I.hok dd _ hdd
      obtain ⟨mA, hns, _⟩ := hx
      obtain ⟨od, ho, _⟩ := lookIn_ns hns
      exact ⟨some od, hget, hz.1, nc, by rw [hz.2]; exact ho⟩
  have Z := PySem.W.kitx_exc (K := X.K) (x := a) (ox := oe) (od := od) hcl C.hg C.hk C.hs C.ha C.hn C.ht C.hm
  have hne : Value.ref a ≠ .builtin "__main__.__loader__#opaque" := fun z => nomatch z
  rcases q with ⟨cv, b, hcv, e, q⟩ | ⟨tp, cs, cvs, b, rfl, htp, hcv, e, q⟩
  · obtain rfl := hcv _ rt
    exact PySem.W.kia_one Z I.kIn J e hne fun tk => ⟨.bl b, H, I.kept (t' := tk) fun _ _ z => z, rfl, q⟩
  · cases rt
    obtain ⟨its, rv, ⟨o, ho, hc, n, hdt⟩, _⟩ := I.tuple (.inl (.inl htp))
    obtain rfl := hcv _ rv
    obtain ⟨ocl, odc, odt, osl⟩ := o
    dsimp only at hc hdt
    subst hc hdt
    exact PySem.W.kia_tup Z I.kIn J ho e hne fun tk => ⟨.bl b, H, I.kept (t' := tk) fun _ _ z => z, rfl, q⟩
end Tok
namespace Tok
open PySem PySem.Spec PyProof.Rows L2
/-! ## try: x = e; except C as n: f, g = n.fl, isinstance(n, S) and not isinstance(n, (B1, B2)) -/
def tGood (K : PySem.W.Frag) (D a : Addr) (cls : Value) (d : Option Addr) (ie : Nat) (v1 v2 v3 : V) : TE := tAndV (tCB (rIsX K D a cls d) (tCons (tVar ie) (tCons (tC v1) tNil))) (tNotV (tCB (rIsX K D a cls d) (tCons (tVar ie) (tCons (tTup (tCons (tC v2) (tCons (tC v3) tNil))) tNil))))
def tSuiteAt (K : PySem.W.Frag) (D : Addr) (fl : Str) (ie jf jg : Nat) (v1 v2 v3 : V) : Addr → Value → Option Addr → TS := fun a cls d => tPar jf jg (tCons (tXf a cls d D fl (tVar ie)) (tCons (tGood K D a cls d ie v1 v2 v3) tNil))
def sTryAt (ie i jf jg c : Nat) (fl : Str) (m : Den) : DenS := fun ρ S => if ie < ρ.length then (match m ρ S with
  | .ok d S1 => .ok (.nx (ρ.set i (some d))) S1
  | .exn c' fs S1 => if c' = c then (match fs.lookup fl with
    | some v => .ok (.nx (((ρ.set jf (some v)).set jg (some (.bl true))).set ie none)) S1
    | none => .bad) else .bad
  | .bad => .bad) else .bad
theorem set_none {G : Gx} {ρ : Env} {σ : L2.St} {η : List Addr} {T : Hp} (f : FRel G ρ σ η T) (i : Nat) : FRel G (ρ.set i none) (σ.set i none) η T := f.wipe [i] |> fun z => by
  have e1 : wipeD ρ [i] = ρ.set i none := rfl
  have e2 : wipe σ [i] = σ.set i none := rfl
  rw [e1, e2] at z
  exact z
theorem s_tryAt {X : Cx} {G : Gx} {W : WX} {st : Stmt} {ie i jf jg c : Nat} {fl : Str} {m : Den} {a1 a2 a3 : Addr} (hf : ie ≠ jf) (hg : ie ≠ jg) (te : PySem.W.exmOne X.K (.ref (G.CA c)) (.ref (G.CA c)) = some true) (k1 : PySem.W.kitOne X.K (.ref (G.CA c)) (.ref a1) = some true) (k2 : PySem.W.kitAny X.K (.ref (G.CA c)) [.ref a2, .ref a3] = some false)
    (h : PS X st (fun Dn σ H => tAsg (tE G (wAs X.K (.ref (G.CA c)) ie (tSuiteAt X.K (G.CA c) fl ie jf jg (.ref a1) (.ref a2) (.ref a3)) (fun _ _ _ _ => False) Dn) m) (gName i) Dn σ H)) : PS X st (tS G W (sTryAt ie i jf jg c fl m)) :=
  h.imp fun Dn σ H ⟨ρ, S, η, T, F, f, g, p⟩ => by
    refine ⟨ρ, S, η, T, F, f, g, ?_⟩
    unfold sTryAt at p
    split at p
    rotate_left
    · exact p.elim
    rename_i hie
    rw [f.len] at hie
    cases q : m ρ S with
    | bad => rw [q] at p; exact p.elim
    | ok d S1 =>
      rw [q] at p
      exact fun v H' η' T' e' g' r' => p _ H' η' T' e' g' ((f.mono e').set i r')
    | exn c' fs S1 =>
      rw [q] at p
      dsimp only at p
      split at p
      · rename_i hc
        subst hc
        cases ql : fs.lookup fl with
        | none => rw [ql] at p; exact p.elim
        | some d =>
          rw [ql] at p
          rintro cls dd H' η' T' e' g' ⟨rfl, x⟩
          cases fs with
          | nil => cases ql
          | cons f0 fr =>
            obtain ⟨dx, fv, rfl, hx, rf⟩ := x
            obtain ⟨v, hv, rv⟩ := look_rep rf ql
            refine ⟨true, te, fun _ a ha => ?_, fun z => Bool.noConfusion z⟩
            have get : (σ.set ie (some (V.ref a)))[ie]? = some (some (V.ref a)) := by rw [List.getElem?_set_self hie]
            refine ⟨.ref a, get, rfl, rfl, dx, fv, v, rfl, hx, hv, ?_⟩
            refine ⟨.ref a, get, .ref a1, rfl, rfl, .inr ⟨dx, fv, rfl, hx⟩, .inl ⟨.ref a1, true, fun u r => r, k1, true, rfl, ?_⟩⟩
            rw [if_pos rfl]
            refine ⟨.ref a, get, by show 2 ≤ sizeLine; decide, fun tp htp => ⟨.ref tp, rfl, rfl, .inr ⟨dx, fv, rfl, ?_⟩, .inr ⟨tp, _, [.ref a2, .ref a3], false, rfl, upd_same, fun us r => ?_, k2, false, rfl, v, .bl true, rfl, ?_⟩⟩⟩
            · rw [upd_ne (ne_of_none hx htp)]; exact hx
            · cases r with | cons r1 r => cases r with | cons r2 r => cases r with | nil => cases r1; cases r2; rfl
            · have e1 : ((((σ.set ie (some (V.ref a))).set jf (some v)).set jg (some (.bl true))).set ie none) = (((σ.set jf (some v)).set jg (some (.bl true))).set ie none) := by
                rw [List.set_comm _ _ hf, List.set_comm _ _ hg, List.set_set]
              show Dn.nx ((((σ.set ie (some (V.ref a))).set jf (some v)).set jg (some (.bl true))).set ie none) _
              rw [e1]
              exact p _ _ η' T' e' (g'.beside htp _) (set_none ((((f.mono e').set jf rv).set jg .bl)) ie)
      · exact p.elim
end Tok
namespace Tok
open PySem PySem.Spec PyProof.Rows L2
/-! ## f(p = e, ..): all by name, in the parameters' order -/
structure FnK (G : Gx) (P : Program) (w : World) (K : PySem.W.Frag) (mg : Str → Option Value) (base : Heap) (x : Str) (k : Nat) (ps : List Str) (f : DF) : Prop where
  ex : ∃ (fa : Addr) (fd : FuncData), FnOk P w K mg base (L2N.CX P w) k fa fd ps (spD G ps.length f) ∧ mg x = some (.ref fa) ∧ PySem.W.keepIn K (.ref fa) = true ∧ ∀ (s : Shared) (ws : List Value), K.In s.heap → ws.length = ps.length → BindsTo s fd ⟨[], ps.zip ws⟩ (ps.zip ws)
section
variable {X : Cx} {G : Gx} {W : WX} {pos : Pos} {na : DenA} {k : Nat} {ps : List Str} {f : DF} {x : Str} {kws : List Keyword}
theorem kw_imp {t t' : TA} (h : PK X kws t) (k : ∀ σ H Q, t' σ H Q → t σ H Q) : PK X kws t' := ⟨fun pos pins s σ H Q I q => h.run pos pins s σ H Q I (k σ H Q q)⟩
theorem kw_nil : PK X [] (tA G W aNil) := kw_imp pk_nil fun σ H Q ⟨ρ, S, η, T, F, fr, g, p⟩ => p.ok g .nil
theorem kw_cons {e : Expr} {nm : Option Str} {kpos : Pos} {ma : Den} (ha : PE X e (tE G W ma)) (hr : PK X kws (tA G W na)) : PK X (⟨nm, e, kpos⟩ :: kws) (tA G W (aCons ma na)) :=
  kw_imp (pk_cons ha hr) fun σ H Q ⟨ρ, S, η, T, F, fr, g, p⟩ => tE_step fr g p fun d v S1 H1 η1 T1 _ e1 f1 g1 r1 p1 => tA_step f1 g1 p1 fun ds vs S2 H2 η2 T2 _ e2 f2 g2 r2 p2 => p2.ok g2 (.cons (r1.mono e2) r2)
theorem d_callKw {p : Pos} (hf : FnK G X.prog X.w X.K X.mg X.base x k ps f) (hr : Room k X.A) (tk : L2N.Takes X W) (hg : Gl X x) (ha : PK X kws (tA G W na)) (hl : ∀ ρ S ds S1, na ρ S = .ok ds S1 → ds.length = ps.length)
    (hall : (backToKw pos (keywordEach kws X.env)).all (·.1.isSome) = true := by rfl) (hks : (backToKw pos (keywordEach kws X.env)).filterMap (·.1) = ps := by rfl) (hdb : (x == ("__debug__" : Str)) = false := by decide)
    (hpl : ((backTo pos (starEach [] X.env)).any (·.1) || (backToKw pos (keywordEach kws X.env)).any (·.1.isNone)) = false := by rfl) : PE X (.Call (.Name x p) [] kws pos) (tE G W (dCall f na)) := by
  obtain ⟨fa, fd, F1, hm, hk, hb⟩ := hf.ex
  refine ⟨fun pins s σ H Q I ⟨ρ, S, η, T, F, fr, g, q⟩ => ?_⟩
  apply wpAny_Call_Name_kw
  refine ld_glob I hg hm ?_ hdb
  refine PySem.W.callWith_KW0 (h₀ := X.base) I.ok.mod.kin hk hall (thn (ha.run pos pins _ σ H (fun vs H1 => spD G ps.length f vs H1 Q (fun cls d H => W cls d σ H)) (I.tok _) ?_) ?_) hpl
  · exact tA_step fr g q fun d v S1 H1 η1 T1 e0 e1 f1 g1 r1 p1 => ⟨by rw [← r1.length, hl _ _ _ _ e0], d, S1, η1, T1, F, g1, r1, post_W p1 fun _ _ _ h => h⟩
  · rintro ws s1 ⟨vs, H1, I1, rz, sp⟩
    refine ⟨I1.kIn, ?_⟩
    rw [hks]
    have h1 : vs.length = ps.length := sp.1
    have h2 : ws.length = ps.length := by rw [← rz.length]; exact h1
    apply wpAny_call
    refine codeAny_mono (F1.run X.A X.stack s1 H1 ⟨[], ps.zip ws⟩ ws vs Q _ hr I1.env0 (hb s1 ws I1.kIn h2) rz sp) fun r s' hq => ?_
    cases r with
    | error e => exact L2N.passAt tk σ pins H1 s1 e s' I1 hq
    | ok fl => cases fl with
      | ret u => exact I1.after hq
      | next => exact hq.elim
      | brk => exact hq.elim
      | cont => exact hq.elim
end
end Tok
namespace Tok
open PySem PySem.Spec PyProof.Rows L2
/-! ## for x in e, e a list or a tuple -/
section
variable {X : Cx} {G : Gx} {W : WX} {tg e : Expr} {m : Den}
theorem pi_both {tl : TE} (hl : PE X e tl) : PI X tg e (fun σ H R => tl σ H fun x H1 => ∃ a, x = .ref a ∧ (((∃ xs, SqL X.K H1 a xs) ∧ R (Itl X.K a) H1) ∨ ((∃ xs, SqT X.K H1 a xs) ∧ R (Itt X.K a) H1))) := ⟨fun pins s σ H R I h => by
  refine thn (hl.run pins s σ H _ I h) ?_
  rintro v s1 ⟨x, H1, I1, r1, a, rfl, q⟩
  cases r1
  rcases q with ⟨⟨xs, hq⟩, q⟩ | ⟨⟨xs, hq⟩, q⟩
  · obtain ⟨its, rv, p, _⟩ := I1.list hq
    apply wpAny_pyIter_list p.isList
    refine ⟨_, [s1.heap.objs.size], _, _, H1, rfl, I1.kept (t' := s1.toks) fun b o e => Heap.get?_push_of_some _ e, turn_list a _, ⟨_, Heap.get?_push_size _ rfl, rfl, rfl⟩, fun b hb => ?_, q⟩
    rw [List.mem_singleton.mp hb]
    exact I1.fpOk (Nat.le_refl _) (I1.hok.fresh (Nat.le_refl _))
  · obtain ⟨its, rv, p, _⟩ := I1.tuple hq
    apply wpAny_pyIter_tuple (show s1.heap.IsTuple a its.toArray from p)
    refine ⟨_, [s1.heap.objs.size], _, _, H1, rfl, I1.kept (t' := s1.toks) fun b o e => Heap.get?_push_of_some _ e, turn_tuple a _, ⟨_, Heap.get?_push_size _ rfl, rfl, rfl⟩, fun b hb => ?_, q⟩
    rw [List.mem_singleton.mp hb]
    exact I1.fpOk (Nat.le_refl _) (I1.hok.fresh (Nat.le_refl _))⟩
def iAny (m : Den) : DenI := fun ρ S => (m ρ S).bind fun d S1 => match d with
  | .lst ds => .ok ds S1
  | .tup ds => .ok ds S1
  | _ => .bad
theorem yields_lst {F : Hp} {a : Addr} {ds : List D} {vs : List V} {η : List Addr} {T : Hp} (hK : G.K = X.K) (h : SqL G.K T a vs) (r : Reps G η T ds vs) : Yields G F (Itl X.K a) ds η T := by
  intro η2 T2 H2 S2 F2 i e2 g2 _
  have key : SqL X.K H2 a vs := hK ▸ sqL_mono g2.sub (sqL_mono e2.sub h)
  refine ⟨fun hl => ⟨vs, key, by rw [← r.length]; exact hl⟩, fun d hd => ?_⟩
  obtain ⟨x, hx, rx⟩ := r.get hd
  refine ⟨⟨vs, x, key, hx⟩, fun y H3 hy => ?_⟩
  obtain ⟨rfl, hy⟩ := hy
  have q := hy vs key
  rw [hx] at q; cases q
  exact ⟨η2, T2, Ext.refl, g2, rx.mono e2⟩
theorem i_any (hK : G.K = X.K) (h : PE X e (tE G W m)) : PI X tg e (tI G W (iAny m)) := (pi_both h).imp fun σ H Q ⟨ρ, S, η, T, F, f, g, p⟩ => tE_step f g p fun d v S1 H1 η1 T1 _ e1 f1 g1 r1 p1 => by
  cases r1 with
  | @lst a vs ds h r => exact ⟨a, rfl, .inl ⟨⟨vs, hK ▸ sqL_mono g1.sub (SqL.of h)⟩, p1 _ H1 η1 T1 Ext.refl g1 (yields_lst hK (SqL.of h) r)⟩⟩
  | @tup a vs ds h r => exact ⟨a, rfl, .inr ⟨⟨vs, hK ▸ sqT_mono g1.sub h⟩, p1 _ H1 η1 T1 Ext.refl g1 (yields_tup hK h r)⟩⟩
  | _ => exact p1.elim
end
end Tok
namespace Tok
open PySem PySem.Spec PyProof.Rows L2
theorem hotC_of {X : Cx} {a : Addr} {oe : Obj} {pn : List (Addr × Obj)} {cls : Value} {d : Option Addr} (hz : L2N.Zn cls d oe) (hf : ∃ vs, oe.data = .fields vs) : L2H.HotC (X.suite a ((a, oe) :: pn)) := by
  obtain ⟨vs, hv⟩ := hf
  exact ⟨(a, oe), ⟨rfl, vs, hv, hz.2.2 vs hv⟩, List.mem_cons_self⟩
theorem takes0N {X : Cx} : L2N.Takes X (fun _ _ _ _ => False) := fun u s' ⟨_, _, _, _, _, _, _, _, _, _, _, _, _, _, _, _, z⟩ => z.elim
/-- such a __len__ -/
theorem lenFn_mk {P : Program} {w : World} {K : PySem.W.Frag} {mg : Str → Option Value} {base : Heap} {qual fl : Str} {st : Stmt} {C f : Addr} {fd : FuncData} {N : List Str} {k : Nat}
    (Ff : Fun K "__len__" qual st f fd) (Sc : FnScope N ["self"] (defScope st)) (bd : Binds K fd ["self"] []) (at_ : PySem.W.findIn K (.ref C) "__len__" = some (some (.ref f))) (fn : PySem.W.isFn K (.ref f) = true) (hc : Cls K C) (hn : NoAttr K C fl)
    (hb : ∀ (cdv : Value) (A : Around) (outer : List PySem.Env) (s : Shared) (H : Hp) (E : XK), PSs (cxOf (L2N.CX P w) P w K mg base N qual (defScope st) f cdv A outer s H E) (defBody st) (tRet (tCB (fun xs H Q => ∃ p ys, xs = [V.ref p] ∧ (SqL K H p ys ∨ SqT K H p ys) ∧ Q (.int ys.length) H) (tCons (tFld K (tVar 0) fl) tNil)))) : LenFn P w K mg base C f fl (k + 1) := by
  refine ⟨at_, fn, fd, ?_, bd⟩
  obtain ⟨oc, od, kV, doc, pm, an, cdv, ct, osl, rfl, lk, hcd⟩ := Ff.ex
  refine fn_of lk hcd Sc (fun vs H Q E h => by obtain ⟨_, _, _, _, _, rfl, _⟩ := h; rfl) fun A outer s H vs Q E hr h => ⟨_, hb cdv A outer s H E, ?_⟩
  obtain ⟨p, dx, fv, a, xs, rfl, hp, hl, hs, q⟩ := h
  have h0 : (L2.start N [V.ref p])[0]? = some (some (V.ref p)) := by unfold L2.start; simp
  exact ⟨.ref p, h0, p, C, dx, fv, .ref a, rfl, hp, hc, hn, hl, a, xs, rfl, .inr hs, q⟩
end Tok
namespace Tok
open PySem PySem.Spec PyProof.Rows L2
/-! ## try: e; except C as n: x = x + int(not isinstance(n, B)) -/
def tSuiteNo (G : Gx) (K : PySem.W.Frag) (D : Addr) (ie jf : Nat) (v1 : V) : Addr → Value → Option Addr → TS := fun a cls d =>
  tAsg (tOp (rI0 fun i j => .int (i + j)) (tVar jf) (tCB (rN G intD) (tCons (tNotV (tCB (rIsX K D a cls d) (tCons (tVar ie) (tCons (tC v1) tNil)))) tNil))) (gName jf)
def sTryNo (ie jf c : Nat) (m : Den) : DenS := fun ρ S => if ie < ρ.length then (match m ρ S with
  | .ok d S1 => .ok (.nx ρ) S1
  | .exn c' fs S1 => if c' = c ∧ fs = [] then (match ρ[jf]? with
    | some (some (.int k)) => .ok (.nx ((ρ.set jf (some (.int (k + 1)))).set ie none)) S1
    | _ => .bad) else .bad
  | .bad => .bad) else .bad
theorem s_tryNo {X : Cx} {G : Gx} {W : WX} {st : Stmt} {ie jf c : Nat} {m : Den} {a1 : Addr} (hf : ie ≠ jf) (te : PySem.W.exmOne X.K (.ref (G.CA c)) (.ref (G.CA c)) = some true) (k1 : PySem.W.kitOne X.K (.ref (G.CA c)) (.ref a1) = some false)
    (h : PS X st (fun Dn σ H => tDrop (tE G (wAs X.K (.ref (G.CA c)) ie (tSuiteNo G X.K (G.CA c) ie jf (.ref a1)) (fun _ _ _ _ => False) Dn) m) Dn σ H)) : PS X st (tS G W (sTryNo ie jf c m)) :=
  h.imp fun Dn σ H ⟨ρ, S, η, T, F, f, g, p⟩ => by
    refine ⟨ρ, S, η, T, F, f, g, ?_⟩
    unfold sTryNo at p
    split at p
    rotate_left
    · exact p.elim
    rename_i hie
    rw [f.len] at hie
    cases q : m ρ S with
    | bad => rw [q] at p; exact p.elim
    | ok d S1 =>
      rw [q] at p
      exact fun v H' η' T' e' g' r' => p _ H' η' T' e' g' (f.mono e')
    | exn c' fs S1 =>
      rw [q] at p
      dsimp only at p
      split at p
      · rename_i hc
        obtain ⟨rfl, rfl⟩ := hc
        split at p
        · rename_i k hk
          rintro cls dd H' η' T' e' g' ⟨rfl, rfl⟩
          obtain ⟨v, hv, rv⟩ := f.get _ _ hk
          cases rv
          refine ⟨true, te, fun _ a ha => ?_, fun z => Bool.noConfusion z⟩
          have get : (σ.set ie (some (V.ref a)))[ie]? = some (some (V.ref a)) := by rw [List.getElem?_set_self hie]
          refine ⟨.int k, by rw [List.getElem?_set_ne hf]; exact hv, .ref a, get, .ref a1, rfl, rfl, .inl rfl, .inl ⟨.ref a1, false, fun u r => r, k1, false, rfl, ?_⟩⟩
          refine ⟨S1, η', T', F, [.bl true], g', .cons .bl .nil, .int 1, rfl, fun w H2 η2 T2 e2 g2 r2 => ?_⟩
          cases r2
          refine ⟨k, 1, rfl, rfl, ?_⟩
          have e1 : (((σ.set ie (some (V.ref a))).set jf (some (.int (k + 1)))).set ie none) = ((σ.set jf (some (.int (k + 1)))).set ie none) := by
            rw [List.set_comm _ _ hf, List.set_set]
          show Dn.nx (((σ.set ie (some (V.ref a))).set jf (some (.int (k + 1)))).set ie none) _
          rw [e1]
          exact p _ _ η2 T2 (e'.trans e2) g2 (set_none (((f.mono (e'.trans e2)).set jf .int)) ie)
        · exact p.elim
      · exact p.elim
end Tok
namespace Tok
open PySem L2

/-! ## facts of classes -/
section
variable {K : PySem.W.Frag} {C : Addr} {t : Value} {b : Bool}
theorem kit_own (ic : PySem.W.isClsIn K C = true) (tc : PySem.W.typeIn K (.ref C) = some (.type "type")) (ss : PySem.W.subIn K (.ref C) (.ref C) = some true) (s : PySem.W.subIn K t (.ref C) = some b) : PySem.W.kitOne K t (.ref C) = some b := by
  unfold PySem.W.kitOne
  split
  · rename_i e
    have e' : t = .ref C := by simpa using e
    subst e'
    exact ss.symm.trans s
  · have ic' : (PySem.W.clsIn K C).isSome = true := ic
    unfold PySem.W.kitCls
    dsimp only
    rw [ic', tc]
    exact s
theorem kit_bt {n : String} (hm : PySem.W.kitMeta n = true) (s : PySem.W.subIn K (.ref C) (.type n) = some b) : PySem.W.kitOne K (.ref C) (.type n) = some b := by
  unfold PySem.W.kitOne
  have e : (Value.ref C == Value.type n) = false := rfl
  rw [e, if_neg Bool.false_ne_true]
  unfold PySem.W.kitCls
  dsimp only
  rw [if_pos hm]
  exact s
theorem exm_own (eb : PySem.W.subIn K (.ref C) (.type "BaseException") = some true) (ic : PySem.W.isClsIn K C = true) (tc : PySem.W.typeIn K (.ref C) = some (.type "type")) (s : PySem.W.subIn K t (.ref C) = some b) : PySem.W.exmOne K t (.ref C) = some b := by
  have ic' : (PySem.W.clsIn K C).isSome = true := ic
  unfold PySem.W.exmOne
  rw [eb, if_pos (by rfl)]
  unfold PySem.W.kitCls
  dsimp only
  rw [ic', tc]
  exact s
theorem kit_any2 {x y : Value} (h1 : PySem.W.kitOne K t x = some false) (h2 : PySem.W.kitOne K t y = some false) : PySem.W.kitAny K t [x, y] = some false := by
  unfold PySem.W.kitAny
  rw [h1]
  dsimp only
  unfold PySem.W.kitAny
  rw [h2]
  rfl
def tyNames : List String := ["NoneType", "bool", "int", "str", "list", "tuple"]
theorem isOk_one {G : Gx} {c : Nat} (hc : Cls K (G.CA c)) (h1 : PySem.W.findIn K (.ref (G.CA c)) "__class__" = some (some (.builtin "object.__class__"))) (h2 : PySem.W.mroIn K (G.CA c) (.type "object") = some true)
    (d1 : PySem.W.specialIn K (.builtin "object.__class__") "__get__" = some (some (.builtin "getset_descriptor.__get__"))) (d2 : PySem.W.takesIn K (.builtin "object.__class__") = some true)
    (ic : PySem.W.isClsIn K (G.CA c) = true) (tc : PySem.W.typeIn K (.ref (G.CA c)) = some (.type "type")) (ss : PySem.W.subIn K (.ref (G.CA c)) (.ref (G.CA c)) = some true)
    (f : ∀ n ∈ tyNames, PySem.W.subIn K (.ref (G.CA c)) (.type n) = some false ∧ PySem.W.subIn K (.type n) (.ref (G.CA c)) = some false) : IsOk G K [c] where
  obj := fun x hx => by
    obtain rfl : x = c := by simpa using hx
    exact ⟨hc, h1, h2⟩
  dsc := ⟨d1, d2⟩
  own := fun t u ht hu h => by
    have nm : ∀ n ∈ tyNames, PySem.W.kitMeta n = true := by decide +kernel
    have l : ∀ n ∈ tyNames, PySem.W.kitOne K (.ref (G.CA c)) (.type n) = some false := fun n hn => kit_bt (nm n hn) (f n hn).1
    have r : ∀ n ∈ tyNames, PySem.W.kitOne K (.type n) (.ref (G.CA c)) = some false := fun n hn => kit_own ic tc ss (f n hn).2
    have s : PySem.W.kitOne K (.ref (G.CA c)) (.ref (G.CA c)) = some true := kit_own ic tc ss ss
    have tt : ∀ x, t = .own x → x = c := fun x e => by simpa using ht x e
    have uu : ∀ x, u = .own x → x = c := fun x e => by simpa using hu x e
    cases t <;> cases u <;> first
      | (have e1 := tt _ rfl; have e2 := uu _ rfl; subst e1; subst e2; exact s.trans (by simp [isT]))
      | (obtain rfl := tt _ rfl; exact l _ (by decide))
      | (obtain rfl := uu _ rfl; exact r _ (by decide))
      | (obtain ⟨x, h | h⟩ := h <;> cases h)
theorem refsVE_own {c : Addr} {r : List Value} (h : PySem.HandSPX.refsVE r = true) : PySem.HandSPX.refsVE (.ref c :: r) = true := h
end

/-! ## an exception's __init__: B.__init__(self, m); self.fl = x -/
theorem spX1_ok {P : Program} {w : World} {K : PySem.W.Frag} {mg : Str → Option Value} {base : Heap} {C : Addr} {qual fl m : Str} {st : Stmt} {ps N : List Str} {fa : Addr} {fd : FuncData} (Ff : Fun K "__init__" qual st fa fd) (Sc : FnScope N ps (defScope st)) (hp : ps.length = 2) (hN : 2 ≤ N.length) (ho : OexC K C) (hno : PySem.W.findIn K (.ref C) fl = some none)
    (hb : ∀ (cdv : Value) (A : Around) (outer : List PySem.Env) (s : Shared) (H : Hp) (E : XK), PSs (cxOf (L2N.CX P w) P w K mg base N qual (defScope st) fa cdv A outer s H E) (defBody st) (tSeq (tDrop (tVeI K (tCons (tVar 0) (tCons (tC (.str m)) tNil)))) (tOst K fl (tVar 0) (tVar 1)))) :
    FnOk P w K mg base (L2N.CX P w) 1 fa fd ps (spX1 C fl) := by
  obtain ⟨oc, od, kV, doc, pm, an, cdv, ct, osl, rfl, lk, hcd⟩ := Ff.ex
  refine fn_of lk hcd Sc (fun vs H Q E h => by obtain ⟨_, _, rfl, _⟩ := h; exact hp.symm) fun A outer s H vs Q E hr h => ⟨_, hb cdv A outer s H E, ?_⟩
  obtain ⟨a, y, rfl, ha, k⟩ := h
  have h0 : (L2.start N [V.ref a, y])[0]? = some (some (V.ref a)) := by unfold L2.start; simp
  have h1 : (L2.start N [V.ref a, y])[1]? = some (some y) := by unfold L2.start; simp
  exact ⟨.ref a, h0, a, C, [.str m], rfl, Nat.le_of_ble_eq_true rfl, ho, ha, y, h1, .ref a, h0, a, C, rfl, ho, hno, .inl ⟨ha, k⟩⟩

/-! ## the law's own promise -/
def spLaw (K : PySem.W.Frag) : Sp := fun vs H Q _ => ∃ (a : Addr) (ns : List Int), vs = [.ref a] ∧ SqL K H a (ns.map V.int) ∧ ns.length ≤ 63 ∧ ∀ v H', v = .bl true → Q v H'
theorem spLaw_imp {G : Gx} {f : DF} (h : ∀ ns : List Int, ns.length ≤ 63 → ∃ S', f [.scr (ns.map .int)] [] = .ok (.bl true) S') : ∀ vs H Q E, spLaw G.K vs H Q E → spD G 1 f vs H Q E := fun vs H Q E ⟨a, ns, e, hs, hl, k⟩ => by
  subst e
  obtain ⟨S', hf⟩ := h ns hl
  refine ⟨rfl, [.scr (ns.map .int)], [], [], H, fun _ => none, ⟨fun _ _ h => h, fun _ _ h => (nomatch h), fun _ _ h => (nomatch h), rfl, List.nodup_nil, fun _ h => (nomatch h), fun _ _ _ h => (by simp at h), fun _ _ => rfl, fun _ _ _ h => (by simp at h)⟩, ?_, ?_⟩
  · refine .cons (.scr hs ?_) .nil
    clear hs hf hl
    induction ns with
    | nil => exact .nil
    | cons n r ih => exact .cons .int ih
  · rw [hf]
    exact fun v H' η' T' _ _ r => by cases r; exact k _ _ rfl
end Tok
namespace TokZ
open PySem PySem.Spec PyProof.Rows
/-! ## zip of a list or a tuple with a list or a tuple -/
/-- t: a tuple, not t: a list -/
def Sq (t : Bool) (h : Heap) (l : Addr) (xs : Array Value) : Prop := if t then h.IsTuple l xs else h.IsList l xs
def SqI (t : Bool) (h : Heap) (it l : Addr) (i : Nat) : Prop := if t then h.IsTupleIter it l i else h.IsListIter it l i
def itNm (t : Bool) : String := if t then "tuple_iterator" else "list_iterator"
theorem Sq.go {t : Bool} {h h' : Heap} {l : Addr} {xs : Array Value} (q : Sq t h l xs) (k : ∀ o, h.get? l = some o → h'.get? l = some o) : Sq t h' l xs := by
  cases t
  · exact (show h.IsList l xs from q).at k
  · exact (show h.IsTuple l xs from q).at k
theorem SqI.go {t : Bool} {h h' : Heap} {it l : Addr} {i : Nat} (q : SqI t h it l i) (k : ∀ o, h.get? it = some o → h'.get? it = some o) : SqI t h' it l i := by
  cases t
  · exact (show h.IsListIter it l i from q).at k
  · exact (show h.IsTupleIter it l i from q).at k
theorem Sq.there {t : Bool} {h : Heap} {l : Addr} {xs : Array Value} (q : Sq t h l xs) : ∃ o, h.get? l = some o := by
  cases t
  · obtain ⟨o, e, _⟩ := (show h.IsList l xs from q); exact ⟨o, e⟩
  · obtain ⟨o, e, _⟩ := (show h.IsTuple l xs from q); exact ⟨o, e⟩
theorem SqI.there {t : Bool} {h : Heap} {it l : Addr} {i : Nat} (q : SqI t h it l i) : ∃ o, h.get? it = some o ∧ o.data = .fields #[.ref l, rawInt i] := by
  cases t
  · obtain ⟨o, e, _, d⟩ := (show h.IsListIter it l i from q); exact ⟨o, e, d⟩
  · obtain ⟨o, e, _, d⟩ := (show h.IsTupleIter it l i from q); exact ⟨o, e, d⟩
section
variable {prog : Program} {w : World} {A : Around} {E : Value → Shared → Prop} {s : Shared}
theorem nx_item {t : Bool} {it l : Addr} {i : Nat} {xs : Array Value} {x : Value} {Q : Value → Shared → Prop} (hi : SqI t s.heap it l i) (hl : Sq t s.heap l xs) (hx : xs[i]? = some x)
    (k : ∀ h', SqI t h' it l (i + 1) → Heap.SameBut it s.heap h' → Q x { s with heap := h' }) : wpAny (model prog w) A (Builtin.SmallTypes.nextOf (.ref it)) Q E s := by
  cases t
  · exact wpAny_nextOf_list_item hi hl hx k
  · exact RZ.nextOf_tuple_item hi hl hx k
theorem nx_end {t : Bool} {it l : Addr} {i : Nat} {xs : Array Value} {Q : Value → Shared → Prop} (hh : A.handled = none) (hi : SqI t s.heap it l i) (hl : Sq t s.heap l xs) (hx : xs[i]? = none)
    (k : ∀ h' e, Heap.ExtBut it s.heap h' → (∃ o, h'.get? e = some o ∧ o.cls = .type "StopIteration") → E (.ref e) { s with heap := h' }) : wpAny (model prog w) A (Builtin.SmallTypes.nextOf (.ref it)) Q E s := by
  cases t
  · exact wpAny_nextOf_list_end hh hi hl hx k
  · exact RZ.nextOf_tuple_end hh hi hl hx k
end
/-- a zip's state -/
structure ZSt (t u : Bool) (h : Heap) (z TI TO p q l m : Addr) (i j : Nat) (fr : Value) (a b : Value) : Prop where
  hz : IsZip h z TI TO fr
  hI : IsPair h TI (.ref p) (.ref q)
  hO : IsPair h TO a b
  h1 : SqI t h p l i
  h2 : SqI u h q m j
section
variable {prog : Program} {w : World} {A : Around} {E : Value → Shared → Prop} {s : Shared} {t u : Bool} {z TI TO p q l m : Addr} {i j : Nat} {xs ys : Array Value} {a b : Value}
theorem zstep (D : ZipApart z TI TO p q l m) (Z : ZSt t u s.heap z TI TO p q l m i j .none a b) (hl : Sq t s.heap l xs) (hm : Sq u s.heap m ys) {x y : Value} (hx : xs[i]? = some x) (hy : ys[j]? = some y) {Q : Value → Shared → Prop}
    (k : ∀ h', ZSt t u h' z TI TO p q l m (i + 1) (j + 1) (rawInt s.heap.objs.size) x y → IsPair h' s.heap.objs.size x y → h'.objs.size = s.heap.objs.size + 1 →
      (∀ c o, c ≠ z → c ≠ TO → c ≠ p → c ≠ q → s.heap.get? c = some o → h'.get? c = some o) → Q (.ref s.heap.objs.size) { s with heap := h' }) :
    wpAny (model prog w) A (Builtin.«zip.__next__» ⟨[.ref z], []⟩) (fun fin s' => ∃ v, fin = .done (.ret v) ∧ Q v s') E s := by
  obtain ⟨zz, zI, zO, z1, z2⟩ := Z
  show wpAny (model prog w) A (field (.ref z) 2 >>= _) _ _ s
  refine wpAny_bind (wpAny_field zz rfl (x := .bool false) rfl ?_)
  show wpAny (model prog w) A (field (.ref z) 3 >>= _) _ _ s
  refine wpAny_bind (wpAny_field zz rfl (x := .ref TI) rfl (wpAny_bind (wpAny_seqItems zI rfl ?_)))
  show wpAny (model prog w) A (Builtin.SmallTypes.ownedTupleIsFree (.ref z) >>= _) _ _ s
  apply wpAny_bind
  unfold Builtin.SmallTypes.ownedTupleIsFree
  refine wpAny_bind (wpAny_field zz rfl (x := .none) rfl (wpAny_pure ?_))
  rw [if_pos (by rfl)]
  refine wpAny_bind (wpAny_rule (wpAny_bind (wpAny_field zz rfl (x := .ref TO) rfl (wpAny_bind (wpAny_setField_rec zz (by simp) fun ha za sa => ?_)))))
  have za : IsZip ha z TI TO .ellipsis := za
  apply wpAny_bind
  simp only [List.zipIdx_cons, List.zipIdx_nil, List.forIn_cons, List.forIn_nil]
  refine wpAny_bind (wpAny_bind (wpAny_onRaise ?_))
  show wpAny (model prog w) _ (Builtin.SmallTypes.nextOf (.ref p) >>= _) _ _ _
  have ka : ∀ c o, c ≠ z → s.heap.get? c = some o → ha.get? c = some o := fun c o c1 e => sa.extBut _ _ c1 e
  refine wpAny_bind (nx_item (z1.go fun o e => ka p o D.i1z e) (hl.go fun o e => ka l o D.l1z e) hx fun hb zb sb => wpAny_pure ?_)
  have kb : ∀ c o, c ≠ p → ha.get? c = some o → hb.get? c = some o := fun c o c1 e => sb.extBut _ _ c1 e
  have Ob : IsPair hb TO a b := kb _ _ D.TOi1 (ka _ _ D.TOz zO)
  refine wpAny_bind (wpAny_seqItems Ob rfl (wpAny_bind (wpAny_updateSeq_pair Ob fun hc Oc sc => ?_)))
  have Oc : IsPair hc TO x b := Oc
  have kc : ∀ c o, c ≠ TO → hb.get? c = some o → hc.get? c = some o := fun c o c1 e => sc.extBut _ _ c1 e
  refine wpAny_bind (wpAny_letGo (wpAny_pure (wpAny_bind (wpAny_bind (wpAny_onRaise ?_)))))
  show wpAny (model prog w) _ (Builtin.SmallTypes.nextOf (.ref q) >>= _) _ _ _
  refine wpAny_bind (nx_item (z2.go fun o e => kc q o D.TOi2.symm (kb q o D.i12.symm (ka q o D.i2z e))) (hm.go fun o e => kc m o D.l2TO (kb m o D.l2i1 (ka m o D.l2z e))) hy fun hd zd sd => wpAny_pure ?_)
  have kd : ∀ c o, c ≠ q → hc.get? c = some o → hd.get? c = some o := fun c o c1 e => sd.extBut _ _ c1 e
  have Od : IsPair hd TO x b := kd _ _ D.TOi2 Oc
  refine wpAny_bind (wpAny_seqItems Od rfl (wpAny_bind (wpAny_updateSeq_pair Od fun he Oe se => ?_)))
  have Oe : IsPair he TO x y := Oe
  have ke : ∀ c o, c ≠ TO → hd.get? c = some o → he.get? c = some o := fun c o c1 e => se.extBut _ _ c1 e
  refine wpAny_bind (wpAny_letGo (wpAny_pure (wpAny_pure (wpAny_bind (wpAny_seqItems Oe rfl (wpAny_bind (wpAny_newTuple ?_)))))))
  have size : he.objs.size = s.heap.objs.size := by rw [se.1, sd.1, sc.1, sb.1, sa.1]
  have all : ∀ c o, c ≠ z → c ≠ TO → c ≠ p → c ≠ q → s.heap.get? c = some o → he.get? c = some o := fun c o c1 c2 c3 c4 e => ke _ _ c2 (kd _ _ c4 (kc _ _ c2 (kb _ _ c3 (ka _ _ c1 e))))
  have ze : IsZip he z TI TO .ellipsis := ke _ _ D.TOz.symm (kd _ _ D.i2z.symm (kc _ _ D.TOz.symm (kb _ _ D.i1z.symm za)))
  have i1e : SqI t he p l (i + 1) := zb.go fun o e => ke _ _ D.TOi1.symm (kd _ _ D.i12 (kc _ _ D.TOi1.symm e))
  have i2e : SqI u he q m (j + 1) := zd.go fun o e => ke _ _ D.TOi2.symm e
  have zlt : z < he.objs.size := Heap.lt_size ze
  show wpAny (model prog w) _ (Builtin.SmallTypes.ownedTupleHandOut (.ref z) (.ref he.objs.size) >>= _) _ _ _
  apply wpAny_bind
  unfold Builtin.SmallTypes.ownedTupleHandOut
  have zf : IsZip (he.push { cls := .type "tuple", data := .seq #[x, y] }) z TI TO .ellipsis := Heap.get?_push_of_some _ ze
  refine wpAny_bind (wpAny_setField_rec zf (by simp) fun hg zg sg => ?_)
  have zg : IsZip hg z TI TO (rawInt he.objs.size) := zg
  refine wpAny_setField_rec zg (by simp) fun hr zr sr => ?_
  have zr : IsZip hr z TI TO (rawInt he.objs.size) := zr
  have up : ∀ c o, c ≠ z → he.get? c = some o → hr.get? c = some o := fun c o c1 e => sr.extBut _ _ c1 (sg.extBut _ _ c1 (Heap.get?_push_of_some _ e))
  have new : IsPair hr he.objs.size x y := sr.extBut _ _ (Nat.ne_of_gt zlt) (sg.extBut _ _ (Nat.ne_of_gt zlt) (Heap.get?_push_size _ rfl))
  have size2 : hr.objs.size = he.objs.size + 1 := by rw [sr.1, sg.1, Heap.size_push]
  have Ze : ZSt t u hr z TI TO p q l m (i + 1) (j + 1) (rawInt he.objs.size) x y := ⟨zr, up _ _ D.TIz (all _ _ D.TIz D.TITO D.TIi1 D.TIi2 zI), up _ _ D.TOz Oe, i1e.go fun o e => up _ o D.i1z e, i2e.go fun o e => up _ o D.i2z e⟩
  have fin := k hr (by rw [size] at Ze; exact Ze) (by rw [size] at new; exact new) (by rw [size2, size]) fun c o c1 c2 c3 c4 e => up c o c1 (all c o c1 c2 c3 c4 e)
  refine wpAny_pure ⟨_, rfl, ?_⟩
  show Q (.ref he.objs.size) _
  rw [size]
  exact fin
theorem zend (hh : A.handled = none) (D : ZipApart z TI TO p q l m) (Z : ZSt t u s.heap z TI TO p q l m i j .none a b) (hl : Sq t s.heap l xs) (hm : Sq u s.heap m ys) (hend : xs[i]? = none ∨ ys[j]? = none) {Q : Fin → Shared → Prop}
    (k : ∀ h' e, (∀ c o, c ≠ z → c ≠ TO → c ≠ p → c ≠ q → s.heap.get? c = some o → h'.get? c = some o) → (∃ o, h'.get? e = some o ∧ o.cls = .type "StopIteration") → E (.ref e) { s with heap := h' }) :
    wpAny (model prog w) A (Builtin.«zip.__next__» ⟨[.ref z], []⟩) Q E s := by
  obtain ⟨zz, zI, zO, z1, z2⟩ := Z
  show wpAny (model prog w) A (field (.ref z) 2 >>= _) _ _ s
  refine wpAny_bind (wpAny_field zz rfl (x := .bool false) rfl ?_)
  show wpAny (model prog w) A (field (.ref z) 3 >>= _) _ _ s
  refine wpAny_bind (wpAny_field zz rfl (x := .ref TI) rfl (wpAny_bind (wpAny_seqItems zI rfl ?_)))
  show wpAny (model prog w) A (Builtin.SmallTypes.ownedTupleIsFree (.ref z) >>= _) _ _ s
  apply wpAny_bind
  unfold Builtin.SmallTypes.ownedTupleIsFree
  refine wpAny_bind (wpAny_field zz rfl (x := .none) rfl (wpAny_pure ?_))
  rw [if_pos (by rfl)]
  refine wpAny_bind (wpAny_rule (wpAny_bind (wpAny_field zz rfl (x := .ref TO) rfl (wpAny_bind (wpAny_setField_rec zz (by simp) fun ha za sa => ?_)))))
  have za : IsZip ha z TI TO .ellipsis := za
  apply wpAny_bind
  simp only [List.zipIdx_cons, List.zipIdx_nil, List.forIn_cons, List.forIn_nil]
  refine wpAny_bind (wpAny_bind (wpAny_onRaise ?_))
  show wpAny (model prog w) _ (Builtin.SmallTypes.nextOf (.ref p) >>= _) _ _ _
  have ka : ∀ c o, c ≠ z → s.heap.get? c = some o → ha.get? c = some o := fun c o c1 e => sa.extBut _ _ c1 e
  cases hx : xs[i]? with
  | none =>
    refine wpAny_bind (nx_end hh (z1.go fun o e => ka p o D.i1z e) (hl.go fun o e => ka l o D.l1z e) hx fun hb e sb st => ?_)
    obtain ⟨oe, hoe, ce⟩ := st
    have zb : IsZip hb z TI TO .ellipsis := sb _ _ D.i1z.symm za
    have ne : e ≠ z := fun v => by subst v; rw [zb] at hoe; cases hoe; simp at ce
    refine wpAny_setField_rec zb (by simp) fun hc _ sc => k hc e (fun c o c1 _ c3 _ v => sc.extBut _ _ c1 (sb _ _ c3 (ka _ _ c1 v))) ⟨oe, sc.extBut _ _ ne hoe, ce⟩
  | some x =>
    have hy : ys[j]? = none := hend.elim (fun v => by rw [hx] at v; cases v) id
    refine wpAny_bind (nx_item (z1.go fun o e => ka p o D.i1z e) (hl.go fun o e => ka l o D.l1z e) hx fun hb zb sb => wpAny_pure ?_)
    have kb : ∀ c o, c ≠ p → ha.get? c = some o → hb.get? c = some o := fun c o c1 e => sb.extBut _ _ c1 e
    have Ob : IsPair hb TO a b := kb _ _ D.TOi1 (ka _ _ D.TOz zO)
    refine wpAny_bind (wpAny_seqItems Ob rfl (wpAny_bind (wpAny_updateSeq_pair Ob fun hc Oc sc => ?_)))
    have kc : ∀ c o, c ≠ TO → hb.get? c = some o → hc.get? c = some o := fun c o c1 e => sc.extBut _ _ c1 e
    refine wpAny_bind (wpAny_letGo (wpAny_pure (wpAny_bind (wpAny_bind (wpAny_onRaise ?_)))))
    show wpAny (model prog w) _ (Builtin.SmallTypes.nextOf (.ref q) >>= _) _ _ _
    refine wpAny_bind (nx_end hh (z2.go fun o e => kc q o D.TOi2.symm (kb q o D.i12.symm (ka q o D.i2z e))) (hm.go fun o e => kc m o D.l2TO (kb m o D.l2i1 (ka m o D.l2z e))) hy fun hd e sd st => ?_)
    obtain ⟨oe, hoe, ce⟩ := st
    have zd : IsZip hd z TI TO .ellipsis := sd _ _ D.i2z.symm (kc _ _ D.TOz.symm (kb _ _ D.i1z.symm za))
    have ne : e ≠ z := fun v => by subst v; rw [zd] at hoe; cases hoe; simp at ce
    refine wpAny_setField_rec zd (by simp) fun he _ se => k he e (fun c o c1 c2 c3 c4 v => se.extBut _ _ c1 (sd _ _ c4 (kc _ _ c2 (kb _ _ c3 (ka _ _ c1 v))))) ⟨oe, se.extBut _ _ ne hoe, ce⟩
theorem zpy_item (D : ZipApart z TI TO p q l m) (Z : ZSt t u s.heap z TI TO p q l m i j .none a b) (hl : Sq t s.heap l xs) (hm : Sq u s.heap m ys) {x y : Value} (hx : xs[i]? = some x) (hy : ys[j]? = some y) {Q : Option Value → Shared → Prop}
    (k : ∀ h', ZSt t u h' z TI TO p q l m (i + 1) (j + 1) (rawInt s.heap.objs.size) x y → IsPair h' s.heap.objs.size x y → h'.objs.size = s.heap.objs.size + 1 →
      (∀ c o, c ≠ z → c ≠ TO → c ≠ p → c ≠ q → s.heap.get? c = some o → h'.get? c = some o) → Q (some (.ref s.heap.objs.size)) { s with heap := h' }) : wpAny (model prog w) A (pyNext (.ref z)) Q E s := by
  have hT : s.TypeIs (.ref z) "zip" := ⟨_, Z.hz, rfl⟩
  unfold pyNext
  exact wpAny_bind (wpAny_attempt (wpAny_callSpecial?_slot (name := Str.ofString "__next__") hT F.slot_zip_next (wpAny_call_entry F.slot_zip_next hT F.entry_zip_next (zstep D Z hl hm hx hy fun h' a1 a2 a3 a4 => wpAny_pure (k h' a1 a2 a3 a4)) (F.args_zip_next_1 _))))
theorem zpy_end (hh : A.handled = none) (D : ZipApart z TI TO p q l m) (Z : ZSt t u s.heap z TI TO p q l m i j .none a b) (hl : Sq t s.heap l xs) (hm : Sq u s.heap m ys) (hend : xs[i]? = none ∨ ys[j]? = none) {Q : Option Value → Shared → Prop}
    (k : ∀ h', (∀ c o, c ≠ z → c ≠ TO → c ≠ p → c ≠ q → s.heap.get? c = some o → h'.get? c = some o) → Q none { s with heap := h' }) : wpAny (model prog w) A (pyNext (.ref z)) Q E s := by
  have hT : s.TypeIs (.ref z) "zip" := ⟨_, Z.hz, rfl⟩
  unfold pyNext
  refine wpAny_bind (wpAny_attempt (wpAny_callSpecial?_slot (name := Str.ofString "__next__") hT F.slot_zip_next (wpAny_call_entry F.slot_zip_next hT F.entry_zip_next (zend (A := A.in1) (show A.in1.handled = none from hh) D Z hl hm hend fun h' e hk st => ?_) (F.args_zip_next_1 _))))
  obtain ⟨o, ho, hc⟩ := st
  exact wpAny_bind (wpAny_isInstance (T := "StopIteration") (b := true) ⟨o, ho, hc⟩ isSubtype_stop (wpAny_pure (k _ hk)))
end
/-! the zip is made -/
abbrev zA (t : Bool) (h : Heap) (l : Addr) : Heap := h.push { cls := .type (itNm t), data := .fields #[.ref l, .int 0 0] }
abbrev zB (t u : Bool) (h : Heap) (l m : Addr) : Heap := (zA t h l).push { cls := .type (itNm u), data := .fields #[.ref m, .int 0 0] }
abbrev zC (t u : Bool) (h : Heap) (l m : Addr) : Heap := (zB t u h l m).push { cls := .type "tuple", data := .seq #[.ref h.objs.size, .ref (zA t h l).objs.size] }
abbrev zD (t u : Bool) (h : Heap) (l m : Addr) : Heap := (zC t u h l m).push { cls := .type "tuple", data := .seq #[.none, .none] }
abbrev zE (t u : Bool) (h : Heap) (l m : Addr) : Heap := (zD t u h l m).push { cls := .type "zip", data := .fields #[.none, .bool false, .bool false, .ref (zB t u h l m).objs.size, .ref (zC t u h l m).objs.size] }
theorem meets_tl (l1 l2 : Addr) (xs ys : Array Value) : Meets (Builtin.«zip.__new__» ⟨[.type "zip", .ref l1, .ref l2], []⟩) (fun _ R s => s.heap.IsTuple l1 xs ∧ s.heap.IsList l2 ys ∧
    R (.ok (.ret (.ref (zD true false s.heap l1 l2).objs.size))) { s with heap := zE true false s.heap l1 l2 }) :=
  .of_wp fun prog w A R s h => by
    obtain ⟨hp, g, d, tk, os⟩ := s; obtain ⟨a1, a2, h⟩ := h
    have isz := sub_zip
    have L1 : Heap.IsTuple (Shared.heap ⟨hp, g, d, tk, os⟩) l1 xs := a1
    have L2 : Heap.IsList (Shared.heap ⟨hp.push { cls := .type "tuple_iterator", data := .fields #[.ref l1, .int 0 0] }, g, d, tk, os⟩) l2 ys := Heap.IsList.push a2 _
    wp_walk using wpAny_pyIter_tuple L1, wpAny_pyIter_list L2
    exact ⟨_, rfl, h⟩
theorem meets_lt (l1 l2 : Addr) (xs ys : Array Value) : Meets (Builtin.«zip.__new__» ⟨[.type "zip", .ref l1, .ref l2], []⟩) (fun _ R s => s.heap.IsList l1 xs ∧ s.heap.IsTuple l2 ys ∧
    R (.ok (.ret (.ref (zD false true s.heap l1 l2).objs.size))) { s with heap := zE false true s.heap l1 l2 }) :=
  .of_wp fun prog w A R s h => by
    obtain ⟨hp, g, d, tk, os⟩ := s; obtain ⟨a1, a2, h⟩ := h
    have isz := sub_zip
    have L1 : Heap.IsList (Shared.heap ⟨hp, g, d, tk, os⟩) l1 xs := a1
    have L2 : Heap.IsTuple (Shared.heap ⟨hp.push { cls := .type "list_iterator", data := .fields #[.ref l1, .int 0 0] }, g, d, tk, os⟩) l2 ys := Heap.IsTuple.push a2 _
    wp_walk using wpAny_pyIter_list L1, wpAny_pyIter_tuple L2
    exact ⟨_, rfl, h⟩
theorem meets_z (t u : Bool) (l1 l2 : Addr) (xs ys : Array Value) : Meets (Builtin.«zip.__new__» ⟨[.type "zip", .ref l1, .ref l2], []⟩) (fun _ R s => Sq t s.heap l1 xs ∧ Sq u s.heap l2 ys ∧
    R (.ok (.ret (.ref (zD t u s.heap l1 l2).objs.size))) { s with heap := zE t u s.heap l1 l2 }) := by
  cases t <;> cases u
  · exact meets_zip_new l1 l2 xs ys
  · exact meets_lt l1 l2 xs ys
  · exact meets_tl l1 l2 xs ys
  · exact RZ.meets_zipT_new l1 l2 xs ys
section
variable {prog : Program} {w : World} {A : Around} {E : Value → Shared → Prop} {s : Shared}
theorem call_z {t u : Bool} {l m : Addr} {xs ys : Array Value} {Q : Value → Shared → Prop} (hl : Sq t s.heap l xs) (hm : Sq u s.heap m ys)
    (k : ∀ h', ZSt t u h' (s.heap.objs.size + 4) (s.heap.objs.size + 2) (s.heap.objs.size + 3) s.heap.objs.size (s.heap.objs.size + 1) l m 0 0 .none .none .none →
      (∀ c o, s.heap.get? c = some o → h'.get? c = some o) → Q (.ref (s.heap.objs.size + 4)) { s with heap := h' }) :
    wpAny (model prog w) A (call (.type "zip") [.ref l, .ref m]) Q E s := by
  refine callType_new F.called_zip (by decide) (F.typeCall_zip_2 _ _) (F.newCall_zip_2 _ _) (fun obj => F.args_object_init_3 obj _ _) F.entry_zip_new (meets_z t u l m xs ys) ⟨hl, hm, ?_⟩
  have n1 : (zA t s.heap l).objs.size = s.heap.objs.size + 1 := Heap.size_push ..
  have n2 : (zB t u s.heap l m).objs.size = s.heap.objs.size + 2 := by rw [Heap.size_push, n1]
  have n3 : (zC t u s.heap l m).objs.size = s.heap.objs.size + 3 := by rw [Heap.size_push, n2]
  have n4 : (zD t u s.heap l m).objs.size = s.heap.objs.size + 4 := by rw [Heap.size_push, n3]
  have e5 : (zE t u s.heap l m).get? (zD t u s.heap l m).objs.size = some _ := Heap.get?_push_size _ rfl
  have e4 : (zE t u s.heap l m).get? (zC t u s.heap l m).objs.size = some _ := Heap.get?_push_of_some _ (Heap.get?_push_size _ rfl)
  have e3 : (zE t u s.heap l m).get? (zB t u s.heap l m).objs.size = some _ := Heap.get?_push_of_some _ (Heap.get?_push_of_some _ (Heap.get?_push_size _ rfl))
  have e2 : (zE t u s.heap l m).get? (zA t s.heap l).objs.size = some _ := Heap.get?_push_of_some _ (Heap.get?_push_of_some _ (Heap.get?_push_of_some _ (Heap.get?_push_size _ rfl)))
  have e1 : (zE t u s.heap l m).get? s.heap.objs.size = some _ := Heap.get?_push_of_some _ (Heap.get?_push_of_some _ (Heap.get?_push_of_some _ (Heap.get?_push_of_some _ (Heap.get?_push_size _ rfl))))
  show _ ∧ _
  rw [n2, n3, n4] at e5
  rw [n1, n2] at e3
  rw [n3] at e4
  rw [n1] at e2
  rw [n4]
  refine ⟨⟨_, e5, rfl⟩, k _ ⟨e5, e3, e4, ?_, ?_⟩ fun c o v => Heap.get?_push_of_some _ (Heap.get?_push_of_some _ (Heap.get?_push_of_some _ (Heap.get?_push_of_some _ (Heap.get?_push_of_some _ v))))⟩
  · cases t <;> exact ⟨_, e1, rfl, rfl⟩
  · cases u <;> exact ⟨_, e2, rfl, rfl⟩
end
end TokZ
namespace TokZ
open PySem PySem.Spec PyProof.Rows L2
/-! ## for a, b in zip(x, y): each a list or a tuple -/
def SqV (K : PySem.W.Frag) (t : Bool) (H : Hp) (a : Addr) (xs : List V) : Prop := if t then SqT K H a xs else SqL K H a xs
section
variable {X : Cx} {pins : List (Addr × Obj)} {σ : L2.St} {H : Hp} {s : Shared} {t : Bool} {a : Addr} {xs ys : List V}
theorem sqV_at (I : Inv X pins σ H s) (q : SqV X.K t H a xs) : ∃ its : List Value, Vals xs its ∧ Sq t s.heap a its.toArray := by
  cases t
  · obtain ⟨its, rv, p, _⟩ := I.list q; exact ⟨its, rv, p.isList⟩
  · obtain ⟨its, rv, p, _⟩ := I.tuple q; exact ⟨its, rv, p⟩
theorem sqV_inj (I : Inv X pins σ H s) (q : SqV X.K t H a xs) (q' : SqV X.K t H a ys) : xs = ys := by
  cases t
  · exact I.list_inj q q'
  · exact I.tuple_inj q q'
end
def ItzM (K : PySem.W.Frag) (t u : Bool) (a b : Addr) : It :=
  ⟨fun i H => ∃ (xs ys : List V) (x y : V), SqV K t H a xs ∧ SqV K u H b ys ∧ xs[i]? = some x ∧ ys[i]? = some y,
   fun i H v H' => ∃ p x y, v = .ref p ∧ H p = none ∧ H' = upd H p (.tup [x, y]) ∧ (∀ xs, SqV K t H a xs → xs[i]? = some x) ∧ ∀ ys, SqV K u H b ys → ys[i]? = some y,
   fun i H => ∃ xs ys : List V, SqV K t H a xs ∧ SqV K u H b ys ∧ (xs.length ≤ i ∨ ys.length ≤ i)⟩
theorem five {c z TI TO p q : Addr} (h : c ∈ [z, TI, TO, p, q]) : c = z ∨ c = TI ∨ c = TO ∨ c = p ∨ c = q := by simpa using h
theorem turn_z {P : Program} {w : World} {K : PySem.W.Frag} {elts : List Expr} {kk : Nat} {tp : Pos} {t u : Bool} {a b z TI TO p q : Addr} (D : ZipApart z TI TO p q a b) :
    Turn P w K (.Tuple elts kk tp) (ItzM K t u a b) [z, TI, TO, p, q] z (fun i h => ∃ x y, ZSt t u h z TI TO p q a b i i .none x y) where
  mem := List.mem_cons_self
  obj := fun i h ⟨x, y, Z⟩ c hc => by
    obtain ⟨o1, e1, d1⟩ := Z.h1.there
    obtain ⟨o2, e2, d2⟩ := Z.h2.there
    rcases five hc with r | r | r | r | r <;> subst r
    · exact ⟨_, Z.hz, fun v q => nomatch q⟩
    · exact ⟨_, Z.hI, fun v q => nomatch q⟩
    · exact ⟨_, Z.hO, fun v q => nomatch q⟩
    · exact ⟨o1, e1, fun v q => by rw [d1] at q; cases q⟩
    · exact ⟨o2, e2, fun v q => by rw [d2] at q; cases q⟩
  keep := fun i h h' ⟨x, y, Z⟩ k => ⟨x, y, k z (by simp) _ Z.hz, k TI (by simp) _ Z.hI, k TO (by simp) _ Z.hO, Z.h1.go fun o e => k p (by simp) o e, Z.h2.go fun o e => k q (by simp) o e⟩
  item := by
    intro X hP hw hK hc i pins s σ H E I hf st hg
    subst hP hw hK
    obtain ⟨x0, y0, Z⟩ := st
    obtain ⟨xs, ys, x, y, qx, qy, hx, hy⟩ := hg
    obtain ⟨us, ru, pu⟩ := sqV_at I qx
    obtain ⟨vs, rv, pv⟩ := sqV_at I qy
    obtain ⟨u1, hu, r1⟩ := ru.get hx
    obtain ⟨u2, hv, r2⟩ := rv.get hy
    have lz : z < s.heap.objs.size := Heap.lt_size Z.hz
    refine zpy_item D Z pu pv (x := u1) (y := u2) (by simpa using hu) (by simpa using hv) fun h' Z' hT hsz hk => ?_
    refine ⟨_, rfl, wpAny_letOwnedTupleGo_zip (s := { s with heap := h' }) Z'.hz fun h2 z2 sb => ?_⟩
    have up : ∀ c o, c ≠ z → h'.get? c = some o → h2.get? c = some o := fun c o c1 e => sb.extBut _ _ c1 e
    have T2 : h2.get? s.heap.objs.size = some { cls := .type "tuple", data := .seq #[u1, u2] } := up _ _ (Nat.ne_of_gt lz) hT
    have new : ObjOk X.prog X.w (upd H s.heap.objs.size (.tup [x, y])) h2 s.heap.objs.size (.tup [x, y]) := ⟨by show 2 ≤ sizeLine; decide, [u1, u2], .cons r1 (.cons r2 .nil), ⟨_, T2, rfl, _, rfl⟩⟩
    have lt : ∀ c ∈ [z, TI, TO, p, q], c < s.heap.objs.size := fun c hcm => by
      obtain ⟨o1, e1, _⟩ := Z.h1.there
      obtain ⟨o2, e2, _⟩ := Z.h2.there
      rcases five hcm with r | r | r | r | r <;> subst r
      · exact lz
      · exact Heap.lt_size Z.hI
      · exact Heap.lt_size Z.hO
      · exact Heap.lt_size e1
      · exact Heap.lt_size e2
    have I1 : Inv X pins σ (upd H s.heap.objs.size (.tup [x, y])) { s with heap := h2 } :=
      I.turnedNew (t' := s.toks) (ch := [z, TI, TO, p, q]) (fun c o hb e => up c o (fun r => hb (by simp [r])) (hk c o (fun r => hb (by simp [r])) (fun r => hb (by simp [r])) (fun r => hb (by simp [r])) (fun r => hb (by simp [r])) e)) hf (Nat.le_refl _) new
    refine ⟨.ref s.heap.objs.size, _, I1, rfl, ⟨_, x, y, rfl, I.hok.fresh (Nat.le_refl _), rfl, fun l hl => by rw [sqV_inj I hl qx]; exact hx, fun l hl => by rw [sqV_inj I hl qy]; exact hy⟩, ⟨u1, u2, z2, up _ _ D.TIz Z'.hI, up _ _ D.TOz Z'.hO, Z'.h1.go fun o e => up _ _ D.i1z e, Z'.h2.go fun o e => up _ _ D.i2z e⟩, fun c hcm => ?_⟩
    rw [upd_ne (Nat.ne_of_lt (lt c hcm))]
    exact (hf c hcm).1
  done := by
    intro X hP hw hK hc i pins s σ H E I hf st hg
    subst hP hw hK
    obtain ⟨x0, y0, Z⟩ := st
    obtain ⟨xs, ys, qx, qy, hend⟩ := hg
    obtain ⟨us, ru, pu⟩ := sqV_at I qx
    obtain ⟨vs, rv, pv⟩ := sqV_at I qy
    have l1 := ru.length
    have l2 := rv.length
    have stop : us.toArray[i]? = none ∨ vs.toArray[i]? = none := hend.elim (fun r => .inl (by simp; omega)) fun r => .inr (by simp; omega)
    exact zpy_end (I.ok.hd hc) D Z pu pv stop fun h' hk => ⟨rfl, I.turnedL (t' := s.toks) (ch := [z, TI, TO, p, q]) (fun c o hb e =>
      hk c o (fun r => hb (by simp [r])) (fun r => hb (by simp [r])) (fun r => hb (by simp [r])) (fun r => hb (by simp [r])) e) hf⟩
  self := fun A i s Q E ⟨_, _, Z⟩ h => wpAny_pyIter_zip Z.hz h
def iZipM (K : PySem.W.Frag) (ta : TA) : TI := fun σ H R => ta σ H fun vs H1 => ∃ t u a b xs ys, vs = [.ref a, .ref b] ∧ SqV K t H1 a xs ∧ SqV K u H1 b ys ∧ R (ItzM K t u a b) H1
theorem pi_zipM {X : Cx} {e e2 : Expr} {ta : TA} {pc pos tp : Pos} {elts : List Expr} {kk : Nat} (hg : Gl X "zip") (hm : X.mg "zip" = none) (ha : PA X [e, e2] ta)
    (hs : starEach [e, e2] X.env = (false, eval e X.env) :: starEach [e2] X.env := by rfl) (hpl : (backTo pos (starEach [e2] X.env)).any (·.1) = false := by rfl) :
    PI X (.Tuple elts kk tp) (.Call (.Name "zip" pc) [e, e2] [] pos) (iZipM X.K ta) := by
  refine ⟨fun pins s σ H R I h => ?_⟩
  refine Call_ (ld_blt I hg hm PyProof.Rows.boot_zip (PyProof.Rows.callWith_type1 (thn (ha.run pos pins s σ H _ I h) fun us s1 ⟨vs, H1, I1, rv, t, u, a, b, xs, ys, ev, qx, qy, q⟩ => ?_) hs hpl))
  subst ev
  cases rv with
  | cons r rr =>
    cases rr with
    | cons r' rr =>
      cases rr
      cases r
      cases r'
      obtain ⟨us, ru, pu⟩ := sqV_at I1 qx
      obtain ⟨vs, rv, pv⟩ := sqV_at I1 qy
      obtain ⟨o1, e1⟩ := pu.there
      obtain ⟨o2, e2⟩ := pv.there
      refine call_z pu pv fun h' Z hk => wpAny_pyIter_zip Z.hz ?_
      have I2 : Inv X pins σ H1 { s1 with heap := h' } := I1.kept (t' := s1.toks) hk
      refine ⟨s1.heap.objs.size + 4, [s1.heap.objs.size + 4, s1.heap.objs.size + 2, s1.heap.objs.size + 3, s1.heap.objs.size, s1.heap.objs.size + 1], _, _, H1, rfl, I2, turn_z (PySem.W.ktu_apart s1.heap.objs.size a b (Heap.lt_size e1) (Heap.lt_size e2)), ⟨_, _, Z⟩, fun c hcm => ?_, q⟩
      have le : s1.heap.objs.size ≤ c := by
        rcases five hcm with r | r | r | r | r <;> rw [r] <;> first | exact Nat.le_add_right _ _ | exact Nat.le_refl _
      exact I1.fpOk le (I1.hok.fresh le)
end TokZ
namespace Tok
open PySem L2 TokZ
section
variable {X : Cx} {G : Gx} {W : WX} {a b c e : Expr} {ma mb mc m : Den} {pos : Pos} {σ : St} {H : Hp} {es : List Expr} {na : DenA}
/-- what stands still: trees -/
def treeOf : D → Option (Bool × List D)
  | .lst xs => some (false, xs)
  | .tup xs => some (true, xs)
  | _ => none
theorem tree_rep (hK : G.K = X.K) {η : List Addr} {T : Hp} {d : D} {v : V} {t : Bool} {ds : List D} (r : Rep G η T d v) (e : treeOf d = some (t, ds)) : ∃ a vs, v = .ref a ∧ SqV X.K t T a vs ∧ Reps G η T ds vs := by
  unfold treeOf at e
  split at e
  · cases e
    cases r with | @lst a vs _ h r => exact ⟨a, vs, rfl, SqL.of h, r⟩
  · cases e
    cases r with | @tup a vs _ h r => exact ⟨a, vs, rfl, hK ▸ h, r⟩
  · cases e
theorem sqV_mono {K : PySem.W.Frag} {t : Bool} {T T' : Hp} (h : ∀ a o, T a = some o → T' a = some o) {a : Addr} {xs : List V} (r : SqV K t T a xs) : SqV K t T' a xs := by
  cases t
  · exact sqL_mono h r
  · exact sqT_mono h r
def iZipT (m : DenA) : DenI := fun ρ S => (m ρ S).bind fun ds S1 => match ds with
  | [x, y] => match treeOf x, treeOf y with
    | some (_, xs), some (_, ys) => .ok (zipD xs ys) S1
    | _, _ => .bad
  | _ => .bad
theorem i_zipT {tg x : Expr} (hK : G.K = X.K) (h : PI X tg x (iZipM X.K (tA G W na))) : PI X tg x (tI G W (iZipT na)) := h.imp fun σ H Q ⟨ρ, S, η, T, F, f, g, p⟩ => tA_step f g p fun d v S1 H1 η1 T1 _ e1 f1 g1 r1 p1 => by
  split at p1
  · rename_i dx dy _
    cases r1 with
    | cons r rr =>
      cases rr with
      | cons r' rr =>
      cases rr
      cases ex : treeOf dx with
      | none => rw [ex] at p1; exact p1.elim
      | some tx =>
        obtain ⟨t, xs⟩ := tx
        cases ey : treeOf dy with
        | none => rw [ex, ey] at p1; exact p1.elim
        | some ty =>
          obtain ⟨u, ys⟩ := ty
          rw [ex, ey] at p1
          obtain ⟨a, vs, rfl, hT, r⟩ := tree_rep hK r ex
          obtain ⟨b, us, rfl, hU, r'⟩ := tree_rep hK r' ey
          refine ⟨t, u, a, b, vs, us, rfl, sqV_mono g1.sub hT, sqV_mono g1.sub hU, p1 _ H1 η1 T1 Ext.refl g1 ?_⟩
          intro η2 T2 H2 S2 F2 i e2 g2 _
          have k1 : SqV X.K t H2 a vs := sqV_mono g2.sub (sqV_mono e2.sub hT)
          have k2 : SqV X.K u H2 b us := sqV_mono g2.sub (sqV_mono e2.sub hU)
          refine ⟨fun hl => ⟨vs, us, k1, k2, by rw [← r.length, ← r'.length]; exact zipD_len _ _ _ hl⟩, fun d hd => ?_⟩
          obtain ⟨x, y, hx, hy, rfl⟩ := zipD_get _ _ _ _ hd
          obtain ⟨v, hv, rv⟩ := r.get hx
          obtain ⟨w, hw, rw'⟩ := r'.get hy
          refine ⟨⟨vs, us, v, w, k1, k2, hv, hw⟩, fun z H3 hz => ?_⟩
          obtain ⟨p, v', u', rfl, hp, rfl, q1, q2⟩ := hz
          have q1 := q1 vs k1
          have q2 := q2 us k2
          rw [hv] at q1; cases q1
          rw [hw] at q2; cases q2
          exact fresh_pair g2 hp (rv.mono e2) (rw'.mono e2)
  · exact p1.elim

/-! ## + of tuples, empty ones too -/
def addE : P2 := fun S x y => match x, y with
  | .tup a, .tup b => if a.length + b.length ≤ sizeLine then some (.tup (a ++ b)) else none
  | x, y => addD S x y
theorem o_addE (hK : G.K = X.K) : OpR X (binaryOp .Add) (r2 G addE) := opR_mk fun x y H Q ⟨S, η, T, F, dx, dy, g, rx, ry, d, e, k⟩ => by
  unfold addE at e
  split at e
  · cases rx with
    | @tup a vs as ha ra =>
      cases ry with
      | @tup b us bs hb rb =>
        split at e
        · rename_i hc
          cases e
          refine ⟨_, op_catA, a, b, vs, us, rfl, rfl, sqT_up hK g ha, sqT_up hK g hb, by rw [← ra.length, ← rb.length]; exact hc, fun z => ?_, fun z z' => ?_, fun _ _ p hp => newT k g (ra.append rb) p hp⟩
          · subst z
            cases ra
            exact k _ _ _ _ Ext.refl g (.tup hb rb)
          · subst z'
            cases rb
            rw [List.append_nil] at k
            exact k _ _ _ _ Ext.refl g (.tup ha ra)
        · cases e
  · exact ⟨_, o_add hK, S, η, T, F, _, _, g, rx, ry, d, e, k⟩

/-! ## a text, sign by sign -/
def signs (z : Str) : List D := z.cps.toList.map fun c => .str ⟨#[c]⟩
def iStrD (m : Den) : DenI := fun ρ S => (m ρ S).bind fun d S1 => match d with
  | .str z => .ok (signs z) S1
  | _ => .bad
theorem i_str {tg e : Expr} (h : PE X e (tE G W m)) : PI X tg e (tI G W (iStrD m)) := (pi_str h).imp fun σ H Q ⟨ρ, S, η, T, F, f, g, p⟩ => tE_step f g p fun d v S1 H1 η1 T1 _ e1 f1 g1 r1 p1 => by
  cases r1 with
  | @str z =>
    refine ⟨z, rfl, p1 _ H1 η1 T1 Ext.refl g1 ?_⟩
    intro η2 T2 H2 S2 F2 i e2 g2 _
    refine ⟨fun hl => (by simpa [signs] using hl : z.cps.size ≤ i), fun d hd => ?_⟩
    have hi : i < z.cps.size := by simpa [signs] using (List.getElem?_eq_some_iff.mp hd).1
    refine ⟨hi, fun y H3 hy => ?_⟩
    obtain ⟨rfl, c, hc, rfl⟩ := hy
    have : d = .str ⟨#[c]⟩ := by
      have h1 : z.cps.toList[i]? = some c := by simpa using hc
      simp [signs, List.getElem?_map, h1] at hd
      exact hd.symm
    subst this
    exact ⟨η2, T2, Ext.refl, g2, .str⟩
  | _ => exact p1.elim

/-! ## s.upper() -/
def upperD (m : Den) : Den := fun ρ S => (m ρ S).bind fun d S1 => match d with
  | .str z => if z.length ≤ 5592405 then .ok (.str (Txt.upper z)) S1 else .bad
  | _ => .bad
theorem d_upper {apos : Pos} {o : Expr} (h : PE X o (tE G W m)) (hbase : attributeBase o "upper" X.env (eval o X.env) = eval o X.env := by rfl) (hline : (apos.endLine == pos.line) = true := by rfl) :
    PE X (.Call (.Attribute o "upper" apos) [] [] pos) (tE G W (upperD m)) := (pe_upper h hbase hline).imp fun σ H Q ⟨ρ, S, η, T, F, f, g, p⟩ => tE_step f g p fun d v S1 H1 η1 T1 _ e1 f1 g1 r1 p1 => by
  cases r1 with
  | @str z =>
    dsimp only at p1
    split at p1
    · rename_i hz
      exact ⟨⟨z, rfl⟩, z, rfl, rfl, hz, p1.ok g1 .str⟩
    · exact p1.elim
  | _ => exact p1.elim
end
end Tok
namespace Tok
open PySem PySem.Spec PyProof.Rows L2
/-! ## a dict of the module's top: keys are texts, values are told once -/
inductive TabOk (G : Gx) : List DictEntry → List (Str × D) → Prop
  | nil : TabOk G [] []
  | cons {e : DictEntry} {x : Str} {d : D} {t : Tok} {v : V} {es : List DictEntry} {tab : List (Str × D)} (hk : e.key = .str x t) (hv : RelV v e.val) (hr : ∀ η T, Rep G η T d v) (r : TabOk G es tab) : TabOk G (e :: es) ((x, d) :: tab)
theorem tab_find {G : Gx} {z : Str} : ∀ {es : List DictEntry} {tab : List (Str × D)}, TabOk G es tab → (∃ e v d, es.find? (fun e => e.key.isStr z) = some e ∧ tab.lookup z = some d ∧ RelV v e.val ∧ ∀ η T, Rep G η T d v) ∨ (es.find? (fun e => e.key.isStr z) = none ∧ tab.lookup z = none ∧ es.any (·.refKey) = false)
  | _, _, .nil => .inr ⟨rfl, rfl, rfl⟩
  | _, _, @TabOk.cons _ e x d t v es tab hk hv hr r => by
    have h1 : e.key.isStr z = (x == z) := by rw [hk]; rfl
    have h2 : e.refKey = false := by
      obtain ⟨h, k, v'⟩ := e
      simp only at hk
      subst hk
      rfl
    rw [List.find?_cons, List.lookup_cons, List.any_cons, h1, h2]
    by_cases hz : x = z
    · subst hz
      exact .inl ⟨e, v, d, by simp, by simp, hv, hr⟩
    · have n1 : (x == z) = false := beq_eq_false_iff_ne.mpr hz
      have n2 : (z == x) = false := beq_eq_false_iff_ne.mpr (Ne.symm hz)
      rw [n1, n2]
      rcases tab_find r (z := z) with ⟨e', v', d', a1, a2, a3, a4⟩ | ⟨a1, a2, a3⟩
      · exact .inl ⟨e', v', d', a1, a2, a3, a4⟩
      · exact .inr ⟨a1, a2, by simpa using a3⟩
structure WDict (G : Gx) (K : PySem.W.Frag) (w : World) (mg : Str → Option Value) (x : Str) (tab : List (Str × D)) : Prop where
  ex : ∃ (d : Addr) (es : List DictEntry) (n : Nat), mg x = some (.ref d) ∧ KDict K w d es.toArray n ∧ TabOk G es tab
theorem wdict_mk {G : Gx} {K : PySem.W.Frag} {w : World} {mg : Str → Option Value} {x : Str} {tab : List (Str × D)} {d : Addr} {es : List DictEntry} {n : Nat} (hm : mg x = some (.ref d)) (hl : K.lookup d = some ⟨.type "dict", none, .dict es.toArray n, #[]⟩) (hk : PySem.W.KeysLit w.params es) (low : (d == sysModules) = false) (ht : TabOk G es tab) : WDict G K w mg x tab :=
  ⟨d, es, n, hm, ⟨hl, by simpa using hk, low⟩, ht⟩
section
variable {X : Cx} {G : Gx} {W : WX} {a b c e : Expr} {ma mb mc m : Den} {pos p : Pos} {σ : L2.St} {H : Hp} {x : Str} {tab : List (Str × D)}
theorem kd_none {K : PySem.W.Frag} {w : World} {d : Addr} {es : List DictEntry} {n : Nat} (D : KDict K w d es.toArray n) {z : Str} (h : es.find? (fun e => e.key.isStr z) = none) (h2 : es.any (·.refKey) = false) : PySem.W.nsIn K d z = some none := by
  unfold PySem.W.nsIn
  rw [D.at_]
  dsimp only
  rw [h]
  dsimp only
  rw [h2]
  rfl
theorem kd_some {K : PySem.W.Frag} {w : World} {d : Addr} {es : List DictEntry} {n : Nat} (D : KDict K w d es.toArray n) {z : Str} {e : DictEntry} (h : es.find? (fun e => e.key.isStr z) = some e) : PySem.W.nsIn K d z = some (some e.val) := by
  unfold PySem.W.nsIn
  rw [D.at_]
  dsimp only
  rw [h]
def inW (tab : List (Str × D)) : P1 := fun _ d => match d with
  | .str z => some (.bl (tab.lookup z).isSome)
  | _ => none
def notInW (tab : List (Str × D)) : P1 := fun _ d => match d with
  | .str z => some (.bl (!(tab.lookup z).isSome))
  | _ => none
def ixW (tab : List (Str × D)) : P1 := fun _ d => match d with
  | .str z => tab.lookup z
  | _ => none
theorem inW_reading {d : Addr} {es : List DictEntry} {n : Nat} {Q : VK} (D : KDict X.K X.w d es.toArray n) (ht : TabOk G es tab) (h : tE G W (dOp1 (inW tab) ma) σ H Q) :
    tOp (fun x y H Q => ∃ (z : Str) (r : Option Value), x = .str z ∧ y = .ref d ∧ PySem.W.nsIn X.K d z = some r ∧ Q (.bl r.isSome) H) (tE G W ma) (tC (.ref d)) σ H Q := by
  obtain ⟨ρ, S, η, T, F, fr, g, q⟩ := h
  refine tE_step fr g q fun dd v S1 H1 η1 T1 _ e1 f1 g1 r1 p1 => ?_
  obtain ⟨d', e, k⟩ := postP_of p1
  unfold inW at e
  split at e
  · rename_i z _
    cases r1
    cases e
    rcases tab_find ht (z := z) with ⟨e', v', d2, a1, a2, a3, a4⟩ | ⟨a1, a2, a3⟩
    · exact ⟨z, _, rfl, rfl, kd_some D a1, by rw [a2] at k; exact k _ _ _ _ Ext.refl g1 .bl⟩
    · exact ⟨z, _, rfl, rfl, kd_none D a1 a3, by rw [a2] at k; exact k _ _ _ _ Ext.refl g1 .bl⟩
  · cases e
theorem notInW_reading {d : Addr} {es : List DictEntry} {n : Nat} {Q : VK} (D : KDict X.K X.w d es.toArray n) (ht : TabOk G es tab) (h : tE G W (dOp1 (notInW tab) ma) σ H Q) :
    tOp (fun x y H Q => ∃ (z : Str) (r : Option Value), x = .str z ∧ y = .ref d ∧ PySem.W.nsIn X.K d z = some r ∧ Q (.bl (!r.isSome)) H) (tE G W ma) (tC (.ref d)) σ H Q := by
  obtain ⟨ρ, S, η, T, F, fr, g, q⟩ := h
  refine tE_step fr g q fun dd v S1 H1 η1 T1 _ e1 f1 g1 r1 p1 => ?_
  obtain ⟨d', e, k⟩ := postP_of p1
  unfold notInW at e
  split at e
  · rename_i z _
    cases r1
    cases e
    rcases tab_find ht (z := z) with ⟨e', v', d2, a1, a2, a3, a4⟩ | ⟨a1, a2, a3⟩
    · exact ⟨z, _, rfl, rfl, kd_some D a1, by rw [a2] at k; exact k _ _ _ _ Ext.refl g1 .bl⟩
    · exact ⟨z, _, rfl, rfl, kd_none D a1 a3, by rw [a2] at k; exact k _ _ _ _ Ext.refl g1 .bl⟩
  · cases e
theorem d_inW (hw : WDict G X.K X.w X.mg x tab) (ha : PE X a (tE G W ma)) (hg : Gl X x) (hd : (x == ("__debug__" : Str)) = false := by decide) (hm : behindInMarks .In (.Name x p) = false := by rfl) : PE X (.Compare a [.In] [.Name x p] pos) (tE G W (dOp1 (inW tab) ma)) := by
  obtain ⟨d, es, n, h1, D, ht⟩ := hw.ex
  exact (pe_cmpR (op_in_kd D) ha (pe_glob (v := .ref d) hg h1 rfl hd) hm).imp fun _ _ _ => inW_reading D ht
theorem d_notInW (hw : WDict G X.K X.w X.mg x tab) (ha : PE X a (tE G W ma)) (hg : Gl X x) (hd : (x == ("__debug__" : Str)) = false := by decide) (hm : behindInMarks .NotIn (.Name x p) = false := by rfl) : PE X (.Compare a [.NotIn] [.Name x p] pos) (tE G W (dOp1 (notInW tab) ma)) := by
  obtain ⟨d, es, n, h1, D, ht⟩ := hw.ex
  exact (pe_cmpR (op_notIn_kd D) ha (pe_glob (v := .ref d) hg h1 rfl hd) hm).imp fun _ _ _ => notInW_reading D ht
theorem dt_inW (hw : WDict G X.K X.w X.mg x tab) (ha : PE X a (tE G W ma)) (hg : Gl X x) (hd : (x == ("__debug__" : Str)) = false := by decide) (hm : behindInMarks .In (.Name x p) = false := by rfl) : PT X (.Compare a [.In] [.Name x p] pos) (tT G W (dTest (dOp1 (inW tab) ma))) := by
  obtain ⟨d, es, n, h1, D, ht⟩ := hw.ex
  exact (pt_cmpR (op_in_kd D) ha (pe_glob (v := .ref d) hg h1 rfl hd) hm).imp fun σ H Q h => inW_reading D ht (test_reading h)
theorem dt_notInW (hw : WDict G X.K X.w X.mg x tab) (ha : PE X a (tE G W ma)) (hg : Gl X x) (hd : (x == ("__debug__" : Str)) = false := by decide) (hm : behindInMarks .NotIn (.Name x p) = false := by rfl) : PT X (.Compare a [.NotIn] [.Name x p] pos) (tT G W (dTest (dOp1 (notInW tab) ma))) := by
  obtain ⟨d, es, n, h1, D, ht⟩ := hw.ex
  exact (pt_cmpR (op_notIn_kd D) ha (pe_glob (v := .ref d) hg h1 rfl hd) hm).imp fun σ H Q h => notInW_reading D ht (test_reading h)
theorem d_ixW (hw : WDict G X.K X.w X.mg x tab) (hg : Gl X x) (hb : PE X b (tE G W mb)) (hd : (x == ("__debug__" : Str)) = false := by decide) (hs : PlainIx b := by exact fun _ _ => rfl) : PE X (.Subscript (.Name x p) b pos) (tE G W (dOp1 (ixW tab) mb)) := by
  obtain ⟨d, es, n, h1, D, ht⟩ := hw.ex
  refine (pe_ix ix_kdict (pe_glob (v := .ref d) hg h1 rfl hd) hb hs).imp fun σ H Q ⟨ρ, S, η, T, F, fr, g, q⟩ => ?_
  show tE G W mb σ H _
  refine tE_step fr g q fun dd v S1 H1 η1 T1 _ e1 f1 g1 r1 p1 => ?_
  obtain ⟨d', e, k⟩ := postP_of p1
  unfold ixW at e
  split at e
  · rename_i z _
    cases r1
    rcases tab_find ht (z := z) with ⟨e', v', d2, a1, a2, a3, a4⟩ | ⟨a1, a2, a3⟩
    · rw [a2] at e
      cases e
      exact ⟨d, z, v', rfl, rfl, ⟨_, _, _, D.at_, D.lit, kd_some D a1, a3⟩, k _ _ _ _ Ext.refl g1 (a4 _ _)⟩
    · rw [a2] at e; cases e
  · cases e
end

/-! ## for i, x in enumerate(a list of the store) -/
def loopR (l n : Nat) (t : Tgt) (body : DenS) : Nat → DenS
  | 0, ρ, S => match S[l]? with
    | some (.lst xs) => if xs.length = n then .ok (.nx ρ) S else .bad
    | _ => .bad
  | r + 1, ρ, S => match S[l]? with
    | some (.lst xs) => if xs.length = n then (match xs[n - (r + 1)]? with
      | some d => match t (.tup [.int ((n - (r + 1) : Nat) : Int), d]) ρ with
        | some ρ1 => (body ρ1 S).bind fun f S1 => match f with
          | .nx ρ2 => loopR l n t body r ρ2 S1
          | .ct ρ2 => loopR l n t body r ρ2 S1
          | .bk ρ2 => .ok (.nx ρ2) S1
          | .rt d => .ok (.rt d) S1
        | none => .bad
      | none => .bad) else .bad
    | _ => .bad
def sForEnumS (na : DenA) (t : Tgt) (body : DenS) : DenS := fun ρ S => (na ρ S).bind fun ds S1 => match ds with
  | [.ref l] => match S1[l]? with
    | some (.lst xs) => loopR l xs.length t body xs.length ρ S1
    | _ => .bad
  | _ => .bad
section
variable {X : Cx} {G : Gx} {W : WX} {pos : Pos} {σ : L2.St} {H : Hp} {vl : List Nat} {tg : Expr}
theorem s_forEnumS {iter : Expr} {body : List Stmt} {na : DenA} {t : Tgt} {mb : DenS} (hp : PassesOwn (model X.prog X.w) X.A X.env X.xe) (hc : X.calm = true) (hi : PI X tg iter (iEnum X.K (tA G W na))) (hg : PG X tg (tG G vl t)) (hb : PSs X body (tS G W mb))
    (hs : ∀ x, foldedSetIterable iter X.env x = pure x := by intro _; rfl) : PS X (.For tg iter body [] pos) (tS G W (sForEnumS na t mb)) :=
  (ps_for hp hc hi hg hb hs).imp fun E σ H ⟨ρ, S, η, T, F, f, g, p⟩ => by
    refine ⟨ρ, S, η, T, F, f, g, (PostS.bind (Rp := Reps G) p).imp fun vs0 H1 ⟨ds, S1, η1, T1, e0, e1, g1, rr, p1⟩ => ?_⟩
    split at p1
    rotate_left
    · exact p1.elim
    rename_i l
    cases rr with
    | cons r1 rr =>
    cases rr
    cases r1 with
    | @ref _ a ha =>
    split at p1
    rotate_left
    · exact p1.elim
    rename_i xs0 hS
    obtain ⟨vs, hH, rv⟩ := g1.obj l _ a hS ha
    generalize hn : xs0.length = n at p1
    refine ⟨a, vs, rfl, SqL.of hH, fun i m σ' H' => m = n - i ∧ i ≤ n ∧ ∃ ρ' S' η' T', Ext η1 T1 η' T' ∧ FRel G ρ' σ' η' T' ∧ GRel G H' S' η' T' F ∧ PostS G F W (loopR l n t mb (n - i) ρ' S') η' T' E, ⟨_, rfl, Nat.zero_le _, ρ, S1, η1, T1, Ext.refl, f.mono e1, g1, p1⟩, ?_⟩
    rintro i m σ' H' ⟨rfl, hi, ρ', S', η', T', e', f', g', p'⟩
    have hla : η'[l]? = some a := pre_get e'.pre ha
    by_cases hlt : i < n
    · have en : n - i = (n - (i + 1)) + 1 := by omega
      have ei : n - (n - (i + 1) + 1) = i := by omega
      rw [en] at p'
      unfold loopR at p'
      rw [ei] at p'
      split at p'
      rotate_left
      · exact p'.elim
      rename_i xs hS'
      split at p'
      rotate_left
      · exact p'.elim
      rename_i hxl
      split at p'
      rotate_left
      · exact p'.elim
      rename_i d hd
      split at p'
      rotate_left
      · exact p'.elim
      rename_i ρ1 q
      obtain ⟨us, hU, ru⟩ := g'.obj l _ a hS' hla
      obtain ⟨y, hy, ry⟩ := ru.get hd
      refine .inr ⟨⟨us, y, SqL.of hU, hy⟩, fun σ2 H2 => i + 1 ≤ n ∧ ∃ ρ' S' η' T', Ext η1 T1 η' T' ∧ FRel G ρ' σ2 η' T' ∧ GRel G H2 S' η' T' F ∧ PostS G F W (loopR l n t mb (n - (i + 1)) ρ' S') η' T' E, fun σ2 H2 hn => ⟨n - (i + 1), by omega, rfl, hn⟩, fun x H2 hyl => ?_⟩
      obtain ⟨pt, z, rfl, hpt, rfl, hz⟩ := hyl
      have hz := hz us (SqL.of hU)
      rw [hy] at hz; cases hz
      obtain ⟨η2, T2, e2, g2, rx⟩ := fresh_pair g' hpt (dx := .int ((i : Nat) : Int)) .int ry
      refine ⟨ρ', S', η2, T2, F, _, ρ1, f'.mono e2, g2, rx, q, fun σ3 H3 η3 T3 e3 g3 f3 _ => ?_⟩
      refine ⟨ρ1, S', η3, T3, F, f3, g3, ?_⟩
      have p3 := p'.mono (e2.trans e3)
      have base := (e'.trans e2).trans e3
      revert p3
      cases mb ρ1 S' with
      | bad => exact id
      | exn c fs S4 => exact id
      | ok fl S4 =>
        intro p3
        cases fl with
        | nx ρ4 => exact fun σ5 H5 η5 T5 e5 g5 f5 => ⟨hlt, ρ4, S4, η5, T5, base.trans e5, f5, g5, p3.mono e5⟩
        | ct ρ4 => exact fun σ5 H5 η5 T5 e5 g5 f5 => ⟨hlt, ρ4, S4, η5, T5, base.trans e5, f5, g5, p3.mono e5⟩
        | bk ρ4 => exact p3
        | rt d => exact p3
    · have he : i = n := by omega
      have e0' : n - i = 0 := by omega
      rw [e0'] at p'
      unfold loopR at p'
      split at p'
      rotate_left
      · exact p'.elim
      rename_i xs hS'
      split at p'
      rotate_left
      · exact p'.elim
      rename_i hxl
      obtain ⟨us, hU, ru⟩ := g'.obj l _ a hS' hla
      exact .inl ⟨⟨us, SqL.of hU, by rw [← ru.length]; omega⟩, p' σ' H' η' T' Ext.refl g' f'⟩
end
end Tok
namespace TokT
open PySem PySem.Spec PyProof.Rows L2 L2N
/-! ## try: .. except C1 as n: .. except C2 as n: .. -/
/-- the clauses: all of one name, slot i; a class and its suite's reading each -/
inductive Cls_ (X : Cx) (n : Str) : List ExceptHandler → List (Value × (Addr → Value → Option Addr → TS)) → Prop
  | nil : Cls_ X n [] []
  | cons {x : Str} {c : Value} {ts : Addr → Value → Option Addr → TS} {st0 : Stmt} {sts : List Stmt} {np hp : Pos} {hs : List ExceptHandler} {l : List (Value × (Addr → Value → Option Addr → TS))} (hc : Names X x c)
      (hsu : ∀ (a : Addr) (ob : Obj) (cls : Value) (d : Option Addr) (pn : List (Addr × Obj)), Zn cls d ob → (∃ us, ob.data = .fields us) → PSs (X.suite a ((a, ob) :: pn)) (st0 :: sts) (ts a cls d)) (r : Cls_ X n hs l) :
      Cls_ X n (.ExceptHandler (some (.Name x np)) (some n) (st0 :: sts) hp :: hs) ((c, ts) :: l)
/-- the ends behind a suite: its name is gone -/
def endsN (D : Ends) (i : Nat) : Ends := { nx := fun σ H => D.nx (σ.set i none) H, rt := D.rt, bk := fun σ H => D.bk (σ.set i none) H, ct := fun σ H => D.ct (σ.set i none) H }
def wEach (K : PySem.W.Frag) (i : Nat) (Wout : WX) (D : Ends) : List (Value × (Addr → Value → Option Addr → TS)) → WX
  | [] => Wout
  | (c, ts) :: r => fun cls d σ H => ∃ b, PySem.W.exmOne K cls c = some b ∧ (b = true → ∀ a, H a = none → ts a cls d (endsN D i) (σ.set i (some (.ref a))) H) ∧ (b = false → wEach K i Wout D r cls d σ H)
section
variable {X : Cx} {body : List Stmt} {hs0 : ExceptHandler} {hs : List ExceptHandler} {l : List (Value × (Addr → Value → Option Addr → TS))} {pos : Pos} {tb : WX → TS} {Wout : WX} {n : Str} {i : Nat}
theorem ps_tryEach (hst : X.stack = X.env :: X.outer) (hfr : X.env.frame = some X.env.locals) (hN : X.N.Nodup) (hi : X.N[i]? = some n) (hln : X.env.kindOf n = some .local) (tk : L2N.Takes X Wout)
    (hb : ∀ (W : WX) (pn : List (Addr × Obj)) (xe : Value → Shared → Prop), L2N.Takes (X.tr pn xe) W → PassesOwn (model X.prog X.w) X.A X.env xe → PSs (X.tr pn xe) body (tb W))
    (hh : Cls_ X n (hs0 :: hs) l) : PS X (.Try body (hs0 :: hs) [] [] pos) (fun D σ H => tb (wEach X.K i Wout D l) D σ H) := by
  refine ⟨fun pins s σ H D I start => ?_⟩
  have ok := I.ok
  have frames : X.A.frames = some (X.env :: X.outer) := by rw [ok.frames, hst]
  have vis : Loc X.env.scope n := .inl hln
  apply wpAny_Try_except
  let after : Value → Shared → Prop := fun e s₁ => wpAny (model X.prog X.w) X.A (noteFrame e X.env) (fun _ s₂ => wpAny (model X.prog X.w) X.A (setFlight e none) (fun _ s₃ => wpAny (model X.prog X.w) X.A (handleBy e X.env (hs0 :: hs)) (SP X pins D) X.xe s₃) X.xe s₂) X.xe s₁
  have catch_ : L2N.Takes (X.tr (X.pn ++ pins) after) (wEach X.K i Wout D l) := by
    rintro u s' ⟨a, B, sI, pins', σ', H', cls, d, rfl, J0, nb, up, sky, na, os, ag, wish⟩
    have J : Inv X pins σ' H' sI := J0.ofTry ok
    have sky : Sky B (X.env :: X.outer) a (Zn cls d) X.env.locals s'.heap := by rw [← hst]; exact sky
    show wpAny (model X.prog X.w) X.A (noteFrame (.ref a) X.env) _ _ s'
    refine Sky.land Zn.steady frames hfr sky fun hA flA upA => ?_
    have JA : Inv X pins σ' H' { s' with heap := hA } := J.landed nb flA.1 (up.trans upA) os ag
    obtain ⟨oA, vA, getA, zA, dA⟩ := flA.there
    have off : ∀ {h : Heap} {o : Obj} {vs : Array Value}, h.FunFrames B (X.env :: X.outer) → h.get? a = some o → o.data = .fields vs → a ∉ frs (X.env :: X.outer) := fun {h o vs} ff g dd hm => by
      obtain ⟨_, o', g', nf⟩ := ff.mem hm
      rw [g] at g'; cases g'
      exact nf _ dd
    have nf := off flA.2.2.1 getA dA
    have nL : a ≠ X.env.locals := fun z => nf (List.mem_filterMap.mpr ⟨X.env, List.mem_cons_self, by rw [hfr, z]⟩)
    have nF : a ∉ X.fs := fun hm => by
      obtain ⟨e, he, q⟩ := List.mem_filterMap.mp hm
      exact nf (List.mem_filterMap.mpr ⟨e, List.mem_cons_of_mem _ he, q⟩)
    have SA := JA.suite getA dA na nL nF
    have walk : ∀ {hs' : List ExceptHandler} {l' : List (Value × (Addr → Value → Option Addr → TS))}, Cls_ X n hs' l' → wEach X.K i Wout D l' cls d σ' H' → wpAny (model X.prog X.w) X.A (handleBy (.ref a) X.env hs') (SP X pins D) X.xe { s' with heap := hA } := by
      intro hs' l' hk
      induction hk with
      | nil =>
        intro wish
        apply wpAny_handleBy_nil
        obtain ⟨k1, k2, k3, ob, us, Tt, oT, tt, g, z, dd, f1, fr⟩ := id flA
        unfold PySem.passOn
        refine wpAny_bind (wpAny_field g dd f1 ?_)
        rw [if_neg (show ¬ ((Value.ref Tt == Value.none) = true) by simp)]
        have out : wpAny (model X.prog X.w) X.A (setFlight (.ref a) X.env.frame) (fun _ s4 => wpAny (model X.prog X.w) X.A (throw (.ref a) : Sem Flow) (SP X pins D) X.xe s4) X.xe { s' with heap := hA } := by
          rw [hfr]
          refine HandSPX.setFlight_upZ flA fun hB skyB upB => wpAny_throw (tk _ _ ?_)
          exact ⟨a, B, sI, pins, σ', H', cls, d, rfl, J, nb, (up.trans upA).trans upB, .inr (.inr (by rw [hst]; exact skyB)), na, os, ag, wish⟩
        first
          | exact wpAny_bind (wpAny_pure (wpAny_bind out))
          | exact wpAny_bind out
      | @cons x c ts st0 sts np hp hs2 l2 hc hsu r ih =>
        rintro ⟨b, mat, yes, no⟩
        refine wpAny_handleBy_cons (codeAny_handlers_test ?_) (fun q => nomatch q)
        have cl : PySem.W.Looks (model X.prog X.w) hA (typeOf (.ref a)) cls := fun A' Q' E' s'' k q => wpAny_typeOf_ref (k _ _ getA) (by rw [zA.1]; exact q)
        have matches_ := PySem.W.exm_one (M := model X.prog X.w) (JA.kIn) cl mat
        have named : ∀ {Q' E' : Value → Shared → Prop}, Q' c { s' with heap := hA } → wpAny (model X.prog X.w) (X.A.mark (some (.ref a))) (eval (.Name x np) X.env) Q' E' { s' with heap := hA } := fun {Q' E'} q => by
          obtain ⟨hg, hdb, hm | ⟨hm, hv, hnn⟩⟩ := hc
          · exact ld_glob (X := X.suite a ((a, oA) :: (X.pn ++ pins))) SA hg hm q hdb
          · exact ld_blt (X := X.suite a ((a, oA) :: (X.pn ++ pins))) SA hg hm hv q hnn hdb
        refine named (matches_.here ?_)
        cases b with
        | true =>
          apply codeAny_handlers_suite_as
          refine HandSPX.lands_againZ flA fun hB flB upB => ?_
          have JB : Inv X pins σ' H' { s' with heap := hB } := J.landed nb flB.1 ((up.trans upA).trans upB) os ag
          obtain ⟨oB, vB, getB, zB, dB⟩ := flB.there
          have SB := JB.suite getB dB na nL nF
          refine store_ok (X := X.suite a ((a, oB) :: (X.pn ++ pins))) (v := .ref a) SB hN hi vis rfl (fun sC SC => ?_) (.inr hln)
          refine wpAny_mono ((hsu a oB cls d (X.pn ++ pins) zB ⟨_, dB⟩).run [] sC _ H' _ SC (yes rfl a na)) (fun f s6 got => ?_) (fun _ _ z => False.elim z)
          have gone : ∀ {σ6 : L2.St} {H6 : Hp} {Q' : Shared → Prop}, Inv (X.suite a ((a, oB) :: (X.pn ++ pins))) [] σ6 H6 s6 → (∀ s7, Inv X pins (σ6.set i none) H6 s7 → Q' s7) →
              wpAny (model X.prog X.w) X.A (do bindName X.env n .none; unbindBehindTheSuite X.env n hp) (fun _ s7 => Q' s7) X.xe s6 := fun {σ6 H6 Q'} S6 hq => gone_ok (S6.unsuite ok) hN hi hln hq
          cases f with
          | next =>
            obtain ⟨σ6, H6, S6, q6⟩ := got
            exact gone S6 fun s7 J7 => ⟨_, _, J7, q6⟩
          | brk =>
            obtain ⟨σ6, H6, S6, q6⟩ := got
            exact gone S6 fun s7 J7 => ⟨_, _, J7, q6⟩
          | cont =>
            obtain ⟨σ6, H6, S6, q6⟩ := got
            exact gone S6 fun s7 J7 => ⟨_, _, J7, q6⟩
          | ret u =>
            obtain ⟨v6, σ6, H6, S6, r6, q6⟩ := got
            exact gone S6 fun s7 J7 => ⟨_, _, _, J7, r6, q6⟩
        | false =>
          show wpAny _ X.A (handleBy (.ref a) X.env hs2) _ _ _
          exact ih (no rfl)
    exact walk hh wish
  refine wpAny_mono ((hb (wEach X.K i Wout D l) (X.pn ++ pins) after catch_ PassesOwn.looking).run [] s σ H D (I.toTry _) start) (fun f s1 got => ?_) (fun e s1 he => he)
  cases f with
  | next =>
    obtain ⟨σ', H', J', q⟩ := got
    exact wpAny_execs_nil ⟨σ', H', J'.ofTry ok, q⟩
  | brk =>
    obtain ⟨σ', H', J', q⟩ := got
    exact ⟨σ', H', J'.ofTry ok, q⟩
  | cont =>
    obtain ⟨σ', H', J', q⟩ := got
    exact ⟨σ', H', J'.ofTry ok, q⟩
  | ret u =>
    obtain ⟨v, σ', H', J', r, q⟩ := got
    exact ⟨v, σ', H', J'.ofTry ok, r, q⟩
end
end TokT
namespace Tok
open PySem PySem.Spec PyProof.Rows L2
/-! ## x = e, else in the clauses: f, g = a value, the class is right -/
def tConsts : List V → TA
  | [] => tNil
  | v :: r => tCons (tC v) (tConsts r)
theorem consts_at : ∀ (vs : List V) {σ : L2.St} {H : Hp} {Q : List V → Hp → Prop}, Q vs H → tConsts vs σ H Q
  | [], _, _, _, q => q
  | v :: r, σ, H, Q, q => consts_at r (Q := fun xs H' => Q (v :: xs) H') q
def tGoodN (K : PySem.W.Frag) (D a : Addr) (cls : Value) (d : Option Addr) (ie : Nat) (v1 : V) (vs : List V) : TE := tAndV (tCB (rIsX K D a cls d) (tCons (tVar ie) (tCons (tC v1) tNil))) (tNotV (tCB (rIsX K D a cls d) (tCons (tVar ie) (tCons (tTup (tConsts vs)) tNil))))
/-- what a clause puts into the first name: by the exception's fields -/
inductive Fst where
  | con (s : Str) | at (s fl : Str)
def Fst.val : Fst → List (Str × D) → Option D
  | .con s, _ => some (.str s)
  | .at s fl, fs => (fs.lookup fl).map fun v => .tup [.str s, v]
def Fst.rd (ie : Nat) (D a : Addr) (cls : Value) (d : Option Addr) : Fst → TE
  | .con s => tC (.str s)
  | .at s fl => tTup (tCons (tC (.str s)) (tCons (tXf a cls d D fl (tVar ie)) tNil))
def tSuiteN (K : PySem.W.Frag) (D : Addr) (x : Fst) (ie jf jg : Nat) (v1 : V) (vs : List V) : Addr → Value → Option Addr → TS := fun a cls d => tPar jf jg (tCons (x.rd ie D a cls d) (tCons (tGoodN K D a cls d ie v1 vs) tNil))
/-- a clause: its class, the value, the class above, the others -/
structure Clz where
  c : Nat
  x : Fst
  up : Addr
  no : List Addr
def Clz.suite (G : Gx) (K : PySem.W.Frag) (ie jf jg : Nat) (z : Clz) : Addr → Value → Option Addr → TS := tSuiteN K (G.CA z.c) z.x ie jf jg (.ref z.up) (z.no.map V.ref)
def sTryN (ie i jf jg : Nat) (zs : List (Nat × Fst)) (m : Den) : DenS := fun ρ S => if ie < ρ.length then (match m ρ S with
  | .ok d S1 => .ok (.nx (ρ.set i (some d))) S1
  | .exn c fs S1 => match zs.lookup c with
    | some x => match x.val fs with
      | some v => .ok (.nx (((ρ.set jf (some v)).set jg (some (.bl true))).set ie none)) S1
      | none => .bad
    | none => .bad
  | .bad => .bad) else .bad
/-- what must be known of the classes -/
structure ClzOk (G : Gx) (K : PySem.W.Frag) (zs : List Clz) : Prop where
  ex : ∀ z ∈ zs, ∀ y ∈ zs, PySem.W.exmOne K (.ref (G.CA z.c)) (.ref (G.CA y.c)) = some (decide (z.c = y.c))
  up : ∀ z ∈ zs, PySem.W.kitOne K (.ref (G.CA z.c)) (.ref z.up) = some true
  no : ∀ z ∈ zs, PySem.W.kitAny K (.ref (G.CA z.c)) (z.no.map Value.ref) = some false
  ln : ∀ z ∈ zs, z.no.length ≤ sizeLine
theorem relv_refs : ∀ {l : List Addr} {us : List Value}, Vals (l.map V.ref) us → us = l.map Value.ref
  | [], _, .nil => rfl
  | a :: l, _, .cons r rr => by rw [List.map_cons, ← relv_refs rr]; cases r; rfl
section
variable {X : Cx} {G : Gx} {W : WX} {ie i jf jg : Nat} {m : Den}
/-- a suite's reading -/
theorem suiteN_at {σ : L2.St} {H : Hp} {E : Ends} {ρ : Env} {S : Sto} {η : List Addr} {T F : Hp} {fs : List (Str × D)} {dd : Option Addr} {a : Addr} {z : Clz} {v : D} (hf : ie ≠ jf) (hg : ie ≠ jg) (f : FRel G ρ σ η T) (g : GRel G H S η T F) (xr : XRep G η T H z.c fs (.ref (G.CA z.c)) dd) (hie : ie < σ.length)
    (k1 : PySem.W.kitOne X.K (.ref (G.CA z.c)) (.ref z.up) = some true) (k2 : PySem.W.kitAny X.K (.ref (G.CA z.c)) (z.no.map Value.ref) = some false) (k3 : z.no.length ≤ sizeLine) (hv : z.x.val fs = some v)
    (p : ∀ σ' H' η' T', Ext η T η' T' → GRel G H' S η' T' F → FRel G (((ρ.set jf (some v)).set jg (some (.bl true))).set ie none) σ' η' T' → E.nx σ' H') :
    z.suite G X.K ie jf jg a (.ref (G.CA z.c)) dd (TokT.endsN E ie) (σ.set ie (some (.ref a))) H := by
  have get : (σ.set ie (some (V.ref a)))[ie]? = some (some (V.ref a)) := by rw [List.getElem?_set_self hie]
  -- the class is right
  have good : ∀ {v' : V} {H1 : Hp} {η1 : List Addr} {T1 : Hp}, Ext η T η1 T1 → GRel G H1 S η1 T1 F → Rep G η1 T1 v v' → (dd = none ∨ ∃ x fv, dd = some x ∧ H1 x = some (.xd fv)) →
      tCons (tGoodN X.K (G.CA z.c) a (.ref (G.CA z.c)) dd ie (.ref z.up) (z.no.map V.ref)) tNil (σ.set ie (some (.ref a))) H1 fun us H' => ∃ v w, v' :: us = [v, w] ∧ (TokT.endsN E ie).nx (((σ.set ie (some (.ref a))).set jf (some v)).set jg (some w)) H' := by
    intro v' H1 η1 T1 e1 g1 r1 hx
    refine ⟨.ref a, get, .ref z.up, rfl, rfl, hx, .inl ⟨.ref z.up, true, fun u r => r, k1, true, rfl, ?_⟩⟩
    rw [if_pos rfl]
    refine ⟨.ref a, get, ?_⟩
    refine consts_at _ ⟨by rw [List.length_map]; exact k3, fun tp htp => ⟨.ref tp, rfl, rfl, ?_, .inr ⟨tp, _, z.no.map Value.ref, false, rfl, upd_same, fun us r => relv_refs r, k2, false, rfl, v', .bl true, rfl, ?_⟩⟩⟩
    · rcases hx with hx | ⟨x, fv, h1, h2⟩
      · exact .inl hx
      · exact .inr ⟨x, fv, h1, by rw [upd_ne (ne_of_none h2 htp)]; exact h2⟩
    · have e2 : ((((σ.set ie (some (V.ref a))).set jf (some v')).set jg (some (.bl true))).set ie none) = (((σ.set jf (some v')).set jg (some (.bl true))).set ie none) := by
        rw [List.set_comm _ _ hf, List.set_comm _ _ hg, List.set_set]
      show E.nx ((((σ.set ie (some (V.ref a))).set jf (some v')).set jg (some (.bl true))).set ie none) _
      rw [e2]
      exact p _ _ η1 T1 e1 (g1.beside htp _) (set_none ((((f.mono e1).set jf r1).set jg .bl)) ie)
  have hx0 : dd = none ∨ ∃ x fv, dd = some x ∧ H x = some (.xd fv) := by
    obtain ⟨_, xr⟩ := xr
    cases fs with
    | nil => exact .inl xr
    | cons f0 fr => obtain ⟨dx, fv, h1, h2, _⟩ := xr; exact .inr ⟨dx, fv, h1, h2⟩
  obtain ⟨c, x, up, no⟩ := z
  cases x with
  | con s =>
    cases hv
    exact good Ext.refl g .str hx0
  | «at» s fl =>
    simp only [Fst.val] at hv
    cases ql : fs.lookup fl with
    | none => rw [ql] at hv; cases hv
    | some w =>
      rw [ql] at hv
      cases hv
      cases fs with
      | nil => cases ql
      | cons f0 fr =>
        obtain ⟨_, dx, fv, rfl, hx, rf⟩ := xr
        obtain ⟨u, hu, ru⟩ := look_rep rf ql
        refine ⟨.ref a, get, rfl, rfl, dx, fv, u, rfl, hx, hu, by show 2 ≤ sizeLine; decide, fun tp htp => ?_⟩
        obtain ⟨η2, T2, e2, g2, r2⟩ := fresh_pair g htp (dx := .str s) .str ru
        refine good e2 g2 r2 (.inr ⟨dx, fv, rfl, ?_⟩)
        rw [upd_ne (ne_of_none hx htp)]; exact hx
theorem each_at {σ : L2.St} {H : Hp} {E : Ends} {ρ : Env} {S : Sto} {η : List Addr} {T F : Hp} {fs : List (Str × D)} {dd : Option Addr} {c : Nat} {v : D} {x : Fst} (hf : ie ≠ jf) (hg : ie ≠ jg) (f : FRel G ρ σ η T) (g : GRel G H S η T F) (xr : XRep G η T H c fs (.ref (G.CA c)) dd) (hie : ie < σ.length)
    (hv : x.val fs = some v) (p : ∀ σ' H' η' T', Ext η T η' T' → GRel G H' S η' T' F → FRel G (((ρ.set jf (some v)).set jg (some (.bl true))).set ie none) σ' η' T' → E.nx σ' H') :
    ∀ {zs : List Clz}, ClzOk G X.K zs → (zs.map fun z => (z.c, z.x)).lookup c = some x → TokT.wEach X.K ie (fun _ _ _ _ => False) E (zs.map fun z => (.ref (G.CA z.c), z.suite G X.K ie jf jg)) (.ref (G.CA c)) dd σ H
  | [], _, hl => by cases hl
  | z :: zs, ok, hl => by
    rw [List.map_cons, List.lookup_cons] at hl
    have rest : ClzOk G X.K zs := ⟨fun a ha b hb => ok.ex a (List.mem_cons_of_mem _ ha) b (List.mem_cons_of_mem _ hb), fun a ha => ok.up a (List.mem_cons_of_mem _ ha), fun a ha => ok.no a (List.mem_cons_of_mem _ ha), fun a ha => ok.ln a (List.mem_cons_of_mem _ ha)⟩
    by_cases hc : c = z.c
    · subst hc
      have e1 : (z.c == z.c) = true := by simp
      rw [e1] at hl
      simp only [Option.some.injEq] at hl
      subst hl
      have q := ok.ex z List.mem_cons_self z List.mem_cons_self
      refine ⟨true, by rw [q]; simp, fun _ a ha => suiteN_at hf hg f g xr hie (ok.up z List.mem_cons_self) (ok.no z List.mem_cons_self) (ok.ln z List.mem_cons_self) hv p, fun h => Bool.noConfusion h⟩
    · have e1 : (c == z.c) = false := beq_eq_false_iff_ne.mpr hc
      rw [e1] at hl
      have mem : ∃ y ∈ zs, y.c = c := by
        clear ok rest
        induction zs with
        | nil => cases hl
        | cons y ys ih =>
          rw [List.map_cons, List.lookup_cons] at hl
          by_cases hy : c = y.c
          · exact ⟨y, List.mem_cons_self, hy.symm⟩
          · have e2 : (c == y.c) = false := beq_eq_false_iff_ne.mpr hy
            rw [e2] at hl
            obtain ⟨w, h1, h2⟩ := ih hl
            exact ⟨w, List.mem_cons_of_mem _ h1, h2⟩
      obtain ⟨y, hy, hyc⟩ := mem
      have q := ok.ex y (List.mem_cons_of_mem _ hy) z List.mem_cons_self
      rw [hyc] at q
      refine ⟨false, by rw [q]; simp [hc], fun h => Bool.noConfusion h, fun _ => each_at hf hg f g xr hie hv p rest hl⟩
theorem s_tryN {st : Stmt} {zs : List Clz} (hf : ie ≠ jf) (hg : ie ≠ jg) (ok : ClzOk G X.K zs)
    (h : PS X st (fun Dn σ H => tAsg (tE G (TokT.wEach X.K ie (fun _ _ _ _ => False) Dn (zs.map fun z => (.ref (G.CA z.c), z.suite G X.K ie jf jg))) m) (gName i) Dn σ H)) : PS X st (tS G W (sTryN ie i jf jg (zs.map fun z => (z.c, z.x)) m)) :=
  h.imp fun Dn σ H ⟨ρ, S, η, T, F, f, g, p⟩ => by
    refine ⟨ρ, S, η, T, F, f, g, ?_⟩
    unfold sTryN at p
    split at p
    rotate_left
    · exact p.elim
    rename_i hie
    rw [f.len] at hie
    cases q : m ρ S with
    | bad => rw [q] at p; exact p.elim
    | ok d S1 =>
      rw [q] at p
      exact fun v H' η' T' e' g' r' => p _ H' η' T' e' g' ((f.mono e').set i r')
    | exn c fs S1 =>
      rw [q] at p
      dsimp only at p
      split at p
      · rename_i x hx
        split at p
        · rename_i v hv
          rintro cls dd H' η' T' e' g' ⟨rfl, xr⟩
          exact each_at hf hg (f.mono e') g' ⟨rfl, xr⟩ hie hv (fun σ' H2 η2 T2 e2 g2 f2 => p _ _ η2 T2 (e'.trans e2) g2 f2) ok hx
        · exact p.elim
      · exact p.elim
end
end Tok
namespace Tok
open PySem PySem.Spec PyProof.Rows L2
theorem kit_anyF {K : PySem.W.Frag} {t x : Value} {r : List Value} (h1 : PySem.W.kitOne K t x = some false) (h2 : PySem.W.kitAny K t r = some false) : PySem.W.kitAny K t (x :: r) = some false := by
  unfold PySem.W.kitAny
  rw [h1]
  exact h2
end Tok
namespace Tok
open PySem PySem.Spec PyProof.Rows L2
theorem isOk_none {G : Gx} {K : PySem.W.Frag} (d1 : PySem.W.specialIn K (.builtin "object.__class__") "__get__" = some (some (.builtin "getset_descriptor.__get__"))) (d2 : PySem.W.takesIn K (.builtin "object.__class__") = some true) : IsOk G K [] where
  obj := fun c h => nomatch h
  dsc := ⟨d1, d2⟩
  own := fun t u ht hu ⟨c, h⟩ => h.elim (fun e => nomatch ht c e) fun e => nomatch hu c e
end Tok
namespace TokN
open PySem PySem.SeqAt MeetsSeq MeetsSeq2 MeetsSeq3 SeqRoads2
open AutoSeq1 (wpAny_loadPart')
/-! ## == [], != [], == (), != (): whatever the items are -/
section
variable {l b : Addr} {xs ys : Array Value} {n n2 : Nat} {dd dd2 : Option Addr} {sl sl2 : Array (Option Value)}
theorem list_eq_un (h : xs.size ≠ ys.size) : Meets (Builtin.«list.__eq__» ⟨[.ref l, .ref b], []⟩) (fun _ R s => s.heap.get? l = some { cls := .type "list", dict := dd, data := .seq xs n, slots := sl } ∧ s.heap.get? b = some { cls := .type "list", dict := dd2, data := .seq ys n2, slots := sl2 } ∧ R (.ok (.ret (.bool false))) s) :=
  .of_wp fun prog w A R s hh => by
    obtain ⟨hp, g, d, tk, os⟩ := s; obtain ⟨hl, hb, hr⟩ := hh
    have f3 := AutoSeq1.sub_list_list
    have ne : (xs.size != ys.size) = true := by simp [h]
    wp_walk using wpAny_loadPart' hl, wpAny_loadPart' hb
    exact ⟨_, rfl, hr⟩
theorem list_ne_un (h : xs.size ≠ ys.size) : Meets (Builtin.«list.__ne__» ⟨[.ref l, .ref b], []⟩) (fun _ R s => s.heap.get? l = some { cls := .type "list", dict := dd, data := .seq xs n, slots := sl } ∧ s.heap.get? b = some { cls := .type "list", dict := dd2, data := .seq ys n2, slots := sl2 } ∧ R (.ok (.ret (.bool true))) s) :=
  .of_wp fun prog w A R s hh => by
    obtain ⟨hp, g, d, tk, os⟩ := s; obtain ⟨hl, hb, hr⟩ := hh
    have f3 := AutoSeq1.sub_list_list
    have ne : (xs.size != ys.size) = true := by simp [h]
    wp_walk using wpAny_loadPart' hl, wpAny_loadPart' hb
    exact ⟨_, rfl, hr⟩
theorem tup_eq_un : Meets (Builtin.«tuple.__eq__» ⟨[.ref l, .ref b], []⟩) (fun _ R s => s.heap.get? l = some { cls := .type "tuple", dict := dd, data := .seq xs n, slots := sl } ∧ s.heap.get? b = some { cls := .type "tuple", dict := dd2, data := .seq #[] n2, slots := sl2 } ∧ R (.ok (.ret (.bool (xs.size == 0)))) s) :=
  .of_wp fun prog w A R s hh => by
    obtain ⟨hp, g, d, tk, os⟩ := s; obtain ⟨hl, hb, hr⟩ := hh
    have f3 := AutoSeq1.sub_tuple_tuple
    wp_walk using wpAny_loadPart' hl, wpAny_loadPart' hb
    rw [List.zip_nil_right]
    wp_walk
    exact ⟨_, rfl, hr⟩
theorem tup_ne_un : Meets (Builtin.«tuple.__ne__» ⟨[.ref l, .ref b], []⟩) (fun _ R s => s.heap.get? l = some { cls := .type "tuple", dict := dd, data := .seq xs n, slots := sl } ∧ s.heap.get? b = some { cls := .type "tuple", dict := dd2, data := .seq #[] n2, slots := sl2 } ∧ R (.ok (.ret (.bool (xs.size != 0)))) s) :=
  .of_wp fun prog w A R s hh => by
    obtain ⟨hp, g, d, tk, os⟩ := s; obtain ⟨hl, hb, hr⟩ := hh
    have f3 := AutoSeq1.sub_tuple_tuple
    wp_walk using wpAny_loadPart' hl, wpAny_loadPart' hb
    rw [List.zip_nil_right]
    wp_walk
    exact ⟨_, rfl, hr⟩
end
section
variable {prog : Program} {w : World} {A : Around} {s : Shared} {l b : Addr} {xs ys : Array Value}
theorem go_list {op : CmpOp} {id : String} {B : Builtin} {r : Bool} (hl : s.heap.IsList l xs) (hb : s.heap.IsList b ys) (slot : Slot "list" (cmpInfo op).2.1 id) (en : entryFor table id = some B) (ar : argsOk id ⟨[.ref l, .ref b], []⟩) (hu : A.units < cLine)
    (g : ∀ (n n2 : Nat) (dd dd2 : Option Addr) (sl sl2 : Array (Option Value)), Meets (B ⟨[.ref l, .ref b], []⟩) (fun _ R s => s.heap.get? l = some { cls := .type "list", dict := dd, data := .seq xs n, slots := sl } ∧ s.heap.get? b = some { cls := .type "list", dict := dd2, data := .seq ys n2, slots := sl2 } ∧ R (.ok (.ret (.bool r))) s))
    {E Q : Value → Shared → Prop} (h : Q (.bool r) s) : wpAny (model prog w) A (richCompare op (.ref l) (.ref b)) Q E s := by
  obtain ⟨⟨c1, d1, da1, s1⟩, o1, e1, n1, f1⟩ := _root_.id hl
  obtain ⟨⟨c2, d2, da2, s2⟩, o2, e2, n2, f2⟩ := _root_.id hb
  simp only at e1 f1 e2 f2
  subst e1 f1 e2 f2
  have t1 : s.TypeIs (.ref l) "list" := ⟨_, o1, rfl⟩
  have t2 : s.TypeIs (.ref b) "list" := ⟨_, o2, rfl⟩
  exact wpAny_richCompare_same_room t1 t2 slot (PySem.call_meets slot t1 en ar (g n1 n2 d1 d2 s1 s2) ⟨o1, o2, show Value.bool r ≠ Value.notImplemented ∧ Q (.bool r) s from ⟨(fun x => nomatch x), h⟩⟩) hu
theorem go_tup {op : CmpOp} {id : String} {B : Builtin} {r : Bool} (hl : s.heap.IsTuple l xs) (hb : s.heap.IsTuple b #[]) (slot : Slot "tuple" (cmpInfo op).2.1 id) (en : entryFor table id = some B) (ar : argsOk id ⟨[.ref l, .ref b], []⟩) (hu : A.units < cLine)
    (g : ∀ (n n2 : Nat) (dd dd2 : Option Addr) (sl sl2 : Array (Option Value)), Meets (B ⟨[.ref l, .ref b], []⟩) (fun _ R s => s.heap.get? l = some { cls := .type "tuple", dict := dd, data := .seq xs n, slots := sl } ∧ s.heap.get? b = some { cls := .type "tuple", dict := dd2, data := .seq #[] n2, slots := sl2 } ∧ R (.ok (.ret (.bool r))) s))
    {E Q : Value → Shared → Prop} (h : Q (.bool r) s) : wpAny (model prog w) A (richCompare op (.ref l) (.ref b)) Q E s := by
  obtain ⟨⟨c1, d1, da1, s1⟩, o1, e1, n1, f1⟩ := _root_.id hl
  obtain ⟨⟨c2, d2, da2, s2⟩, o2, e2, n2, f2⟩ := _root_.id hb
  simp only at e1 f1 e2 f2
  subst e1 f1 e2 f2
  have t1 : s.TypeIs (.ref l) "tuple" := ⟨_, o1, rfl⟩
  have t2 : s.TypeIs (.ref b) "tuple" := ⟨_, o2, rfl⟩
  exact wpAny_richCompare_same_room t1 t2 slot (PySem.call_meets slot t1 en ar (g n1 n2 d1 d2 s1 s2) ⟨o1, o2, show Value.bool r ≠ Value.notImplemented ∧ Q (.bool r) s from ⟨(fun x => nomatch x), h⟩⟩) hu
end
end TokN
namespace Tok
open PySem PySem.Spec PyProof.Rows L2 TokN
section
variable {X : Cx} {G : Gx}
theorem op_eq0 (hu : X.A.units < cLine) : OpR X (compareOp .Eq) (fun x y H Q => ∃ a b xs, x = .ref a ∧ y = .ref b ∧ SqL X.K H a xs ∧ SqL X.K H b [] ∧ xs ≠ [] ∧ Q (.bl false) H) := by
  intro pins s σ H x y v u Q I rx ry h
  obtain ⟨a, b, xs, rfl, rfl, ha, hb, hx, q⟩ := h
  cases rx; cases ry
  obtain ⟨its, r1, p1, _⟩ := I.list ha
  obtain ⟨its2, r2, p2, _⟩ := I.list hb
  cases r2
  exact go_list p1.isList p2.isList F.slot_list_eq F.entry_list_eq (F.args_list_eq_2 _ _) hu (fun _ _ _ _ _ _ => list_eq_un (by cases r1 with | nil => exact absurd rfl hx | cons _ _ => simp)) ⟨.bl false, H, I, rfl, q⟩
theorem op_ne0 (hu : X.A.units < cLine) : OpR X (compareOp .NotEq) (fun x y H Q => ∃ a b xs, x = .ref a ∧ y = .ref b ∧ SqL X.K H a xs ∧ SqL X.K H b [] ∧ xs ≠ [] ∧ Q (.bl true) H) := by
  intro pins s σ H x y v u Q I rx ry h
  obtain ⟨a, b, xs, rfl, rfl, ha, hb, hx, q⟩ := h
  cases rx; cases ry
  obtain ⟨its, r1, p1, _⟩ := I.list ha
  obtain ⟨its2, r2, p2, _⟩ := I.list hb
  cases r2
  exact go_list p1.isList p2.isList F.slot_list_ne F.entry_list_ne (F.args_list_ne_2 _ _) hu (fun _ _ _ _ _ _ => list_ne_un (by cases r1 with | nil => exact absurd rfl hx | cons _ _ => simp)) ⟨.bl true, H, I, rfl, q⟩
theorem op_eq0T (hu : X.A.units < cLine) : OpR X (compareOp .Eq) (fun x y H Q => ∃ a b xs, x = .ref a ∧ y = .ref b ∧ SqT X.K H a xs ∧ SqT X.K H b [] ∧ Q (.bl xs.isEmpty) H) := by
  intro pins s σ H x y v u Q I rx ry h
  obtain ⟨a, b, xs, rfl, rfl, ha, hb, q⟩ := h
  cases rx; cases ry
  obtain ⟨its, r1, p1, _⟩ := I.tuple ha
  obtain ⟨its2, r2, p2, _⟩ := I.tuple hb
  cases r2
  refine go_tup (show s.heap.IsTuple a its.toArray from p1) (show s.heap.IsTuple b #[] from p2) F.slot_tuple_eq F.entry_tuple_eq (F.args_tuple_eq_2 _ _) hu (fun _ _ _ _ _ _ => tup_eq_un) ⟨.bl xs.isEmpty, H, I, ?_, q⟩
  cases r1 <;> simp [L2.RelV]
theorem op_ne0T (hu : X.A.units < cLine) : OpR X (compareOp .NotEq) (fun x y H Q => ∃ a b xs, x = .ref a ∧ y = .ref b ∧ SqT X.K H a xs ∧ SqT X.K H b [] ∧ Q (.bl (!xs.isEmpty)) H) := by
  intro pins s σ H x y v u Q I rx ry h
  obtain ⟨a, b, xs, rfl, rfl, ha, hb, q⟩ := h
  cases rx; cases ry
  obtain ⟨its, r1, p1, _⟩ := I.tuple ha
  obtain ⟨its2, r2, p2, _⟩ := I.tuple hb
  cases r2
  refine go_tup (show s.heap.IsTuple a its.toArray from p1) (show s.heap.IsTuple b #[] from p2) F.slot_tuple_ne F.entry_tuple_ne (F.args_tuple_ne_2 _ _) hu (fun _ _ _ _ _ _ => tup_ne_un) ⟨.bl (!xs.isEmpty), H, I, ?_, q⟩
  cases r1 <;> simp [L2.RelV]
/-- a list, a list of the store or a tuple, beside an empty one -/
def empOf (S : Sto) (x y : D) : Option Bool := match y with
  | .lst [] => match x with
    | .lst xs => some xs.isEmpty
    | .ref l => match S[l]? with
      | some (.lst xs) => some xs.isEmpty
      | _ => none
    | _ => none
  | .tup [] => match x with
    | .tup xs => some xs.isEmpty
    | _ => none
  | _ => none
def eqE : P2 := fun S x y => match empOf S x y with
  | some b => some (.bl b)
  | none => eqD S x y
def neE : P2 := fun S x y => match empOf S x y with
  | some b => some (.bl (!b))
  | none => neD S x y
theorem emp_reading (hK : G.K = X.K) (hu : X.A.units + 64 < cLine) {dx dy : D} {x y : V} {b : Bool} {H : Hp} {S : Sto} {η : List Addr} {T F : Hp} (g : GRel G H S η T F) (rx : Rep G η T dx x) (ry : Rep G η T dy y) (e : empOf S dx dy = some b) :
    (∀ Q : VK, Q (.bl b) H → ∃ r', OpR X (compareOp .Eq) r' ∧ r' x y H Q) ∧ (∀ Q : VK, Q (.bl (!b)) H → ∃ r', OpR X (compareOp .NotEq) r' ∧ r' x y H Q) := by
  have hu' : X.A.units < cLine := by omega
  have lists : ∀ {a c : Addr} {vs : List V} {ds : List D}, SqL X.K H a vs → SqL X.K H c [] → Reps G η T ds vs → x = .ref a → y = .ref c → b = ds.isEmpty →
      (∀ Q : VK, Q (.bl b) H → ∃ r', OpR X (compareOp .Eq) r' ∧ r' x y H Q) ∧ (∀ Q : VK, Q (.bl (!b)) H → ∃ r', OpR X (compareOp .NotEq) r' ∧ r' x y H Q) := by
    rintro a c vs ds ha hc r rfl rfl rfl
    cases r with
    | nil => exact ⟨fun Q q => ⟨_, op_eqD hu, .list [], .list [], .lst ha .nil, .lst hc .nil, by decide, by decide, q⟩, fun Q q => ⟨_, op_neD hu, .list [], .list [], .lst ha .nil, .lst hc .nil, by decide, by decide, q⟩⟩
    | cons r rr => exact ⟨fun Q q => ⟨_, op_eq0 hu', a, c, _, rfl, rfl, ha, hc, by simp, q⟩, fun Q q => ⟨_, op_ne0 hu', a, c, _, rfl, rfl, ha, hc, by simp, q⟩⟩
  unfold empOf at e
  split at e
  · cases ry with
    | @lst c us _ hc rc =>
      cases rc
      split at e
      · cases e
        cases rx with | lst ha ra => exact lists (SqL.of (g.sub _ _ ha)) (SqL.of (g.sub _ _ hc)) ra rfl rfl rfl
      · cases rx with
        | @ref l p hp =>
          split at e
          · rename_i xs hS
            cases e
            obtain ⟨vs, hH, r⟩ := g.obj _ _ p hS hp
            exact lists (SqL.of hH) (SqL.of (g.sub _ _ hc)) r rfl rfl rfl
          · cases e
      · cases e
  · cases ry with
    | @tup c us _ hc rc =>
      cases rc
      split at e
      · cases e
        cases rx with
        | @tup a vs _ ha ra =>
          have ee : ∀ {ds : List D}, Reps G η T ds vs → ds.isEmpty = vs.isEmpty := fun r => by cases r <;> rfl
          rw [ee ra]
          exact ⟨fun Q q => ⟨_, op_eq0T hu', a, c, vs, rfl, rfl, sqT_up hK g ha, sqT_up hK g hc, q⟩, fun Q q => ⟨_, op_ne0T hu', a, c, vs, rfl, rfl, sqT_up hK g ha, sqT_up hK g hc, q⟩⟩
      · cases e
  · cases e
theorem o_eqE (hK : G.K = X.K) (hu : X.A.units + 64 < cLine) : OpR X (compareOp .Eq) (r2 G eqE) := opR_mk fun x y H Q ⟨S, η, T, F, dx, dy, g, rx, ry, d, e, k⟩ => by
  unfold eqE at e
  cases q : empOf S dx dy with
  | none => rw [q] at e; exact ⟨_, o_eq hK hu, S, η, T, F, dx, dy, g, rx, ry, d, e, k⟩
  | some b => rw [q] at e; cases e; exact (emp_reading hK hu g rx ry q).1 Q (k _ _ _ _ Ext.refl g .bl)
theorem o_neE (hK : G.K = X.K) (hu : X.A.units + 64 < cLine) : OpR X (compareOp .NotEq) (r2 G neE) := opR_mk fun x y H Q ⟨S, η, T, F, dx, dy, g, rx, ry, d, e, k⟩ => by
  unfold neE at e
  cases q : empOf S dx dy with
  | none => rw [q] at e; exact ⟨_, o_ne hK hu, S, η, T, F, dx, dy, g, rx, ry, d, e, k⟩
  | some b => rw [q] at e; cases e; exact (emp_reading hK hu g rx ry q).2 Q (k _ _ _ _ Ext.refl g .bl)
end
end Tok
namespace Tok
open PySem PySem.Spec PyProof.Rows L2
/-- str(x) of an int or a text -/
def strE : PN := fun S xs => match xs with
  | [.str s] => some (.str s)
  | xs => strD S xs
theorem c_strE {X : Cx} {G : Gx} : CallR X (.type "str") (rN G strE) := callR_mk fun xs H Q ⟨S, η, T, F, ds, g, rx, d, e, k⟩ => by
  unfold strE at e
  split at e
  · cases rx with | cons r rr => cases r; cases rr; cases e; exact ⟨_, SkE.call_str_str, _, rfl, k _ _ _ _ Ext.refl g .str⟩
  · exact ⟨_, c_str, S, η, T, F, _, g, rx, d, e, k⟩
end Tok
namespace K51
open PySem L2 Tok
def top (i : Nat) : Stmt := PySem.Challenge.pw_tokenreads_k51_texts_of_deeds_and_histor.main.body.getD i (.Pass ⟨0, 0, 0, 0⟩)
abbrev OWN : List Nat := []
def c_LETTERS : D := (.str "abcdefghijklmnopqrstuvwxyz")
def c_LONGEST : D := (.int 8)
def c_NUMBER : D := (.str "number")
def c_KEY : D := (.str "key")
def c_LEADER : D := (.str "leader")
def c_GHOST_LIST : D := (.str "ghosts")
def tab_ENTRIES : List (Str × D) := [("put", (.tup [c_KEY])), ("halt", (.tup [c_NUMBER])), ("resume", (.tup [c_NUMBER])), ("take", (.tup [c_NUMBER, c_NUMBER])), ("safe", (.tup [c_NUMBER])), ("takeover", (.tup [c_NUMBER, c_GHOST_LIST])), ("forget", (.tup [c_NUMBER, c_NUMBER])), ("begin", (.tup [])), ("read", (.tup [c_NUMBER, c_KEY, c_NUMBER, c_LEADER])), ("write", (.tup [c_NUMBER, c_KEY])), ("finish", (.tup [c_NUMBER])), ("hand", (.tup [c_NUMBER, c_NUMBER]))]
def c_DIGITS : D := (.str "0123456789")
def c_MOST_DIGITS : D := (.int 30)
def c_NO_LEADER : D := (.str "none")
def c_NO_GHOSTS : D := (.str "-")
abbrev s_f_law_agree : Stmt := top 43
def N_f_law_agree : List Str := ["found", "due", "k"]
theorem sc_f_law_agree : FnScope N_f_law_agree ["found", "due"] (defScope s_f_law_agree) := ⟨rfl, rfl, rfl, by decide +kernel, rfl, by decide +kernel, by decide +kernel⟩
abbrev s_M_BadText_init_ : Stmt := inClass (top 5) 0
def N_M_BadText_init_ : List Str := ["self", "at"]
theorem sc_M_BadText_init_ : FnScope N_M_BadText_init_ ["self", "at"] (defScope s_M_BadText_init_) := ⟨rfl, rfl, rfl, by decide +kernel, rfl, by decide +kernel, by decide +kernel⟩
abbrev s_f_is_integer : Stmt := top 9
def N_f_is_integer : List Str := ["thing"]
theorem sc_f_is_integer : FnScope N_f_is_integer ["thing"] (defScope s_f_is_integer) := ⟨rfl, rfl, rfl, by decide +kernel, rfl, by decide +kernel, by decide +kernel⟩
abbrev s_f_is_from : Stmt := top 10
def N_f_is_from : List Str := ["low", "thing"]
theorem sc_f_is_from : FnScope N_f_is_from ["low", "thing"] (defScope s_f_is_from) := ⟨rfl, rfl, rfl, by decide +kernel, rfl, by decide +kernel, by decide +kernel⟩
abbrev s_f_is_ascending_tuple : Stmt := top 18
def N_f_is_ascending_tuple : List Str := ["thing", "number", "later"]
theorem sc_f_is_ascending_tuple : FnScope N_f_is_ascending_tuple ["thing"] (defScope s_f_is_ascending_tuple) := ⟨rfl, rfl, rfl, by decide +kernel, rfl, by decide +kernel, by decide +kernel⟩
abbrev s_f_is_key : Stmt := top 11
def N_f_is_key : List Str := ["thing", "sign"]
theorem sc_f_is_key : FnScope N_f_is_key ["thing"] (defScope s_f_is_key) := ⟨rfl, rfl, rfl, by decide +kernel, rfl, by decide +kernel, by decide +kernel⟩
abbrev s_f_is_entry : Stmt := top 19
def N_f_is_entry : List Str := ["sort", "thing"]
theorem sc_f_is_entry : FnScope N_f_is_entry ["sort", "thing"] (defScope s_f_is_entry) := ⟨rfl, rfl, rfl, by decide +kernel, rfl, by decide +kernel, by decide +kernel⟩
abbrev s_f_has_deed_word : Stmt := top 20
def N_f_has_deed_word : List Str := ["thing"]
theorem sc_f_has_deed_word : FnScope N_f_has_deed_word ["thing"] (defScope s_f_has_deed_word) := ⟨rfl, rfl, rfl, by decide +kernel, rfl, by decide +kernel, by decide +kernel⟩
abbrev s_f_is_deed : Stmt := top 21
def N_f_is_deed : List Str := ["thing", "sort", "part"]
theorem sc_f_is_deed : FnScope N_f_is_deed ["thing"] (defScope s_f_is_deed) := ⟨rfl, rfl, rfl, by decide +kernel, rfl, by decide +kernel, by decide +kernel⟩
abbrev s_f_number_of : Stmt := top 28
def N_f_number_of : List Str := ["word", "sign"]
theorem sc_f_number_of : FnScope N_f_number_of ["word"] (defScope s_f_number_of) := ⟨rfl, rfl, rfl, by decide +kernel, rfl, by decide +kernel, by decide +kernel⟩
abbrev s_f_ghosts_in : Stmt := top 33
def N_f_ghosts_in : List Str := ["word", "part"]
theorem sc_f_ghosts_in : FnScope N_f_ghosts_in ["word"] (defScope s_f_ghosts_in) := ⟨rfl, rfl, rfl, by decide +kernel, rfl, by decide +kernel, by decide +kernel⟩
abbrev s_f_entry_in : Stmt := top 34
def N_f_entry_in : List Str := ["sort", "word", "number"]
theorem sc_f_entry_in : FnScope N_f_entry_in ["sort", "word"] (defScope s_f_entry_in) := ⟨rfl, rfl, rfl, by decide +kernel, rfl, by decide +kernel, by decide +kernel⟩
abbrev s_f_deed_in : Stmt := top 35
def N_f_deed_in : List Str := ["line", "word", "words", "deed", "sort", "part"]
theorem sc_f_deed_in : FnScope N_f_deed_in ["line"] (defScope s_f_deed_in) := ⟨rfl, rfl, rfl, by decide +kernel, rfl, by decide +kernel, by decide +kernel⟩
abbrev s_f_check_text : Stmt := top 29
def N_f_check_text : List Str := ["thing"]
theorem sc_f_check_text : FnScope N_f_check_text ["thing"] (defScope s_f_check_text) := ⟨rfl, rfl, rfl, by decide +kernel, rfl, by decide +kernel, by decide +kernel⟩
abbrev s_f_read_history : Stmt := top 39
def N_f_read_history : List Str := ["text", "first", "others", "servers", "deeds", "line", "index", "deed"]
theorem sc_f_read_history : FnScope N_f_read_history ["text"] (defScope s_f_read_history) := ⟨rfl, rfl, rfl, by decide +kernel, rfl, by decide +kernel, by decide +kernel⟩
abbrev s_f_read_deed : Stmt := top 36
def N_f_read_deed : List Str := ["text", "deed"]
theorem sc_f_read_deed : FnScope N_f_read_deed ["text"] (defScope s_f_read_deed) := ⟨rfl, rfl, rfl, by decide +kernel, rfl, by decide +kernel, by decide +kernel⟩
abbrev s_f_entry_text : Stmt := top 30
def N_f_entry_text : List Str := ["sort", "thing", "number"]
theorem sc_f_entry_text : FnScope N_f_entry_text ["sort", "thing"] (defScope s_f_entry_text) := ⟨rfl, rfl, rfl, by decide +kernel, rfl, by decide +kernel, by decide +kernel⟩
abbrev s_f_deed_line : Stmt := top 31
def N_f_deed_line : List Str := ["deed", "sorts", "sort", "part"]
theorem sc_f_deed_line : FnScope N_f_deed_line ["deed"] (defScope s_f_deed_line) := ⟨rfl, rfl, rfl, by decide +kernel, rfl, by decide +kernel, by decide +kernel⟩
abbrev s_f_history_text : Stmt := top 37
def N_f_history_text : List Str := ["history", "deed"]
theorem sc_f_history_text : FnScope N_f_history_text ["history"] (defScope s_f_history_text) := ⟨rfl, rfl, rfl, by decide +kernel, rfl, by decide +kernel, by decide +kernel⟩
abbrev s_f_is_history_form : Stmt := top 22
def N_f_is_history_form : List Str := ["thing", "deed"]
theorem sc_f_is_history_form : FnScope N_f_is_history_form ["thing"] (defScope s_f_is_history_form) := ⟨rfl, rfl, rfl, by decide +kernel, rfl, by decide +kernel, by decide +kernel⟩
abbrev s_f_show_history : Stmt := top 38
def N_f_show_history : List Str := ["history"]
theorem sc_f_show_history : FnScope N_f_show_history ["history"] (defScope s_f_show_history) := ⟨rfl, rfl, rfl, by decide +kernel, rfl, by decide +kernel, by decide +kernel⟩
abbrev s_f_show_deed : Stmt := top 32
def N_f_show_deed : List Str := ["deed"]
theorem sc_f_show_deed : FnScope N_f_show_deed ["deed"] (defScope s_f_show_deed) := ⟨rfl, rfl, rfl, by decide +kernel, rfl, by decide +kernel, by decide +kernel⟩
abbrev s_f_law_asked : Stmt := top 57
def N_f_law_asked : List Str := ["way", "thing"]
theorem sc_f_law_asked : FnScope N_f_law_asked ["way", "thing"] (defScope s_f_law_asked) := ⟨rfl, rfl, rfl, by decide +kernel, rfl, by decide +kernel, by decide +kernel⟩
abbrev s_f_law_said : Stmt := top 58
def N_f_law_said : List Str := ["way", "thing", "found", "fault", "good", "e"]
theorem sc_f_law_said : FnScope N_f_law_said ["way", "thing"] (defScope s_f_law_said) := ⟨rfl, rfl, rfl, by decide +kernel, rfl, by decide +kernel, by decide +kernel⟩
abbrev s_f_law_is_whole : Stmt := top 45
def N_f_law_is_whole : List Str := ["low", "thing"]
theorem sc_f_law_is_whole : FnScope N_f_law_is_whole ["low", "thing"] (defScope s_f_law_is_whole) := ⟨rfl, rfl, rfl, by decide +kernel, rfl, by decide +kernel, by decide +kernel⟩
abbrev s_f_law_is_name : Stmt := top 46
def N_f_law_is_name : List Str := ["thing", "signs", "sign"]
theorem sc_f_law_is_name : FnScope N_f_law_is_name ["thing"] (defScope s_f_law_is_name) := ⟨rfl, rfl, rfl, by decide +kernel, rfl, by decide +kernel, by decide +kernel⟩
abbrev s_f_law_entry_good : Stmt := top 50
def N_f_law_entry_good : List Str := ["sort", "thing", "one", "k"]
theorem sc_f_law_entry_good : FnScope N_f_law_entry_good ["sort", "thing"] (defScope s_f_law_entry_good) := ⟨rfl, rfl, rfl, by decide +kernel, rfl, by decide +kernel, by decide +kernel⟩
abbrev s_f_law_sorts : Stmt := top 48
def N_f_law_sorts : List Str := ["word"]
theorem sc_f_law_sorts : FnScope N_f_law_sorts ["word"] (defScope s_f_law_sorts) := ⟨rfl, rfl, rfl, by decide +kernel, rfl, by decide +kernel, by decide +kernel⟩
abbrev s_f_law_deed_words : Stmt := top 49
def N_f_law_deed_words : List Str := ["first"]
theorem sc_f_law_deed_words : FnScope N_f_law_deed_words [] (defScope s_f_law_deed_words) := ⟨rfl, rfl, rfl, by decide +kernel, rfl, by decide +kernel, by decide +kernel⟩
abbrev s_f_law_deed_good : Stmt := top 51
def N_f_law_deed_good : List Str := ["thing", "sorts", "k"]
theorem sc_f_law_deed_good : FnScope N_f_law_deed_good ["thing"] (defScope s_f_law_deed_good) := ⟨rfl, rfl, rfl, by decide +kernel, rfl, by decide +kernel, by decide +kernel⟩
abbrev s_f_law_number_of : Stmt := top 47
def N_f_law_number_of : List Str := ["word", "sign"]
theorem sc_f_law_number_of : FnScope N_f_law_number_of ["word"] (defScope s_f_law_number_of) := ⟨rfl, rfl, rfl, by decide +kernel, rfl, by decide +kernel, by decide +kernel⟩
abbrev s_f_law_line_deed : Stmt := top 56
def N_f_law_line_deed : List Str := ["line_here", "words", "found", "sorts", "k", "word", "thing", "part"]
theorem sc_f_law_line_deed : FnScope N_f_law_line_deed ["line_here"] (defScope s_f_law_line_deed) := ⟨rfl, rfl, rfl, by decide +kernel, rfl, by decide +kernel, by decide +kernel⟩
abbrev s_f_law_read_history : Stmt := top 59
def N_f_law_read_history : List Str := ["thing", "lines_here", "many", "found", "line_here", "bad", "k"]
theorem sc_f_law_read_history : FnScope N_f_law_read_history ["thing"] (defScope s_f_law_read_history) := ⟨rfl, rfl, rfl, by decide +kernel, rfl, by decide +kernel, by decide +kernel⟩
abbrev s_f_law_tap : Stmt := top 42
def N_f_law_tap : List Str := ["cask", "span", "digit", "must"]
theorem sc_f_law_tap : FnScope N_f_law_tap ["cask", "span"] (defScope s_f_law_tap) := ⟨rfl, rfl, rfl, by decide +kernel, rfl, by decide +kernel, by decide +kernel⟩
abbrev s_f_law_bent_text : Stmt := top 61
def N_f_law_bent_text : List Str := ["cask", "text_here", "k", "way", "sign"]
theorem sc_f_law_bent_text : FnScope N_f_law_bent_text ["cask", "text_here"] (defScope s_f_law_bent_text) := ⟨rfl, rfl, rfl, by decide +kernel, rfl, by decide +kernel, by decide +kernel⟩
abbrev s_f_law_entry_text : Stmt := top 52
def N_f_law_entry_text : List Str := ["sort", "thing", "one"]
theorem sc_f_law_entry_text : FnScope N_f_law_entry_text ["sort", "thing"] (defScope s_f_law_entry_text) := ⟨rfl, rfl, rfl, by decide +kernel, rfl, by decide +kernel, by decide +kernel⟩
abbrev s_f_law_deed_text : Stmt := top 53
def N_f_law_deed_text : List Str := ["deed_here", "sorts", "k"]
theorem sc_f_law_deed_text : FnScope N_f_law_deed_text ["deed_here"] (defScope s_f_law_deed_text) := ⟨rfl, rfl, rfl, by decide +kernel, rfl, by decide +kernel, by decide +kernel⟩
abbrev s_f_law_bent_deed : Stmt := top 60
def N_f_law_bent_deed : List Str := ["cask", "deed_here", "k", "odd", "way", "some"]
theorem sc_f_law_bent_deed : FnScope N_f_law_bent_deed ["cask", "deed_here"] (defScope s_f_law_bent_deed) := ⟨rfl, rfl, rfl, by decide +kernel, rfl, by decide +kernel, by decide +kernel⟩
abbrev s_f_law_history_right : Stmt := top 63
def N_f_law_history_right : List Str := ["cask", "many", "deeds_here", "text_here", "one", "past", "found", "k", "bent", "bad", "things", "due", "thing", "trial"]
theorem sc_f_law_history_right : FnScope N_f_law_history_right ["cask", "many", "deeds_here"] (defScope s_f_law_history_right) := ⟨rfl, rfl, rfl, by decide +kernel, rfl, by decide +kernel, by decide +kernel⟩
abbrev s_f_law_any_number : Stmt := top 54
def N_f_law_any_number : List Str := ["cask", "some"]
theorem sc_f_law_any_number : FnScope N_f_law_any_number ["cask"] (defScope s_f_law_any_number) := ⟨rfl, rfl, rfl, by decide +kernel, rfl, by decide +kernel, by decide +kernel⟩
abbrev s_f_law_any_deed : Stmt := top 55
def N_f_law_any_deed : List Str := ["cask", "names", "word", "found", "sort", "low", "ghosts_here", "k"]
theorem sc_f_law_any_deed : FnScope N_f_law_any_deed ["cask", "names"] (defScope s_f_law_any_deed) := ⟨rfl, rfl, rfl, by decide +kernel, rfl, by decide +kernel, by decide +kernel⟩
abbrev s_f_law_deed_right : Stmt := top 62
def N_f_law_deed_right : List Str := ["cask", "deed_here", "text_here", "found", "bent", "due", "thing", "told"]
theorem sc_f_law_deed_right : FnScope N_f_law_deed_right ["cask", "deed_here"] (defScope s_f_law_deed_right) := ⟨rfl, rfl, rfl, by decide +kernel, rfl, by decide +kernel, by decide +kernel⟩
abbrev s_f_law_names : Stmt := top 44
def N_f_law_names : List Str := ["cask", "many", "signs", "found", "k", "size", "sign", "name", "turn", "spare", "word"]
theorem sc_f_law_names : FnScope N_f_law_names ["cask", "many"] (defScope s_f_law_names) := ⟨rfl, rfl, rfl, by decide +kernel, rfl, by decide +kernel, by decide +kernel⟩
abbrev s_f_law_cask : Stmt := top 41
def N_f_law_cask : List Str := ["script", "at", "cell"]
theorem sc_f_law_cask : FnScope N_f_law_cask ["script", "at"] (defScope s_f_law_cask) := ⟨rfl, rfl, rfl, by decide +kernel, rfl, by decide +kernel, by decide +kernel⟩
abbrev s_f_law : Stmt := top 64
def N_f_law : List Str := ["script", "at", "cask", "names", "turn", "deeds_here", "k"]
theorem sc_f_law : FnScope N_f_law ["script"] (defScope s_f_law) := ⟨rfl, rfl, rfl, by decide +kernel, rfl, by decide +kernel, by decide +kernel⟩
def b_f_law_agree (f : DF) : DF := dFn 3 (sSeq (sIf (dOrT (dTest (dOp1 (isiD OWN .bl) (dVar 0))) (dTest (dOp1 (isiD OWN .bl) (dVar 1)))) (sSeq (sRet (dAnd (dOp1 (isiD OWN .bl) (dVar 0)) (dAnd (dOp1 (isiD OWN .bl) (dVar 1)) (dOp2 eqE (dVar 0) (dVar 1))))) sNext) sNext) (sSeq (sIf (dOrT (dTest (dOp2 neE (dOp1 (isiD OWN .lst) (dVar 0)) (dOp1 (isiD OWN .lst) (dVar 1)))) (dTest (dOp2 neE (dOp1 (isiD OWN .tup) (dVar 0)) (dOp1 (isiD OWN .tup) (dVar 1))))) (sSeq (sRet (dC (.bl false))) sNext) sNext) (sSeq (sIf (dOrT (dTest (dOp2 neE (dOp1 (isiD OWN .str) (dVar 0)) (dOp1 (isiD OWN .str) (dVar 1)))) (dTest (dOp2 neE (dOp1 (isiD OWN .int) (dVar 0)) (dOp1 (isiD OWN .int) (dVar 1))))) (sSeq (sRet (dC (.bl false))) sNext) sNext) (sSeq (sIf (dTest (dOp1 (isi2D OWN [.lst, .tup]) (dVar 1))) (sSeq (sIf (dTest (dOp2 neE (dOpN lenD (aCons (dVar 0) aNil)) (dOpN lenD (aCons (dVar 1) aNil)))) (sSeq (sRet (dC (.bl false))) sNext) sNext) (sSeq (sRet (dOp2 eqE (dLc (iRange1 (aCons (dOpN lenD (aCons (dVar 1) aNil)) aNil)) (tgName 2) (dNotT (dTest (dCall f (aCons (dOp2 ixD (dVar 0) (dVar 2)) (aCons (dOp2 ixD (dVar 1) (dVar 2)) aNil))))) (dVar 2) [2]) (dLst aNil))) sNext)) sNext) (sSeq (sRet (dAnd (dOp2 eqE (dOp2 isND (dVar 0) (dC .non)) (dOp2 isND (dVar 1) (dC .non))) (dOp2 eqE (dVar 0) (dVar 1)))) sNext)))))
def f_law_agree : Nat → DF
  | 0 => fun _ _ => .bad
  | n + 1 => b_f_law_agree (f_law_agree n)
def f_is_integer : DF := dFn 1 (sSeq (sRet (dAnd (dOp1 (isiD OWN .int) (dVar 0)) (dNot (dOp1 (isiD OWN .bl) (dVar 0))))) sNext)
def f_is_from : DF := dFn 2 (sSeq (sRet (dAnd (dCall f_is_integer (aCons (dVar 1) aNil)) (dOp2 geD (dVar 1) (dVar 0)))) sNext)
def f_is_ascending_tuple : DF := dFn 3 (sSeq (sIf (dOrT (dNotT (dTest (dOp1 (isiD OWN .tup) (dVar 0)))) (dNotT (dTest (dOpN allD (aCons (dLc (iAny (dVar 0)) (tgName 1) tYesD (dCall f_is_from (aCons (dC (.int 0)) (aCons (dVar 1) aNil))) [1]) aNil))))) (sSeq (sRet (dC (.bl false))) sNext) sNext) (sSeq (sRet (dOpN allD (aCons (dLc (iZipT (aCons (dVar 0) (aCons (dSl (dVar 0) (oSome (dC (.int 1))) oNone) aNil))) (tgTup 2 (tgCons (tgName 1) (tgCons (tgName 2) tgNil))) tYesD (dOp2 ltD (dVar 1) (dVar 2)) [1, 2]) aNil))) sNext))
def f_is_key : DF := dFn 2 (sSeq (sRet (dAnd (dOp1 (isiD OWN .str) (dVar 0)) (dAnd (dChain ltD leD (dC (.int 0)) (dOpN lenD (aCons (dVar 0) aNil)) (dC c_LONGEST)) (dOpN allD (aCons (dLc (iStrD (dVar 0)) (tgName 1) tYesD (dOp2 inD (dVar 1) (dC c_LETTERS)) [1]) aNil))))) sNext)
def f_is_entry : DF := dFn 2 (sSeq (sIf (dTest (dOp2 eqE (dVar 0) (dC c_KEY))) (sSeq (sRet (dCall f_is_key (aCons (dVar 1) aNil))) sNext) sNext) (sSeq (sIf (dTest (dOp2 eqE (dVar 0) (dC c_LEADER))) (sSeq (sRet (dOr (dOp2 isND (dVar 1) (dC .non)) (dCall f_is_from (aCons (dC (.int 0)) (aCons (dVar 1) aNil))))) sNext) sNext) (sSeq (sRet (dIfE (dTest (dOp2 eqE (dVar 0) (dC c_GHOST_LIST))) (dCall f_is_ascending_tuple (aCons (dVar 1) aNil)) (dCall f_is_from (aCons (dC (.int 0)) (aCons (dVar 1) aNil))))) sNext)))
def f_has_deed_word : DF := dFn 1 (sSeq (sIf (dOrT (dNotT (dTest (dOp1 (isiD OWN .tup) (dVar 0)))) (dOrT (dTest (dOp2 eqE (dOpN lenD (aCons (dVar 0) aNil)) (dC (.int 0)))) (dNotT (dTest (dOp1 (isiD OWN .str) (dOp2 ixD (dVar 0) (dC (.int 0)))))))) (sSeq (sRet (dC (.bl false))) sNext) sNext) (sSeq (sRet (dAnd (dOp1 (inW tab_ENTRIES) (dOp2 ixD (dVar 0) (dC (.int 0)))) (dOp2 eqE (dOpN lenD (aCons (dVar 0) aNil)) (dOp2 addE (dC (.int 1)) (dOpN lenD (aCons (dOp1 (ixW tab_ENTRIES) (dOp2 ixD (dVar 0) (dC (.int 0)))) aNil)))))) sNext))
def f_is_deed : DF := dFn 3 (sSeq (sIf (dNotT (dTest (dCall f_has_deed_word (aCons (dVar 0) aNil)))) (sSeq (sRet (dC (.bl false))) sNext) sNext) (sSeq (sRet (dOpN allD (aCons (dLc (iZipT (aCons (dOp1 (ixW tab_ENTRIES) (dOp2 ixD (dVar 0) (dC (.int 0)))) (aCons (dSl (dVar 0) (oSome (dC (.int 1))) oNone) aNil))) (tgTup 2 (tgCons (tgName 1) (tgCons (tgName 2) tgNil))) tYesD (dCall f_is_entry (aCons (dVar 1) (aCons (dVar 2) aNil))) [1, 2]) aNil))) sNext))
def f_number_of : DF := dFn 2 (sSeq (sIf (dOrT (dTest (dOp2 eqE (dVar 0) (dC (.str "")))) (dOrT (dTest (dOp2 gtD (dOpN lenD (aCons (dVar 0) aNil)) (dC c_MOST_DIGITS))) (dNotT (dTest (dOpN allD (aCons (dLc (iStrD (dVar 0)) (tgName 1) tYesD (dOp2 inD (dVar 1) (dC c_DIGITS)) [1]) aNil)))))) (sSeq (sRet (dC .non)) sNext) sNext) (sSeq (sRet (dIfE (dOrT (dTest (dOp2 eqE (dVar 0) (dC (.str "0")))) (dTest (dOp2 neE (dOp2 ixD (dVar 0) (dC (.int 0))) (dC (.str "0"))))) (dOpN intD (aCons (dVar 0) aNil)) (dC .non))) sNext))
def f_ghosts_in : DF := dFn 2 (sSeq (sRet (dIfE (dTest (dOp2 eqE (dVar 0) (dC c_NO_GHOSTS))) (dTup aNil) (dOpN tupleD (aCons (dLc (iAny (dStrM splitD (dVar 0) (aCons (dC (.str ",")) aNil))) (tgName 1) tYesD (dCall f_number_of (aCons (dVar 1) aNil)) [1]) aNil)))) sNext)
def f_entry_in : DF := dFn 3 (sSeq (sIf (dTest (dOp2 eqE (dVar 0) (dC c_KEY))) (sSeq (sRet (dIfE (dTest (dCall f_is_key (aCons (dVar 1) aNil))) (dVar 1) (dC (.int 0)))) sNext) sNext) (sSeq (sIf (dTest (dOp2 eqE (dVar 0) (dC c_LEADER))) (sSeq (sAsg (dCall f_number_of (aCons (dVar 1) aNil)) (tgName 2)) (sSeq (sRet (dIfE (dAndT (dTest (dOp2 isND (dVar 2) (dC .non))) (dTest (dOp2 neE (dVar 1) (dC c_NO_LEADER)))) (dC (.str "")) (dVar 2))) sNext)) sNext) (sSeq (sRet (dIfE (dTest (dOp2 eqE (dVar 0) (dC c_GHOST_LIST))) (dCall f_ghosts_in (aCons (dVar 1) aNil)) (dCall f_number_of (aCons (dVar 1) aNil)))) sNext)))
def f_deed_in : DF := dFn 6 (sSeq (sAsg (dStrM splitD (dVar 0) (aCons (dC (.str " ")) aNil)) (tgStar (tgName 1) (tgName 2))) (sSeq (sIf (dOrT (dTest (dOp1 (notInW tab_ENTRIES) (dVar 1))) (dTest (dOp2 neE (dOpN lenD (aCons (dVar 2) aNil)) (dOpN lenD (aCons (dOp1 (ixW tab_ENTRIES) (dVar 1)) aNil))))) (sSeq (sRet (dC .non)) sNext) sNext) (sSeq (sAsg (dTup (aCons (dVar 1) (aStar (dLc (iZipT (aCons (dOp1 (ixW tab_ENTRIES) (dVar 1)) (aCons (dVar 2) aNil))) (tgTup 2 (tgCons (tgName 4) (tgCons (tgName 5) tgNil))) tYesD (dCall f_entry_in (aCons (dVar 4) (aCons (dVar 5) aNil))) [4, 5]) aNil))) (tgName 3)) (sSeq (sRet (dIfE (dTest (dCall f_is_deed (aCons (dVar 3) aNil))) (dVar 3) (dC .non))) sNext))))
def f_check_text : DF := dFn 1 (sSeq (sIf (dNotT (dTest (dOp1 (isiD OWN .str) (dVar 0)))) (sSeq (sRaise1 4 ("at" : Str) (dC (.int 0))) sNext) sNext) sNext)
def f_read_history : DF := dFn 8 (sSeq (sDrop (dCall f_check_text (aCons (dVar 0) aNil))) (sSeq (sAsg (dStrM splitD (dVar 0) (aCons (dC (.str "\n")) aNil)) (tgStar (tgName 1) (tgName 2))) (sSeq (sAsg (dCall f_number_of (aCons (dVar 1) aNil)) (tgName 3)) (sSeq (sIf (dTest (dOp2 isND (dVar 3) (dC .non))) (sSeq (sRaise1 4 ("at" : Str) (dC (.int 0))) sNext) sNext) (sSeq (sAsg (dLcS (iAny (dVar 2)) (tgName 5) tYesD (dCall f_deed_in (aCons (dVar 5) aNil)) [5]) (tgName 4)) (sSeq (sForEnumS (aCons (dVar 4) aNil) (tgTup 2 (tgCons (tgName 6) (tgCons (tgName 7) tgNil))) (sSeq (sIf (dTest (dOp2 isND (dVar 7) (dC .non))) (sSeq (sRaise1 4 ("at" : Str) (dOp2 addE (dVar 6) (dC (.int 1)))) sNext) sNext) sNext)) (sSeq (sRet (dTup (aCons (dVar 3) (aCons (dVar 4) aNil)))) sNext)))))))
def f_read_deed : DF := dFn 2 (sSeq (sDrop (dCall f_check_text (aCons (dVar 0) aNil))) (sSeq (sAsg (dCall f_deed_in (aCons (dVar 0) aNil)) (tgName 1)) (sSeq (sIf (dTest (dOp2 isND (dVar 1) (dC .non))) (sSeq (sRaise1 4 ("at" : Str) (dC (.int 0))) sNext) sNext) (sSeq (sRet (dVar 1)) sNext))))
def f_entry_text : DF := dFn 3 (sSeq (sIf (dAndT (dTest (dOp2 eqE (dVar 0) (dC c_LEADER))) (dTest (dOp2 isND (dVar 1) (dC .non)))) (sSeq (sRet (dC c_NO_LEADER)) sNext) sNext) (sSeq (sIf (dTest (dOp2 eqE (dVar 0) (dC c_GHOST_LIST))) (sSeq (sRet (dIfE (dTest (dOp2 neE (dVar 1) (dTup aNil))) (dStrM joinD (dC (.str ",")) (aCons (dLc (iAny (dVar 1)) (tgName 2) tYesD (dOpN strE (aCons (dVar 2) aNil)) [2]) aNil)) (dC c_NO_GHOSTS))) sNext) sNext) (sSeq (sRet (dOpN strE (aCons (dVar 1) aNil))) sNext)))
def f_deed_line : DF := dFn 4 (sSeq (sAsg (dOp1 (ixW tab_ENTRIES) (dOp2 ixD (dVar 0) (dC (.int 0)))) (tgName 1)) (sSeq (sRet (dStrM joinD (dC (.str " ")) (aCons (dLst (aCons (dOp2 ixD (dVar 0) (dC (.int 0))) (aStar (dLc (iZipT (aCons (dVar 1) (aCons (dSl (dVar 0) (oSome (dC (.int 1))) oNone) aNil))) (tgTup 2 (tgCons (tgName 2) (tgCons (tgName 3) tgNil))) tYesD (dCall f_entry_text (aCons (dVar 2) (aCons (dVar 3) aNil))) [2, 3]) aNil))) aNil))) sNext))
def f_history_text : DF := dFn 2 (sSeq (sRet (dStrM joinD (dC (.str "\n")) (aCons (dLst (aCons (dOpN strE (aCons (dOp2 ixD (dVar 0) (dC (.int 0))) aNil)) (aStar (dLc (iAny (dOp2 ixD (dVar 0) (dC (.int 1)))) (tgName 1) tYesD (dCall f_deed_line (aCons (dVar 1) aNil)) [1]) aNil))) aNil))) sNext)
def f_is_history_form : DF := dFn 2 (sSeq (sIf (dOrT (dNotT (dTest (dOp1 (isiD OWN .tup) (dVar 0)))) (dOrT (dTest (dOp2 neE (dOpN lenD (aCons (dVar 0) aNil)) (dC (.int 2)))) (dNotT (dTest (dCall f_is_from (aCons (dC (.int 0)) (aCons (dOp2 ixD (dVar 0) (dC (.int 0))) aNil))))))) (sSeq (sRet (dC (.bl false))) sNext) sNext) (sSeq (sRet (dAnd (dOp1 (isiD OWN .lst) (dOp2 ixD (dVar 0) (dC (.int 1)))) (dOpN allD (aCons (dLc (iAny (dOp2 ixD (dVar 0) (dC (.int 1)))) (tgName 1) tYesD (dCall f_is_deed (aCons (dVar 1) aNil)) [1]) aNil)))) sNext))
def f_show_history : DF := dFn 1 (sSeq (sIf (dNotT (dTest (dCall f_is_history_form (aCons (dVar 0) aNil)))) (sSeq (sRaise 3) sNext) sNext) (sSeq (sRet (dCall f_history_text (aCons (dVar 0) aNil))) sNext))
def f_show_deed : DF := dFn 1 (sSeq (sIf (dNotT (dTest (dCall f_is_deed (aCons (dVar 0) aNil)))) (sSeq (sRaise 2) sNext) sNext) (sSeq (sRet (dCall f_deed_line (aCons (dVar 0) aNil))) sNext))
def f_law_asked : DF := dFn 2 (sSeq (sIf (dTest (dOp2 eqE (dVar 0) (dC (.int 0)))) (sSeq (sRet (dCall f_show_deed (aCons (dVar 1) aNil))) sNext) sNext) (sSeq (sIf (dTest (dOp2 eqE (dVar 0) (dC (.int 1)))) (sSeq (sRet (dCall f_show_deed (aCons (dVar 1) aNil))) sNext) sNext) (sSeq (sIf (dTest (dOp2 eqE (dVar 0) (dC (.int 2)))) (sSeq (sRet (dCall f_show_history (aCons (dVar 1) aNil))) sNext) sNext) (sSeq (sIf (dTest (dOp2 eqE (dVar 0) (dC (.int 3)))) (sSeq (sRet (dCall f_show_history (aCons (dVar 1) aNil))) sNext) sNext) (sSeq (sIf (dTest (dOp2 eqE (dVar 0) (dC (.int 4)))) (sSeq (sRet (dCall f_read_deed (aCons (dVar 1) aNil))) sNext) sNext) (sSeq (sIf (dTest (dOp2 eqE (dVar 0) (dC (.int 5)))) (sSeq (sRet (dCall f_read_deed (aCons (dVar 1) aNil))) sNext) sNext) (sSeq (sRet (dIfE (dTest (dOp2 eqE (dVar 0) (dC (.int 6)))) (dCall f_read_history (aCons (dVar 1) aNil)) (dCall f_read_history (aCons (dVar 1) aNil)))) sNext)))))))
def f_law_said : DF := dFn 6 (sSeq (sAsg (dTup (aCons (dC .non) (aCons (dC .non) (aCons (dC (.bl true)) aNil)))) (tgTup 3 (tgCons (tgName 2) (tgCons (tgName 3) (tgCons (tgName 4) tgNil))))) (sSeq (sTryN 5 2 3 4 [(2, .con "deed"), (3, .con "history"), (4, .at "at" "at")] (dCall f_law_asked (aCons (dVar 0) (aCons (dVar 1) aNil)))) (sSeq (sRet (dIfE (dNotT (dTest (dVar 4))) (dC (.str "odd")) (dIfE (dTest (dOp2 isND (dVar 3) (dC .non))) (dTup (aCons (dC (.str "fine")) (aCons (dVar 2) aNil))) (dVar 3)))) sNext)))
def f_law_is_whole : DF := dFn 2 (sSeq (sRet (dAnd (dOp1 (isiD OWN .int) (dVar 1)) (dAnd (dNot (dOp1 (isiD OWN .bl) (dVar 1))) (dOp2 geD (dVar 1) (dVar 0))))) sNext)
def f_law_is_name : DF := dFn 3 (sSeq (sAsg (dC (.str "abcdefghijklmnopqrstuvwxyz")) (tgName 1)) (sSeq (sRet (dAnd (dOp1 (isiD OWN .str) (dVar 0)) (dAnd (dChain ltD ltD (dC (.int 0)) (dOpN lenD (aCons (dVar 0) aNil)) (dC (.int 9))) (dOp2 eqE (dLc (iStrD (dVar 0)) (tgName 2) (dTest (dOp2 notInD (dVar 2) (dVar 1))) (dVar 2) [2]) (dLst aNil))))) sNext))
def f_law_entry_good : DF := dFn 4 (sSeq (sIf (dTest (dOp2 eqE (dVar 0) (dC (.str "name")))) (sSeq (sRet (dCall f_law_is_name (aCons (dVar 1) aNil))) sNext) sNext) (sSeq (sIf (dTest (dOp2 eqE (dVar 0) (dC (.str "leader")))) (sSeq (sRet (dOr (dOp2 isND (dVar 1) (dC .non)) (dCall f_law_is_whole (aCons (dC (.int 0)) (aCons (dVar 1) aNil))))) sNext) sNext) (sSeq (sIf (dTest (dOp2 eqE (dVar 0) (dC (.str "number")))) (sSeq (sRet (dCall f_law_is_whole (aCons (dC (.int 0)) (aCons (dVar 1) aNil)))) sNext) sNext) (sSeq (sIf (dOrT (dNotT (dTest (dOp1 (isiD OWN .tup) (dVar 1)))) (dTest (dOp2 neE (dLc (iAny (dVar 1)) (tgName 2) (dNotT (dTest (dCall f_law_is_whole (aCons (dC (.int 0)) (aCons (dVar 2) aNil))))) (dVar 2) [2]) (dLst aNil)))) (sSeq (sRet (dC (.bl false))) sNext) sNext) (sSeq (sRet (dOp2 eqE (dLc (iRange2 (aCons (dC (.int 1)) (aCons (dOpN lenD (aCons (dVar 1) aNil)) aNil))) (tgName 3) (dTest (dOp2 geD (dOp2 ixD (dVar 1) (dOp2 subD (dVar 3) (dC (.int 1)))) (dOp2 ixD (dVar 1) (dVar 3)))) (dVar 3) [3]) (dLst aNil))) sNext)))))
def f_law_sorts : DF := dFn 1 (sSeq (sIf (dTest (dOp2 inD (dVar 0) (dTup (aCons (dC (.str "halt")) (aCons (dC (.str "resume")) (aCons (dC (.str "safe")) (aCons (dC (.str "finish")) aNil))))))) (sSeq (sRet (dTup (aCons (dC (.str "number")) aNil))) sNext) sNext) (sSeq (sIf (dTest (dOp2 inD (dVar 0) (dTup (aCons (dC (.str "take")) (aCons (dC (.str "forget")) (aCons (dC (.str "hand")) aNil)))))) (sSeq (sRet (dTup (aCons (dC (.str "number")) (aCons (dC (.str "number")) aNil)))) sNext) sNext) (sSeq (sIf (dTest (dOp2 eqE (dVar 0) (dC (.str "put")))) (sSeq (sRet (dTup (aCons (dC (.str "name")) aNil))) sNext) sNext) (sSeq (sIf (dTest (dOp2 eqE (dVar 0) (dC (.str "write")))) (sSeq (sRet (dTup (aCons (dC (.str "number")) (aCons (dC (.str "name")) aNil)))) sNext) sNext) (sSeq (sIf (dTest (dOp2 eqE (dVar 0) (dC (.str "takeover")))) (sSeq (sRet (dTup (aCons (dC (.str "number")) (aCons (dC (.str "ghosts")) aNil)))) sNext) sNext) (sSeq (sRet (dIfE (dTest (dOp2 eqE (dVar 0) (dC (.str "read")))) (dTup (aCons (dC (.str "number")) (aCons (dC (.str "name")) (aCons (dC (.str "number")) (aCons (dC (.str "leader")) aNil))))) (dTup aNil))) sNext))))))
def f_law_deed_words : DF := dFn 1 (sSeq (sAsg (dLst (aCons (dC (.str "put")) (aCons (dC (.str "halt")) (aCons (dC (.str "resume")) (aCons (dC (.str "take")) (aCons (dC (.str "safe")) (aCons (dC (.str "takeover")) aNil))))))) (tgName 0)) (sSeq (sRet (dOp2 addE (dVar 0) (dLst (aCons (dC (.str "forget")) (aCons (dC (.str "begin")) (aCons (dC (.str "read")) (aCons (dC (.str "write")) (aCons (dC (.str "finish")) (aCons (dC (.str "hand")) aNil))))))))) sNext))
def f_law_deed_good : DF := dFn 3 (sSeq (sIf (dOrT (dNotT (dTest (dOp1 (isiD OWN .tup) (dVar 0)))) (dOrT (dTest (dOp2 eqE (dVar 0) (dTup aNil))) (dNotT (dTest (dOp1 (isiD OWN .str) (dOp2 ixD (dVar 0) (dC (.int 0)))))))) (sSeq (sRet (dC (.bl false))) sNext) sNext) (sSeq (sIf (dTest (dOp2 notInD (dOp2 ixD (dVar 0) (dC (.int 0))) (dCall f_law_deed_words aNil))) (sSeq (sRet (dC (.bl false))) sNext) sNext) (sSeq (sAsg (dCall f_law_sorts (aCons (dOp2 ixD (dVar 0) (dC (.int 0))) aNil)) (tgName 1)) (sSeq (sIf (dTest (dOp2 neE (dOpN lenD (aCons (dVar 0) aNil)) (dOp2 addE (dC (.int 1)) (dOpN lenD (aCons (dVar 1) aNil))))) (sSeq (sRet (dC (.bl false))) sNext) sNext) (sSeq (sRet (dOp2 eqE (dLc (iRange1 (aCons (dOpN lenD (aCons (dVar 1) aNil)) aNil)) (tgName 2) (dNotT (dTest (dCall f_law_entry_good (aCons (dOp2 ixD (dVar 1) (dVar 2)) (aCons (dOp2 ixD (dVar 0) (dOp2 addE (dVar 2) (dC (.int 1)))) aNil))))) (dVar 2) [2]) (dLst aNil))) sNext)))))
def f_law_number_of : DF := dFn 2 (sSeq (sIf (dOrT (dTest (dOp2 eqE (dVar 0) (dC (.str "")))) (dOrT (dTest (dOp2 gtD (dOpN lenD (aCons (dVar 0) aNil)) (dC (.int 30)))) (dTest (dOp2 neE (dLc (iStrD (dVar 0)) (tgName 1) (dTest (dOp2 notInD (dVar 1) (dC (.str "0123456789")))) (dVar 1) [1]) (dLst aNil))))) (sSeq (sRet (dC .non)) sNext) sNext) (sSeq (sRet (dIfE (dOrT (dTest (dOp2 eqE (dVar 0) (dC (.str "0")))) (dTest (dOp2 neE (dOp2 ixD (dVar 0) (dC (.int 0))) (dC (.str "0"))))) (dOpN intD (aCons (dVar 0) aNil)) (dC .non))) sNext))
def f_law_line_deed : DF := dFn 8 (sSeq (sAsg (dStrM splitD (dVar 0) (aCons (dC (.str " ")) aNil)) (tgName 1)) (sSeq (sIf (dOrT (dTest (dOp2 notInD (dOp2 ixD (dVar 1) (dC (.int 0))) (dCall f_law_deed_words aNil))) (dTest (dOp2 neE (dOpN lenD (aCons (dVar 1) aNil)) (dOp2 addE (dC (.int 1)) (dOpN lenD (aCons (dCall f_law_sorts (aCons (dOp2 ixD (dVar 1) (dC (.int 0))) aNil)) aNil)))))) (sSeq (sRet (dC .non)) sNext) sNext) (sSeq (sPar 2 3 (aCons (dLstS (aCons (dOp2 ixD (dVar 1) (dC (.int 0))) aNil)) (aCons (dCall f_law_sorts (aCons (dOp2 ixD (dVar 1) (dC (.int 0))) aNil)) aNil))) (sSeq (sFor (iRange1 (aCons (dOpN lenD (aCons (dVar 3) aNil)) aNil)) (tgName 4) (sSeq (sAsg (dOp2 ixD (dVar 1) (dOp2 addE (dVar 4) (dC (.int 1)))) (tgName 5)) (sSeq (sAsg (dCall f_law_number_of (aCons (dVar 5) aNil)) (tgName 6)) (sSeq (sIf (dTest (dOp2 eqE (dOp2 ixD (dVar 3) (dVar 4)) (dC (.str "name")))) (sSeq (sAsg (dVar 5) (tgName 6)) sNext) (sSeq (sIf (dTest (dOp2 eqE (dOp2 ixD (dVar 3) (dVar 4)) (dC (.str "ghosts")))) (sSeq (sAsg (dIfE (dTest (dOp2 eqE (dVar 5) (dC (.str "-")))) (dTup aNil) (dOpN tupleD (aCons (dLc (iAny (dStrM splitD (dVar 5) (aCons (dC (.str ",")) aNil))) (tgName 7) tYesD (dCall f_law_number_of (aCons (dVar 7) aNil)) [7]) aNil))) (tgName 6)) sNext) (sSeq (sIf (dAndT (dTest (dOp2 eqE (dOp2 ixD (dVar 3) (dVar 4)) (dC (.str "leader")))) (dAndT (dTest (dOp2 isND (dVar 6) (dC .non))) (dTest (dOp2 neE (dVar 5) (dC (.str "none")))))) (sSeq (sRet (dC .non)) sNext) sNext) sNext)) sNext)) (sSeq (sDrop (dAppend (dVar 2) (dVar 6))) sNext))))) (sSeq (sRet (dIfE (dTest (dCall f_law_deed_good (aCons (dOpN tupleD (aCons (dVar 2) aNil)) aNil))) (dOpN tupleD (aCons (dVar 2) aNil)) (dC .non))) sNext)))))
def f_law_read_history : DF := dFn 7 (sSeq (sIf (dNotT (dTest (dOp1 (isiD OWN .str) (dVar 0)))) (sSeq (sRet (dTup (aCons (dC (.str "at")) (aCons (dC (.int 0)) aNil)))) sNext) sNext) (sSeq (sAsg (dStrM splitD (dVar 0) (aCons (dC (.str "\n")) aNil)) (tgName 1)) (sSeq (sAsg (dCall f_law_number_of (aCons (dOp2 ixD (dVar 1) (dC (.int 0))) aNil)) (tgName 2)) (sSeq (sIf (dTest (dOp2 isND (dVar 2) (dC .non))) (sSeq (sRet (dTup (aCons (dC (.str "at")) (aCons (dC (.int 0)) aNil)))) sNext) sNext) (sSeq (sAsg (dLc (iAny (dSl (dVar 1) (oSome (dC (.int 1))) oNone)) (tgName 4) tYesD (dCall f_law_line_deed (aCons (dVar 4) aNil)) [4]) (tgName 3)) (sSeq (sAsg (dLc (iRange1 (aCons (dOpN lenD (aCons (dVar 3) aNil)) aNil)) (tgName 6) (dTest (dOp2 isND (dOp2 ixD (dVar 3) (dVar 6)) (dC .non))) (dOp2 addE (dVar 6) (dC (.int 1))) [6]) (tgName 5)) (sSeq (sRet (dIfE (dTest (dOp2 neE (dVar 5) (dLst aNil))) (dTup (aCons (dC (.str "at")) (aCons (dOp2 ixD (dVar 5) (dC (.int 0))) aNil))) (dTup (aCons (dC (.str "fine")) (aCons (dTup (aCons (dVar 2) (aCons (dVar 3) aNil))) aNil))))) sNext)))))))
def f_law_tap : DF := dFn 4 (sSeq (sIf (dTest (dOp2 gtD (dOp2 ixD (dVar 0) (dC (.int 0))) (dC (.int 0)))) (sSeq (sAsg (dOp2 modD (dOpN intD (aCons (dOp2 ixD (dVar 0) (dC (.int 0))) aNil)) (dVar 1)) (tgName 2)) (sSeq (sSetIx (dOp2 fdivD (dOp2 ixD (dVar 0) (dC (.int 0))) (dVar 1)) (dVar 0) (dC (.int 0))) (sSeq (sRet (dVar 2)) sNext))) sNext) (sSeq (sSetIx (dOp2 addE (dOp2 ixD (dVar 0) (dC (.int 2))) (dC (.int 1))) (dVar 0) (dC (.int 2))) (sSeq (sAsg (dOp2 modD (dOp2 powD (dOpN intD (aCons (dOp2 addE (dOp2 ixD (dVar 0) (dC (.int 1))) (dOp2 mulD (dC (.int 30011)) (dOp2 ixD (dVar 0) (dC (.int 2))))) aNil)) (dC (.int 2))) (dOp2 addE (dOp2 powD (dC (.int 10)) (dC (.int 39))) (dC (.int 3)))) (tgName 3)) (sSeq (sAsg (dOp2 modD (dOp2 powD (dOpN intD (aCons (dOp2 addE (dVar 3) (dOp2 mulD (dC (.int 500009)) (dOp2 ixD (dVar 0) (dC (.int 2))))) aNil)) (dC (.int 3))) (dOp2 addE (dOp2 powD (dC (.int 10)) (dC (.int 40))) (dC (.int 121)))) (tgName 3)) (sSeq (sRet (dOp2 modD (dOp2 fdivD (dVar 3) (dC (.int 131072))) (dVar 1))) sNext)))))
def f_law_bent_text : DF := dFn 5 (sSeq (sPar 2 3 (aCons (dCall f_law_tap (aCons (dVar 0) (aCons (dOp2 addE (dOpN lenD (aCons (dVar 1) aNil)) (dC (.int 1))) aNil))) (aCons (dCall f_law_tap (aCons (dVar 0) (aCons (dC (.int 4)) aNil))) aNil))) (sSeq (sAsg (dOp2 ixD (dLst (aCons (dC (.str " ")) (aCons (dC (.str "0")) (aCons (dC (.str "1")) (aCons (dC (.str ",")) (aCons (dC (.str "-")) (aCons (dC (.str "a")) (aCons (dC (.str "\n")) (aCons (dC (.str "x")) (aCons (dC (.str "none")) (aCons (dC (.str "\t")) (aCons (dC (.str "_")) (aCons (dC (.str "+")) aNil))))))))))))) (dCall f_law_tap (aCons (dVar 0) (aCons (dC (.int 12)) aNil)))) (tgName 4)) (sSeq (sIf (dTest (dOp2 eqE (dVar 3) (dC (.int 0)))) (sSeq (sRet (dOp2 addE (dOp2 addE (dSl (dVar 1) oNone (oSome (dVar 2))) (dVar 4)) (dSl (dVar 1) (oSome (dVar 2)) oNone))) sNext) sNext) (sSeq (sIf (dTest (dOp2 eqE (dVar 3) (dC (.int 1)))) (sSeq (sRet (dOp2 addE (dSl (dVar 1) oNone (oSome (dVar 2))) (dSl (dVar 1) (oSome (dOp2 addE (dVar 2) (dC (.int 1)))) oNone))) sNext) sNext) (sSeq (sIf (dTest (dOp2 eqE (dVar 3) (dC (.int 2)))) (sSeq (sRet (dOp2 addE (dOp2 addE (dSl (dVar 1) oNone (oSome (dVar 2))) (dVar 4)) (dSl (dVar 1) (oSome (dOp2 addE (dVar 2) (dC (.int 1)))) oNone))) sNext) sNext) (sSeq (sRet (dOp2 ixD (dLst (aCons (dOp2 addE (dVar 1) (dC (.str "\n"))) (aCons (dC (.str "")) (aCons (upperD (dVar 1)) (aCons (dOp2 addE (dC (.str " ")) (dVar 1)) (aCons (dC .non) (aCons (dLst (aCons (dVar 1) aNil)) aNil))))))) (dCall f_law_tap (aCons (dVar 0) (aCons (dC (.int 6)) aNil))))) sNext))))))
def f_law_entry_text : DF := dFn 3 (sSeq (sIf (dAndT (dTest (dOp2 eqE (dVar 0) (dC (.str "leader")))) (dTest (dOp2 isND (dVar 1) (dC .non)))) (sSeq (sRet (dC (.str "none"))) sNext) sNext) (sSeq (sIf (dTest (dOp2 eqE (dVar 0) (dC (.str "ghosts")))) (sSeq (sRet (dIfE (dTest (dOp2 neE (dVar 1) (dTup aNil))) (dStrM joinD (dC (.str ",")) (aCons (dLc (iAny (dVar 1)) (tgName 2) tYesD (dOpN strE (aCons (dVar 2) aNil)) [2]) aNil)) (dC (.str "-")))) sNext) sNext) (sSeq (sRet (dOpN strE (aCons (dVar 1) aNil))) sNext)))
def f_law_deed_text : DF := dFn 3 (sSeq (sAsg (dCall f_law_sorts (aCons (dOp2 ixD (dVar 0) (dC (.int 0))) aNil)) (tgName 1)) (sSeq (sRet (dStrM joinD (dC (.str " ")) (aCons (dOp2 addE (dLst (aCons (dOp2 ixD (dVar 0) (dC (.int 0))) aNil)) (dLc (iRange1 (aCons (dOpN lenD (aCons (dVar 1) aNil)) aNil)) (tgName 2) tYesD (dCall f_law_entry_text (aCons (dOp2 ixD (dVar 1) (dVar 2)) (aCons (dOp2 ixD (dVar 0) (dOp2 addE (dVar 2) (dC (.int 1)))) aNil))) [2])) aNil))) sNext))
def f_law_bent_deed : DF := dFn 6 (sSeq (sAsg (dCall f_law_tap (aCons (dVar 0) (aCons (dOp2 addE (dOpN lenD (aCons (dVar 1) aNil)) (dC (.int 1))) aNil))) (tgName 2)) (sSeq (sAsg (dLst (aCons (dC .non) (aCons (dOp1 negD (dC (.int 1))) (aCons (dC (.bl true)) (aCons (dC (.str "1")) (aCons (dC (.str "")) (aCons (dC (.str "A")) (aCons (dTup (aCons (dC (.int 0)) (aCons (dC (.int 0)) aNil))) (aCons (dTup (aCons (dC (.int 1)) (aCons (dC (.int 0)) aNil))) (aCons (dTup (aCons (dC (.bl true)) aNil)) (aCons (dLst (aCons (dC (.int 0)) aNil)) (aCons (dC (.str "none")) (aCons (dTup aNil) (aCons (dC (.int 1)) aNil)))))))))))))) (tgName 3)) (sSeq (sAsg (dOp2 addE (dVar 3) (dLst (aCons (dTup (aCons (dC (.int 0)) (aCons (dC (.str "1")) aNil))) (aCons (dTup (aCons (dC (.int 0)) (aCons (dC .non) aNil))) (aCons (dTup (aCons (dLst (aCons (dC (.int 0)) aNil)) (aCons (dC (.int 1)) aNil))) aNil))))) (tgName 3)) (sSeq (sAsg (dCall f_law_tap (aCons (dVar 0) (aCons (dC (.int 4)) aNil))) (tgName 4)) (sSeq (sIf (dTest (dOp2 eqE (dVar 4) (dC (.int 0)))) (sSeq (sRet (dOp2 addE (dOp2 addE (dSl (dVar 1) oNone (oSome (dVar 2))) (dTup (aCons (dOp2 ixD (dVar 3) (dCall f_law_tap (aCons (dVar 0) (aCons (dC (.int 16)) aNil)))) aNil))) (dSl (dVar 1) (oSome (dOp2 addE (dVar 2) (dC (.int 1)))) oNone))) sNext) sNext) (sSeq (sIf (dTest (dOp2 eqE (dVar 4) (dC (.int 1)))) (sSeq (sRet (dOp2 addE (dSl (dVar 1) oNone (oSome (dVar 2))) (dSl (dVar 1) (oSome (dOp2 addE (dVar 2) (dC (.int 1)))) oNone))) sNext) sNext) (sSeq (sIf (dTest (dOp2 eqE (dVar 4) (dC (.int 2)))) (sSeq (sRet (dOp2 addE (dVar 1) (dTup (aCons (dOp2 ixD (dVar 3) (dCall f_law_tap (aCons (dVar 0) (aCons (dC (.int 16)) aNil)))) aNil)))) sNext) sNext) (sSeq (sAsg (dLst (aCons (dOpN listD (aCons (dVar 1) aNil)) (aCons (dC .non) (aCons (dC (.str "begin")) (aCons (dC (.int 3)) (aCons (dTup (aCons (dTup aNil) aNil)) (aCons (dTup (aCons (dC (.str "Put")) (aCons (dC (.str "a")) aNil))) aNil))))))) (tgName 5)) (sSeq (sAsg (dOp2 addE (dVar 5) (dLst (aCons (dOp2 addE (dTup (aCons (dLst aNil) aNil)) (dSl (dVar 1) (oSome (dC (.int 1))) oNone)) (aCons (dOp2 addE (dTup (aCons (dTup aNil) aNil)) (dSl (dVar 1) (oSome (dC (.int 1))) oNone)) (aCons (dOp2 addE (dTup (aCons (dC .non) aNil)) (dSl (dVar 1) (oSome (dC (.int 1))) oNone)) (aCons (dOp2 addE (dTup (aCons (dC (.int 3)) aNil)) (dSl (dVar 1) (oSome (dC (.int 1))) oNone)) aNil)))))) (tgName 5)) (sSeq (sRet (dOp2 ixD (dOp2 addE (dVar 5) (dLst (aCons (dTup (aCons (dLst (aCons (dC (.str "put")) aNil)) (aCons (dC (.str "a")) aNil))) (aCons (dC (.bl true)) aNil)))) (dCall f_law_tap (aCons (dVar 0) (aCons (dC (.int 12)) aNil))))) sNext))))))))))
def f_law_history_right : DF := dFn 14 (sSeq (sAsg (dStrM joinD (dC (.str "\n")) (aCons (dOp2 addE (dLst (aCons (dOpN strE (aCons (dVar 1) aNil)) aNil)) (dLc (iAny (dVar 2)) (tgName 4) tYesD (dCall f_law_deed_text (aCons (dVar 4) aNil)) [4])) aNil)) (tgName 3)) (sSeq (sAsg (dTup (aCons (dVar 1) (aCons (dVar 2) aNil))) (tgName 5)) (sSeq (sAsg (dLst (aCons (dCall f_law_said (aCons (dC (.int 2)) (aCons (dVar 5) aNil))) (aCons (dCall f_law_said (aCons (dC (.int 3)) (aCons (dVar 5) aNil))) (aCons (dCall f_law_said (aCons (dC (.int 6)) (aCons (dVar 3) aNil))) (aCons (dCall f_law_said (aCons (dC (.int 7)) (aCons (dVar 3) aNil))) aNil))))) (tgName 6)) (sSeq (sIf (dNotT (dTest (dCall (f_law_agree 8) (aCons (dVar 6) (aCons (dOp2 addE (dOp2 mulD (dLst (aCons (dTup (aCons (dC (.str "fine")) (aCons (dVar 3) aNil))) aNil)) (dC (.int 2))) (dOp2 mulD (dLst (aCons (dTup (aCons (dC (.str "fine")) (aCons (dVar 5) aNil))) aNil)) (dC (.int 2)))) aNil))))) (sSeq (sRet (dC (.bl false))) sNext) sNext) (sSeq (sDrop (dAppend (dOp2 ixD (dOp2 ixD (dOp2 ixD (dVar 6) (dC (.int 2))) (dC (.int 1))) (dC (.int 1))) (dC .non))) (sSeq (sAsg (dCall f_law_tap (aCons (dVar 0) (aCons (dOp2 addE (dOpN lenD (aCons (dVar 2) aNil)) (dC (.int 1))) aNil))) (tgName 7)) (sSeq (sAsg (dOp2 addE (dOp2 addE (dSl (dVar 2) oNone (oSome (dVar 7))) (dLst (aCons (dCall f_law_bent_deed (aCons (dVar 0) (aCons (dIfE (dTest (dOp2 gtD (dVar 7) (dC (.int 0)))) (dOp2 ixD (dVar 2) (dOp2 subD (dVar 7) (dC (.int 1)))) (dTup (aCons (dC (.str "begin")) aNil))) aNil))) aNil))) (dSl (dVar 2) (oSome (dVar 7)) oNone)) (tgName 8)) (sSeq (sAsg (dOp2 neE (dLc (iAny (dVar 8)) (tgName 4) (dNotT (dTest (dCall f_law_deed_good (aCons (dVar 4) aNil)))) (dVar 4) [4]) (dLst aNil)) (tgName 9)) (sSeq (sAsg (dLst (aCons (dTup (aCons (dVar 1) (aCons (dVar 8) aNil))) (aCons (dTup (aCons (dVar 1) (aCons (dOpN tupleD (aCons (dVar 2) aNil)) aNil))) (aCons (dLst (aCons (dVar 1) (aCons (dVar 2) aNil))) (aCons (dTup (aCons (dC (.bl true)) (aCons (dVar 2) aNil))) aNil))))) (tgName 10)) (sSeq (sAsg (dOp2 addE (dVar 10) (dLst (aCons (dTup (aCons (dVar 1) aNil)) (aCons (dC .non) (aCons (dTup (aCons (dOp1 negD (dC (.int 1))) (aCons (dLst aNil) aNil))) (aCons (dTup (aCons (dVar 1) (aCons (dC .non) aNil))) (aCons (dTup (aCons (dC (.str "1")) (aCons (dLst aNil) aNil))) (aCons (dTup (aCons (dC .non) (aCons (dLst aNil) aNil))) aNil)))))))) (tgName 10)) (sSeq (sAsg (dLst (aCons (dC (.str "history")) aNil)) (tgName 11)) (sSeq (sIf (dNotT (dTest (dVar 9))) (sSeq (sAsg (dLst (aCons (dTup (aCons (dC (.str "fine")) (aCons (dStrM joinD (dC (.str "\n")) (aCons (dOp2 addE (dLst (aCons (dOpN strE (aCons (dVar 1) aNil)) aNil)) (dLc (iAny (dVar 8)) (tgName 4) tYesD (dCall f_law_deed_text (aCons (dVar 4) aNil)) [4])) aNil)) aNil))) aNil)) (tgName 11)) sNext) sNext) (sSeq (sIf (dNotT (dTest (dCall (f_law_agree 8) (aCons (dLc (iAny (dVar 10)) (tgName 12) tYesD (dCall f_law_said (aCons (dC (.int 2)) (aCons (dVar 12) aNil))) [12]) (aCons (dOp2 addE (dVar 11) (dOp2 mulD (dLst (aCons (dC (.str "history")) aNil)) (dC (.int 9)))) aNil))))) (sSeq (sRet (dC (.bl false))) sNext) sNext) (sSeq (sFor (iRange1 (aCons (dC (.int 4)) aNil)) (tgName 13) (sSeq (sAsg (dCall f_law_bent_text (aCons (dVar 0) (aCons (dVar 3) aNil))) (tgName 12)) (sSeq (sAsg (dCall f_law_read_history (aCons (dVar 12) aNil)) (tgName 11)) (sSeq (sIf (dNotT (dTest (dCall (f_law_agree 8) (aCons (dLst (aCons (dCall f_law_said (aCons (dC (.int 6)) (aCons (dVar 12) aNil))) (aCons (dCall f_law_said (aCons (dC (.int 7)) (aCons (dVar 12) aNil))) aNil))) (aCons (dLst (aCons (dVar 11) (aCons (dVar 11) aNil))) aNil))))) (sSeq (sRet (dC (.bl false))) sNext) sNext) sNext)))) (sSeq (sRet (dC (.bl true))) sNext)))))))))))))))
def f_law_any_number : DF := dFn 2 (sSeq (sAsg (dLst (aCons (dC (.int 0)) (aCons (dC (.int 1)) (aCons (dC (.int 2)) (aCons (dCall f_law_tap (aCons (dVar 0) (aCons (dC (.int 60)) aNil))) (aCons (dOp2 addE (dOp2 powD (dC (.int 10)) (dC (.int 29))) (dCall f_law_tap (aCons (dVar 0) (aCons (dC (.int 9)) aNil)))) (aCons (dOp2 powD (dC (.int 10)) (dC (.int 5))) (aCons (dOp2 powD (dC (.int 10)) (dC (.int 12))) (aCons (dOp2 powD (dC (.int 10)) (dC (.int 20))) aNil))))))))) (tgName 1)) (sSeq (sRet (dOp2 ixD (dVar 1) (dCall f_law_tap (aCons (dVar 0) (aCons (dC (.int 8)) aNil))))) sNext))
def f_law_any_deed : DF := dFn 8 (sSeq (sAsg (dOp2 ixD (dCall f_law_deed_words aNil) (dCall f_law_tap (aCons (dVar 0) (aCons (dC (.int 12)) aNil)))) (tgName 2)) (sSeq (sAsg (dLstS (aCons (dVar 2) aNil)) (tgName 3)) (sSeq (sFor (iAny (dCall f_law_sorts (aCons (dVar 2) aNil))) (tgName 4) (sSeq (sIf (dTest (dOp2 eqE (dVar 4) (dC (.str "name")))) (sSeq (sDrop (dAppend (dVar 3) (dOp2 ixD (dVar 1) (dCall f_law_tap (aCons (dVar 0) (aCons (dOpN lenD (aCons (dVar 1) aNil)) aNil)))))) sNext) (sSeq (sIf (dTest (dOp2 eqE (dVar 4) (dC (.str "ghosts")))) (sSeq (sPar 5 6 (aCons (dC (.int 0)) (aCons (dLstS aNil) aNil))) (sSeq (sFor (iRange1 (aCons (dCall f_law_tap (aCons (dVar 0) (aCons (dC (.int 7)) aNil))) aNil)) (tgName 7) (sSeq (sAsg (dOp2 addE (dOp2 addE (dVar 5) (dCall f_law_tap (aCons (dVar 0) (aCons (dC (.int 5)) aNil)))) (dIfE (dTest (dOp2 gtD (dVar 7) (dC (.int 0)))) (dC (.int 1)) (dC (.int 0)))) (tgName 5)) (sSeq (sDrop (dAppend (dVar 6) (dVar 5))) sNext))) (sSeq (sDrop (dAppend (dVar 3) (dOpN tupleD (aCons (dVar 6) aNil)))) sNext))) (sSeq (sDrop (dAppend (dVar 3) (dIfE (dAndT (dTest (dOp2 eqE (dVar 4) (dC (.str "leader")))) (dTest (dOp2 eqE (dCall f_law_tap (aCons (dVar 0) (aCons (dC (.int 2)) aNil))) (dC (.int 0))))) (dC .non) (dCall f_law_any_number (aCons (dVar 0) aNil))))) sNext)) sNext)) sNext)) (sSeq (sRet (dOpN tupleD (aCons (dVar 3) aNil))) sNext))))
def f_law_deed_right : DF := dFn 8 (sSeq (sAsg (dCall f_law_deed_text (aCons (dVar 1) aNil)) (tgName 2)) (sSeq (sAsg (dLst (aCons (dCall f_law_said (aCons (dC (.int 0)) (aCons (dVar 1) aNil))) (aCons (dCall f_law_said (aCons (dC (.int 1)) (aCons (dVar 1) aNil))) (aCons (dCall f_law_said (aCons (dC (.int 4)) (aCons (dVar 2) aNil))) (aCons (dCall f_law_said (aCons (dC (.int 5)) (aCons (dVar 2) aNil))) aNil))))) (tgName 3)) (sSeq (sIf (dNotT (dTest (dCall (f_law_agree 8) (aCons (dVar 3) (aCons (dOp2 addE (dOp2 mulD (dLst (aCons (dTup (aCons (dC (.str "fine")) (aCons (dVar 2) aNil))) aNil)) (dC (.int 2))) (dOp2 mulD (dLst (aCons (dTup (aCons (dC (.str "fine")) (aCons (dVar 1) aNil))) aNil)) (dC (.int 2)))) aNil))))) (sSeq (sRet (dC (.bl false))) sNext) sNext) (sSeq (sAsg (dCall f_law_bent_deed (aCons (dVar 0) (aCons (dVar 1) aNil))) (tgName 4)) (sSeq (sAsg (dIfE (dTest (dCall f_law_deed_good (aCons (dVar 4) aNil))) (dTup (aCons (dC (.str "fine")) (aCons (dCall f_law_deed_text (aCons (dVar 4) aNil)) aNil))) (dC (.str "deed"))) (tgName 5)) (sSeq (sIf (dNotT (dTest (dCall (f_law_agree 8) (aCons (dLst (aCons (dCall f_law_said (aCons (dC (.int 0)) (aCons (dVar 4) aNil))) (aCons (dCall f_law_said (aCons (dC (.int 1)) (aCons (dVar 4) aNil))) aNil))) (aCons (dLst (aCons (dVar 5) (aCons (dVar 5) aNil))) aNil))))) (sSeq (sRet (dC (.bl false))) sNext) sNext) (sSeq (sAsg (dCall f_law_bent_text (aCons (dVar 0) (aCons (dVar 2) aNil))) (tgName 6)) (sSeq (sAsg (dIfE (dTest (dOp1 (isiD OWN .str) (dVar 6))) (dCall f_law_line_deed (aCons (dVar 6) aNil)) (dC .non)) (tgName 7)) (sSeq (sAsg (dIfE (dTest (dOp2 notND (dVar 7) (dC .non))) (dTup (aCons (dC (.str "fine")) (aCons (dVar 7) aNil))) (dTup (aCons (dC (.str "at")) (aCons (dC (.int 0)) aNil)))) (tgName 5)) (sSeq (sRet (dCall (f_law_agree 8) (aCons (dLst (aCons (dCall f_law_said (aCons (dC (.int 4)) (aCons (dVar 6) aNil))) (aCons (dCall f_law_said (aCons (dC (.int 5)) (aCons (dVar 6) aNil))) aNil))) (aCons (dLst (aCons (dVar 5) (aCons (dVar 5) aNil))) aNil)))) sNext))))))))))
def f_law_names : DF := dFn 11 (sSeq (sAsg (dTup (aCons (dC (.str "abcdefghijklmnopqrstuvwxyz")) (aCons (dLstS aNil) aNil))) (tgTup 2 (tgCons (tgName 2) (tgCons (tgName 3) tgNil)))) (sSeq (sFor (iRange1 (aCons (dVar 1) aNil)) (tgName 4) (sSeq (sAsg (dTup (aCons (dOp2 ixD (dLst (aCons (dC (.int 0)) (aCons (dC (.int 1)) (aCons (dCall f_law_tap (aCons (dVar 0) (aCons (dC (.int 8)) aNil))) aNil)))) (dCall f_law_tap (aCons (dVar 0) (aCons (dC (.int 3)) aNil)))) (aCons (dCall f_law_tap (aCons (dVar 0) (aCons (dC (.int 26)) aNil))) aNil))) (tgTup 2 (tgCons (tgName 5) (tgCons (tgName 6) tgNil)))) (sSeq (sAsg (dOp2 addE (dOp2 ixD (dVar 2) (dVar 6)) (dStrM joinD (dC (.str "")) (aCons (dLc (iRange1 (aCons (dVar 5) aNil)) (tgName 8) tYesD (dOp2 ixD (dVar 2) (dCall f_law_tap (aCons (dVar 0) (aCons (dC (.int 26)) aNil)))) [8]) aNil))) (tgName 7)) (sSeq (sIf (dAndT (dTest (dOp2 neE (dVar 3) (dLst aNil))) (dTest (dOp2 eqE (dCall f_law_tap (aCons (dVar 0) (aCons (dC (.int 3)) aNil))) (dC (.int 0))))) (sSeq (sAsg (dOp2 ixD (dLst (aCons (dOp2 addE (dSl (dOp2 ixD (dVar 3) (dOp1 negD (dC (.int 1)))) oNone (oSome (dC (.int 7)))) (dOp2 ixD (dVar 2) (dVar 6))) (aCons (dOp2 addE (dSl (dOp2 ixD (dVar 3) (dOp1 negD (dC (.int 1)))) oNone (oSome (dOp1 negD (dC (.int 1))))) (dOp2 ixD (dVar 2) (dVar 6))) aNil))) (dCall f_law_tap (aCons (dVar 0) (aCons (dC (.int 2)) aNil)))) (tgName 7)) sNext) sNext) (sSeq (sAsg (dLc (iRange1 (aCons (dC (.int 26)) aNil)) (tgName 8) tYesD (dOp2 addE (dOp2 ixD (dVar 2) (dOp2 modD (dOp2 addE (dVar 6) (dVar 8)) (dC (.int 26)))) (dOp2 ixD (dVar 2) (dVar 4))) [8]) (tgName 9)) (sSeq (sDrop (dAppend (dVar 3) (dIfE (dTest (dOp2 notInD (dVar 7) (dVar 3))) (dVar 7) (dOp2 ixD (dLc (iAny (dVar 9)) (tgName 10) (dTest (dOp2 notInD (dVar 10) (dVar 3))) (dVar 10) [10]) (dC (.int 0)))))) sNext)))))) (sSeq (sRet (dFrz (dVar 3))) sNext)))
def f_law_cask : DF := dFn 3 (sSeq (sAsg (dIfE (dTest (dOp2 ltD (dVar 1) (dOpN lenD (aCons (dVar 0) aNil)))) (dOp2 ixD (dVar 0) (dVar 1)) (dC (.int 0))) (tgName 2)) (sSeq (sRet (dLstS (aCons (dOpN maxD (aCons (dC (.int 0)) (aCons (dOp2 subD (dOpN absD (aCons (dVar 2) aNil)) (dOp2 powD (dC (.int 10)) (dC (.int 18)))) aNil))) (aCons (dOp2 addE (dOp2 addE (dOp2 mulD (dOp2 modD (dOpN intD (aCons (dVar 2) aNil)) (dOp2 addE (dOp2 powD (dC (.int 10)) (dC (.int 38))) (dC (.int 133)))) (dC (.int 59))) (dOp2 mulD (dC (.int 61)) (dVar 1))) (dC (.int 23))) (aCons (dC (.int 0)) aNil))))) sNext))
def f_law : DF := dFn 7 (sSeq (sFor (iRange1 (aCons (dOpN maxD (aCons (dC (.int 1)) (aCons (dOpN minD (aCons (dC (.int 3)) (aCons (dOpN lenD (aCons (dVar 0) aNil)) aNil))) aNil))) aNil)) (tgName 1) (sSeq (sAsg (dCall f_law_cask (aCons (dVar 0) (aCons (dVar 1) aNil))) (tgName 2)) (sSeq (sAsg (dOp2 addE (dCall f_law_names (aCons (dVar 2) (aCons (dC (.int 3)) aNil))) (dLst (aCons (dC (.str "none")) (aCons (dC (.str "begin")) aNil)))) (tgName 3)) (sSeq (sFor (iRange1 (aCons (dC (.int 16)) aNil)) (tgName 4) (sSeq (sIf (dNotT (dTest (dCall f_law_deed_right (aCons (dVar 2) (aCons (dCall f_law_any_deed (aCons (dVar 2) (aCons (dVar 3) aNil))) aNil))))) (sSeq (sRet (dC (.bl false))) sNext) sNext) sNext)) (sSeq (sFor (iRange1 (aCons (dC (.int 4)) aNil)) (tgName 4) (sSeq (sAsg (dLc (iRange1 (aCons (dCall f_law_tap (aCons (dVar 2) (aCons (dOp2 ixD (dLst (aCons (dC (.int 6)) (aCons (dC (.int 31)) aNil))) (dOp2 andI (dVar 4) (dC (.int 1)))) aNil))) aNil)) (tgName 6) tYesD (dCall f_law_any_deed (aCons (dVar 2) (aCons (dVar 3) aNil))) [6]) (tgName 5)) (sSeq (sIf (dNotT (dTest (dCall f_law_history_right (aCons (dVar 2) (aCons (dCall f_law_any_number (aCons (dVar 2) aNil)) (aCons (dVar 5) aNil)))))) (sSeq (sRet (dC (.bl false))) sNext) sNext) sNext))) sNext))))) (sSeq (sRet (dAnd (dCall (f_law_agree 8) (aCons (dCall f_law_said (aCons (dC (.int 6)) (aCons (dC (.str "0")) aNil))) (aCons (dTup (aCons (dC (.str "fine")) (aCons (dTup (aCons (dC (.int 0)) (aCons (dLst aNil) aNil))) aNil))) aNil))) (dOp2 eqE (dCall f_law_said (aCons (dC (.int 6)) (aCons (dC (.str "")) aNil))) (dTup (aCons (dC (.str "at")) (aCons (dC (.int 0)) aNil)))))) sNext))
structure Tx (G : Gx) (K : PySem.W.Frag) (w : World) (mg : Str → Option Value) : Prop where
  b_abs : mg "abs" = none
  b_all : mg "all" = none
  b_bool : mg "bool" = none
  b_enumerate : mg "enumerate" = none
  b_int : mg "int" = none
  b_isinstance : mg "isinstance" = none
  b_len : mg "len" = none
  b_list : mg "list" = none
  b_max : mg "max" = none
  b_min : mg "min" = none
  b_range : mg "range" = none
  b_str : mg "str" = none
  b_tuple : mg "tuple" = none
  b_zip : mg "zip" = none
  c_DIGITS : GlobC G mg "DIGITS" c_DIGITS
  c_GHOST_LIST : GlobC G mg "GHOST_LIST" c_GHOST_LIST
  c_KEY : GlobC G mg "KEY" c_KEY
  c_LEADER : GlobC G mg "LEADER" c_LEADER
  c_LETTERS : GlobC G mg "LETTERS" c_LETTERS
  c_LONGEST : GlobC G mg "LONGEST" c_LONGEST
  c_MOST_DIGITS : GlobC G mg "MOST_DIGITS" c_MOST_DIGITS
  c_NO_GHOSTS : GlobC G mg "NO_GHOSTS" c_NO_GHOSTS
  c_NO_LEADER : GlobC G mg "NO_LEADER" c_NO_LEADER
  cz_0 : ClzOk G K [⟨2, .con "deed", G.CA 0, [G.CA 3, G.CA 4, G.CA 1]⟩, ⟨3, .con "history", G.CA 0, [G.CA 2, G.CA 4, G.CA 1]⟩, ⟨4, .at "at" "at", G.CA 0, [G.CA 2, G.CA 3]⟩]
  eb_BadDeed : PySem.W.subIn K (.ref (G.CA 2)) (.type "BaseException") = some true
  eb_BadHistory : PySem.W.subIn K (.ref (G.CA 3)) (.type "BaseException") = some true
  et_BadDeed : PySem.W.typeIn K (.ref (G.CA 2)) = some (.type "type")
  et_BadHistory : PySem.W.typeIn K (.ref (G.CA 3)) = some (.type "type")
  ex_BadDeed : L2.ExcC K (G.CA 2)
  ex_BadHistory : L2.ExcC K (G.CA 3)
  ex_BadText : L2.ExcC K (G.CA 4)
  g_BadBook : mg "BadBook" = some (.ref (G.CA 1))
  g_BadDeed : mg "BadDeed" = some (.ref (G.CA 2))
  g_BadHistory : mg "BadHistory" = some (.ref (G.CA 3))
  g_BadText : mg "BadText" = some (.ref (G.CA 4))
  g_StoreError : mg "StoreError" = some (.ref (G.CA 0))
  is : IsOk G K OWN
  kp_BadDeed : PySem.W.keepIn K (.ref (G.CA 2)) = true
  kp_BadHistory : PySem.W.keepIn K (.ref (G.CA 3)) = true
  no_BadText_at : PySem.W.findIn K (.ref (G.CA 4)) "at" = some none
  o_BadText : OexC K (G.CA 4)
  w_ENTRIES : WDict G K w mg "ENTRIES" tab_ENTRIES
  x_BadDeed : PySem.W.excIn K (G.CA 2) [.type "ValueError", .type "Exception", .type "BaseException", .type "object"] "ValueError.__new__" = true
  x_BadHistory : PySem.W.excIn K (G.CA 3) [.type "ValueError", .type "Exception", .type "BaseException", .type "object"] "ValueError.__new__" = true
  xf_BadText : XfC K (G.CA 4)
section
variable {P : Program} {w : World} {K : PySem.W.Frag} {mg : Str → Option Value} {base : Heap} {G : Gx}
set_option maxHeartbeats 4000000 in
theorem ok_f_law_agree {fa : Addr} {fd : FuncData} (Ff : Fun K "_law_agree" "_law_agree" s_f_law_agree fa fd) (hK : G.K = K) (T : Tx G K w mg) (hm : mg "_law_agree" = some (.ref fa)) (hb : Binds K fd ["found", "due"] [])  : ∀ n, FnOk P w K mg base (L2N.CX P w) n fa fd ["found", "due"] (spD G 2 (f_law_agree n))
  | 0 => ⟨fun vs H Q E h => h.1, fun A outer s H args us vs Q E hr e0 b r h => h.2.elim fun ds h => h.elim fun S h => h.elim fun η h => h.elim fun T h => h.elim fun F h => h.2.2.elim⟩
  | n + 1 => by
    have ih : Fn G P w K mg base "_law_agree" n ["found", "due"] (f_law_agree n) := ⟨fa, fd, ok_f_law_agree Ff hK T hm hb n, hm, Ff.kp, hb⟩
    show FnOk P w K mg base (L2N.CX P w) (n + 1) fa fd ["found", "due"] (spD G 2 (b_f_law_agree (f_law_agree n)))
    exact fn_mk Ff sc_f_law_agree fun cdv A outer s H E hr =>
    (ss_cons (s_if (PW.pt (dw_or (dt_val (d_isi (u := .bl) hK T.is (by decide) (by decide) rfl T.b_isinstance (d_var 0 (pv 0)) (pe_bltn (v := .ty "bool") rfl T.b_bool (by decide +kernel) rfl) (.ty _))) (dw_or1 (dt_val (d_isi (u := .bl) hK T.is (by decide) (by decide) rfl T.b_isinstance (d_var 1 (pv 1)) (pe_bltn (v := .ty "bool") rfl T.b_bool (by decide +kernel) rfl) (.ty _)))))) (ss_cons (s_ret (d_and (d_isi (u := .bl) hK T.is (by decide) (by decide) rfl T.b_isinstance (d_var 0 (pv 0)) (pe_bltn (v := .ty "bool") rfl T.b_bool (by decide +kernel) rfl) (.ty _)) (d_and (d_isi (u := .bl) hK T.is (by decide) (by decide) rfl T.b_isinstance (d_var 1 (pv 1)) (pe_bltn (v := .ty "bool") rfl T.b_bool (by decide +kernel) rfl) (.ty _)) (d_one (d_cmp (o_eqE hK hr.units) (d_var 0 (pv 0)) (d_var 1 (pv 1)) (nomark _))))))
    ss_nil) ss_nil)
    (ss_cons (s_if (PW.pt (dw_or (dt_cmp (o_neE hK hr.units) (d_isi (u := .lst) hK T.is (by decide) (by decide) rfl T.b_isinstance (d_var 0 (pv 0)) (pe_bltn (v := .ty "list") rfl T.b_list (by decide +kernel) rfl) (.ty _)) (d_isi (u := .lst) hK T.is (by decide) (by decide) rfl T.b_isinstance (d_var 1 (pv 1)) (pe_bltn (v := .ty "list") rfl T.b_list (by decide +kernel) rfl) (.ty _)) (nomark _)) (dw_or1 (dt_cmp (o_neE hK hr.units) (d_isi (u := .tup) hK T.is (by decide) (by decide) rfl T.b_isinstance (d_var 0 (pv 0)) (pe_bltn (v := .ty "tuple") rfl T.b_tuple (by decide +kernel) rfl) (.ty _)) (d_isi (u := .tup) hK T.is (by decide) (by decide) rfl T.b_isinstance (d_var 1 (pv 1)) (pe_bltn (v := .ty "tuple") rfl T.b_tuple (by decide +kernel) rfl) (.ty _)) (nomark _))))) (ss_cons (s_ret d_bl)
    ss_nil) ss_nil)
    (ss_cons (s_if (PW.pt (dw_or (dt_cmp (o_neE hK hr.units) (d_isi (u := .str) hK T.is (by decide) (by decide) rfl T.b_isinstance (d_var 0 (pv 0)) (pe_bltn (v := .ty "str") rfl T.b_str (by decide +kernel) rfl) (.ty _)) (d_isi (u := .str) hK T.is (by decide) (by decide) rfl T.b_isinstance (d_var 1 (pv 1)) (pe_bltn (v := .ty "str") rfl T.b_str (by decide +kernel) rfl) (.ty _)) (nomark _)) (dw_or1 (dt_cmp (o_neE hK hr.units) (d_isi (u := .int) hK T.is (by decide) (by decide) rfl T.b_isinstance (d_var 0 (pv 0)) (pe_bltn (v := .ty "int") rfl T.b_int (by decide +kernel) rfl) (.ty _)) (d_isi (u := .int) hK T.is (by decide) (by decide) rfl T.b_isinstance (d_var 1 (pv 1)) (pe_bltn (v := .ty "int") rfl T.b_int (by decide +kernel) rfl) (.ty _)) (nomark _))))) (ss_cons (s_ret d_bl)
    ss_nil) ss_nil)
    (ss_cons (s_if (dt_val (d_isi2 (u1 := .lst) (u2 := .tup) hK T.is (by decide) rfl T.b_isinstance (d_var 1 (pv 1)) (pe_tup (pa_cons (pe_bltn (v := .ty "list") rfl T.b_list (by decide +kernel) rfl) (pa_cons (pe_bltn (v := .ty "tuple") rfl T.b_tuple (by decide +kernel) rfl) pa_nil))) ⟨(.ty _), (.ty _)⟩)) (ss_cons (s_if (dt_cmp (o_neE hK hr.units) (d_callB (c_len hK) rfl T.b_len (by decide +kernel) (a_cons (d_var 0 (pv 0)) a_nil)) (d_callB (c_len hK) rfl T.b_len (by decide +kernel) (a_cons (d_var 1 (pv 1)) a_nil)) (nomark _)) (ss_cons (s_ret d_bl)
    ss_nil) ss_nil)
    (ss_cons (s_ret (d_cmp (o_eqE hK hr.units) (d_lc (own := [(("k" : Str), 2)]) rfl sc_f_law_agree.nd (i_range1 (pi_range1 rfl T.b_range (a_cons (d_callB (c_len hK) rfl T.b_len (by decide +kernel) (a_cons (d_var 1 (pv 1)) a_nil)) a_nil))) (blkOk_by (N := N_f_law_agree) (sc := defScope s_f_law_agree) (by decide +kernel)) (fun _ _ _ _ _ => (g_name (pg_name (i := 2) sc_f_law_agree.nd rfl (.inl rfl)) (by decide))) (fun _ _ _ _ _ => (pts_one (dt_not (dt_val (d_call ih (hr.mono (Nat.le_refl _)) takes0N rfl rfl (a_cons (d_ix hK (d_var 0 (pv 0)) (d_var 2 (pv 2))) (a_cons (d_ix hK (d_var 1 (pv 1)) (d_var 2 (pv 2))) a_nil)) (al_cons (al_cons al_nil))))))) (fun _ _ _ _ _ => (d_var 2 (pv 2)))) (d_lst a_nil) (nomark _)))
    ss_nil)) ss_nil)
    (ss_cons (s_ret (d_and (d_cmp (o_eqE hK hr.units) (d_cmp o_isN (d_var 0 (pv 0)) d_non (nomark _)) (d_cmp o_isN (d_var 1 (pv 1)) d_non (nomark _)) (nomark _)) (d_one (d_cmp (o_eqE hK hr.units) (d_var 0 (pv 0)) (d_var 1 (pv 1)) (nomark _)))))
    ss_nil)))))
set_option maxHeartbeats 4000000 in
theorem ok_f_is_integer {fa : Addr} {fd : FuncData} (Ff : Fun K "is_integer" "is_integer" s_f_is_integer fa fd) (hK : G.K = K) (T : Tx G K w mg)  : FnOk P w K mg base (L2N.CX P w) 1 fa fd ["thing"] (spD G 1 f_is_integer) :=
  fn_mk (k := 0) Ff sc_f_is_integer fun cdv A outer s H E hr =>
    (ss_cons (s_ret (d_and (d_isi (u := .int) hK T.is (by decide) (by decide) rfl T.b_isinstance (d_var 0 (pv 0)) (pe_bltn (v := .ty "int") rfl T.b_int (by decide +kernel) rfl) (.ty _)) (d_one (d_not (d_isi (u := .bl) hK T.is (by decide) (by decide) rfl T.b_isinstance (d_var 0 (pv 0)) (pe_bltn (v := .ty "bool") rfl T.b_bool (by decide +kernel) rfl) (.ty _))))))
    ss_nil)
set_option maxHeartbeats 4000000 in
theorem ok_f_is_from {fa : Addr} {fd : FuncData} (Ff : Fun K "is_from" "is_from" s_f_is_from fa fd) (hK : G.K = K) (T : Tx G K w mg) (h_f_is_integer : Fn G P w K mg base "is_integer" 1 ["thing"] f_is_integer) : FnOk P w K mg base (L2N.CX P w) 2 fa fd ["low", "thing"] (spD G 2 f_is_from) :=
  fn_mk (k := 1) Ff sc_f_is_from fun cdv A outer s H E hr =>
    (ss_cons (s_ret (d_and (d_call h_f_is_integer (hr.mono (by decide)) (L2N.takes_of rfl rfl rfl rfl) rfl rfl (a_cons (d_var 1 (pv 1)) a_nil) (al_cons al_nil)) (d_one (d_cmp o_ge (d_var 1 (pv 1)) (d_var 0 (pv 0)) (nomark _)))))
    ss_nil)
set_option maxHeartbeats 4000000 in
theorem ok_f_is_ascending_tuple {fa : Addr} {fd : FuncData} (Ff : Fun K "is_ascending_tuple" "is_ascending_tuple" s_f_is_ascending_tuple fa fd) (hK : G.K = K) (T : Tx G K w mg) (h_f_is_from : Fn G P w K mg base "is_from" 2 ["low", "thing"] f_is_from) : FnOk P w K mg base (L2N.CX P w) 3 fa fd ["thing"] (spD G 1 f_is_ascending_tuple) :=
  fn_mk (k := 2) Ff sc_f_is_ascending_tuple fun cdv A outer s H E hr =>
    (ss_cons (s_if (PW.pt (dw_or (dt_not (dt_val (d_isi (u := .tup) hK T.is (by decide) (by decide) rfl T.b_isinstance (d_var 0 (pv 0)) (pe_bltn (v := .ty "tuple") rfl T.b_tuple (by decide +kernel) rfl) (.ty _)))) (dw_or1 (dt_not (dt_val (d_callB (c_all rfl) rfl T.b_all (by decide +kernel) (a_cons (d_lc (own := [(("number" : Str), 1)]) rfl sc_f_is_ascending_tuple.nd (i_any hK (d_var 0 (pv 0))) (blkOk_by (N := N_f_is_ascending_tuple) (sc := defScope s_f_is_ascending_tuple) (by decide +kernel)) (fun _ _ _ _ _ => (g_name (pg_name (i := 1) sc_f_is_ascending_tuple.nd rfl (.inl rfl)) (by decide))) (fun _ _ _ _ _ => pts_yes) (fun _ _ _ _ _ => (d_call h_f_is_from (hr.mono (by decide)) takes0N rfl rfl (a_cons d_int (a_cons (d_var 1 (pv 1)) a_nil)) (al_cons (al_cons al_nil))))) a_nil))))))) (ss_cons (s_ret d_bl)
    ss_nil) ss_nil)
    (ss_cons (s_ret (d_callB (c_all rfl) rfl T.b_all (by decide +kernel) (a_cons (d_lc (own := [(("number" : Str), 1), (("later" : Str), 2)]) rfl sc_f_is_ascending_tuple.nd (i_zipT hK (TokZ.pi_zipM rfl T.b_zip (a_cons (d_var 0 (pv 0)) (a_cons (d_slice hK (d_var 0 (pv 0)) (o_some d_int) o_none) a_nil)))) (blkOk_by (N := N_f_is_ascending_tuple) (sc := defScope s_f_is_ascending_tuple) (by decide +kernel)) (fun _ _ _ _ _ => (g_tup (n := 2) rfl hK (gs_cons (g_name (pg_name (i := 1) sc_f_is_ascending_tuple.nd rfl (.inl rfl)) (by decide)) (gs_cons (g_name (pg_name (i := 2) sc_f_is_ascending_tuple.nd rfl (.inl rfl)) (by decide)) gs_nil)))) (fun _ _ _ _ _ => pts_yes) (fun _ _ _ _ _ => (d_cmp o_lt (d_var 1 (pv 1)) (d_var 2 (pv 2)) (nomark _)))) a_nil)))
    ss_nil))
set_option maxHeartbeats 4000000 in
theorem ok_f_is_key {fa : Addr} {fd : FuncData} (Ff : Fun K "is_key" "is_key" s_f_is_key fa fd) (hK : G.K = K) (T : Tx G K w mg)  : FnOk P w K mg base (L2N.CX P w) 1 fa fd ["thing"] (spD G 1 f_is_key) :=
  fn_mk (k := 0) Ff sc_f_is_key fun cdv A outer s H E hr =>
    (ss_cons (s_ret (d_and (d_isi (u := .str) hK T.is (by decide) (by decide) rfl T.b_isinstance (d_var 0 (pv 0)) (pe_bltn (v := .ty "str") rfl T.b_str (by decide +kernel) rfl) (.ty _)) (d_and (d_chain (pe_chain o_lt o_le d_int (d_callB (c_len hK) rfl T.b_len (by decide +kernel) (a_cons (d_var 0 (pv 0)) a_nil)) (d_glob T.c_LONGEST rfl))) (d_one (d_callB (c_all rfl) rfl T.b_all (by decide +kernel) (a_cons (d_lc (own := [(("sign" : Str), 1)]) rfl sc_f_is_key.nd (i_str (d_var 0 (pv 0))) (blkOk_by (N := N_f_is_key) (sc := defScope s_f_is_key) (by decide +kernel)) (fun _ _ _ _ _ => (g_name (pg_name (i := 1) sc_f_is_key.nd rfl (.inl rfl)) (by decide))) (fun _ _ _ _ _ => pts_yes) (fun _ _ _ _ _ => (d_cmp (o_in hK) (d_var 1 (pv 1)) (d_glob T.c_LETTERS rfl) rfl))) a_nil))))))
    ss_nil)
set_option maxHeartbeats 4000000 in
theorem ok_f_is_entry {fa : Addr} {fd : FuncData} (Ff : Fun K "is_entry" "is_entry" s_f_is_entry fa fd) (hK : G.K = K) (T : Tx G K w mg) (h_f_is_ascending_tuple : Fn G P w K mg base "is_ascending_tuple" 3 ["thing"] f_is_ascending_tuple) (h_f_is_from : Fn G P w K mg base "is_from" 2 ["low", "thing"] f_is_from) (h_f_is_key : Fn G P w K mg base "is_key" 1 ["thing"] f_is_key) : FnOk P w K mg base (L2N.CX P w) 4 fa fd ["sort", "thing"] (spD G 2 f_is_entry) :=
  fn_mk (k := 3) Ff sc_f_is_entry fun cdv A outer s H E hr =>
    (ss_cons (s_if (dt_cmp (o_eqE hK hr.units) (d_var 0 (pv 0)) (d_glob T.c_KEY rfl) (nomark _)) (ss_cons (s_ret (d_call h_f_is_key (hr.mono (by decide)) (L2N.takes_of rfl rfl rfl rfl) rfl rfl (a_cons (d_var 1 (pv 1)) a_nil) (al_cons al_nil)))
    ss_nil) ss_nil)
    (ss_cons (s_if (dt_cmp (o_eqE hK hr.units) (d_var 0 (pv 0)) (d_glob T.c_LEADER rfl) (nomark _)) (ss_cons (s_ret (d_or (d_cmp o_isN (d_var 1 (pv 1)) d_non (nomark _)) (d_one (d_call h_f_is_from (hr.mono (by decide)) (L2N.takes_of rfl rfl rfl rfl) rfl rfl (a_cons d_int (a_cons (d_var 1 (pv 1)) a_nil)) (al_cons (al_cons al_nil))))))
    ss_nil) ss_nil)
    (ss_cons (s_ret (d_if (dt_cmp (o_eqE hK hr.units) (d_var 0 (pv 0)) (d_glob T.c_GHOST_LIST rfl) (nomark _)) (d_call h_f_is_ascending_tuple (hr.mono (by decide)) (L2N.takes_of rfl rfl rfl rfl) rfl rfl (a_cons (d_var 1 (pv 1)) a_nil) (al_cons al_nil)) (d_call h_f_is_from (hr.mono (by decide)) (L2N.takes_of rfl rfl rfl rfl) rfl rfl (a_cons d_int (a_cons (d_var 1 (pv 1)) a_nil)) (al_cons (al_cons al_nil)))))
    ss_nil)))
set_option maxHeartbeats 4000000 in
theorem ok_f_has_deed_word {fa : Addr} {fd : FuncData} (Ff : Fun K "has_deed_word" "has_deed_word" s_f_has_deed_word fa fd) (hK : G.K = K) (T : Tx G K w mg)  : FnOk P w K mg base (L2N.CX P w) 1 fa fd ["thing"] (spD G 1 f_has_deed_word) :=
  fn_mk (k := 0) Ff sc_f_has_deed_word fun cdv A outer s H E hr =>
    (ss_cons (s_if (PW.pt (dw_or (dt_not (dt_val (d_isi (u := .tup) hK T.is (by decide) (by decide) rfl T.b_isinstance (d_var 0 (pv 0)) (pe_bltn (v := .ty "tuple") rfl T.b_tuple (by decide +kernel) rfl) (.ty _)))) (dw_or (dt_cmp (o_eqE hK hr.units) (d_callB (c_len hK) rfl T.b_len (by decide +kernel) (a_cons (d_var 0 (pv 0)) a_nil)) d_int (nomark _)) (dw_or1 (dt_not (dt_val (d_isi (u := .str) hK T.is (by decide) (by decide) rfl T.b_isinstance (d_ix hK (d_var 0 (pv 0)) d_int) (pe_bltn (v := .ty "str") rfl T.b_str (by decide +kernel) rfl) (.ty _)))))))) (ss_cons (s_ret d_bl)
    ss_nil) ss_nil)
    (ss_cons (s_ret (d_and (d_inW T.w_ENTRIES (d_ix hK (d_var 0 (pv 0)) d_int) rfl) (d_one (d_cmp (o_eqE hK hr.units) (d_callB (c_len hK) rfl T.b_len (by decide +kernel) (a_cons (d_var 0 (pv 0)) a_nil)) (d_op (o_addE hK) d_int (d_callB (c_len hK) rfl T.b_len (by decide +kernel) (a_cons (d_ixW T.w_ENTRIES rfl (d_ix hK (d_var 0 (pv 0)) d_int)) a_nil))) (nomark _)))))
    ss_nil))
set_option maxHeartbeats 4000000 in
theorem ok_f_is_deed {fa : Addr} {fd : FuncData} (Ff : Fun K "is_deed" "is_deed" s_f_is_deed fa fd) (hK : G.K = K) (T : Tx G K w mg) (h_f_is_entry : Fn G P w K mg base "is_entry" 4 ["sort", "thing"] f_is_entry) (h_f_has_deed_word : Fn G P w K mg base "has_deed_word" 1 ["thing"] f_has_deed_word) : FnOk P w K mg base (L2N.CX P w) 5 fa fd ["thing"] (spD G 1 f_is_deed) :=
  fn_mk (k := 4) Ff sc_f_is_deed fun cdv A outer s H E hr =>
    (ss_cons (s_if (dt_not (dt_val (d_call h_f_has_deed_word (hr.mono (by decide)) (L2N.takes_of rfl rfl rfl rfl) rfl rfl (a_cons (d_var 0 (pv 0)) a_nil) (al_cons al_nil)))) (ss_cons (s_ret d_bl)
    ss_nil) ss_nil)
    (ss_cons (s_ret (d_callB (c_all rfl) rfl T.b_all (by decide +kernel) (a_cons (d_lc (own := [(("sort" : Str), 1), (("part" : Str), 2)]) rfl sc_f_is_deed.nd (i_zipT hK (TokZ.pi_zipM rfl T.b_zip (a_cons (d_ixW T.w_ENTRIES rfl (d_ix hK (d_var 0 (pv 0)) d_int)) (a_cons (d_slice hK (d_var 0 (pv 0)) (o_some d_int) o_none) a_nil)))) (blkOk_by (N := N_f_is_deed) (sc := defScope s_f_is_deed) (by decide +kernel)) (fun _ _ _ _ _ => (g_tup (n := 2) rfl hK (gs_cons (g_name (pg_name (i := 1) sc_f_is_deed.nd rfl (.inl rfl)) (by decide)) (gs_cons (g_name (pg_name (i := 2) sc_f_is_deed.nd rfl (.inl rfl)) (by decide)) gs_nil)))) (fun _ _ _ _ _ => pts_yes) (fun _ _ _ _ _ => (d_call h_f_is_entry (hr.mono (by decide)) takes0N rfl rfl (a_cons (d_var 1 (pv 1)) (a_cons (d_var 2 (pv 2)) a_nil)) (al_cons (al_cons al_nil))))) a_nil)))
    ss_nil))
set_option maxHeartbeats 4000000 in
theorem ok_f_number_of {fa : Addr} {fd : FuncData} (Ff : Fun K "number_of" "number_of" s_f_number_of fa fd) (hK : G.K = K) (T : Tx G K w mg)  : FnOk P w K mg base (L2N.CX P w) 1 fa fd ["word"] (spD G 1 f_number_of) :=
  fn_mk (k := 0) Ff sc_f_number_of fun cdv A outer s H E hr =>
    (ss_cons (s_if (PW.pt (dw_or (dt_cmp (o_eqE hK hr.units) (d_var 0 (pv 0)) d_str (nomark _)) (dw_or (dt_cmp o_gt (d_callB (c_len hK) rfl T.b_len (by decide +kernel) (a_cons (d_var 0 (pv 0)) a_nil)) (d_glob T.c_MOST_DIGITS rfl) (nomark _)) (dw_or1 (dt_not (dt_val (d_callB (c_all rfl) rfl T.b_all (by decide +kernel) (a_cons (d_lc (own := [(("sign" : Str), 1)]) rfl sc_f_number_of.nd (i_str (d_var 0 (pv 0))) (blkOk_by (N := N_f_number_of) (sc := defScope s_f_number_of) (by decide +kernel)) (fun _ _ _ _ _ => (g_name (pg_name (i := 1) sc_f_number_of.nd rfl (.inl rfl)) (by decide))) (fun _ _ _ _ _ => pts_yes) (fun _ _ _ _ _ => (d_cmp (o_in hK) (d_var 1 (pv 1)) (d_glob T.c_DIGITS rfl) rfl))) a_nil)))))))) (ss_cons (s_ret d_non)
    ss_nil) ss_nil)
    (ss_cons (s_ret (d_if (PW.pt (dw_or (dt_cmp (o_eqE hK hr.units) (d_var 0 (pv 0)) d_str (nomark _)) (dw_or1 (dt_cmp (o_neE hK hr.units) (d_ix hK (d_var 0 (pv 0)) d_int) d_str (nomark _))))) (d_callTy c_int rfl T.b_int (by decide +kernel) (a_cons (d_var 0 (pv 0)) a_nil)) d_non))
    ss_nil))
set_option maxHeartbeats 4000000 in
theorem ok_f_ghosts_in {fa : Addr} {fd : FuncData} (Ff : Fun K "ghosts_in" "ghosts_in" s_f_ghosts_in fa fd) (hK : G.K = K) (T : Tx G K w mg) (h_f_number_of : Fn G P w K mg base "number_of" 1 ["word"] f_number_of) : FnOk P w K mg base (L2N.CX P w) 2 fa fd ["word"] (spD G 1 f_ghosts_in) :=
  fn_mk (k := 1) Ff sc_f_ghosts_in fun cdv A outer s H E hr =>
    (ss_cons (s_ret (d_if (dt_cmp (o_eqE hK hr.units) (d_var 0 (pv 0)) (d_glob T.c_NO_GHOSTS rfl) (nomark _)) (d_tup a_nil) (d_callTy (c_tuple hK) rfl T.b_tuple (by decide +kernel) (a_cons (d_lc (own := [(("part" : Str), 1)]) rfl sc_f_ghosts_in.nd (i_any hK (d_strM (pe_bm PySem.F.plainAttrs_str PySem.F.slot_str_split PySem.F.type_str_split m_split (d_var 0 (pv 0)) (a_cons d_str a_nil)))) (blkOk_by (N := N_f_ghosts_in) (sc := defScope s_f_ghosts_in) (by decide +kernel)) (fun _ _ _ _ _ => (g_name (pg_name (i := 1) sc_f_ghosts_in.nd rfl (.inl rfl)) (by decide))) (fun _ _ _ _ _ => pts_yes) (fun _ _ _ _ _ => (d_call h_f_number_of (hr.mono (by decide)) takes0N rfl rfl (a_cons (d_var 1 (pv 1)) a_nil) (al_cons al_nil)))) a_nil))))
    ss_nil)
set_option maxHeartbeats 4000000 in
theorem ok_f_entry_in {fa : Addr} {fd : FuncData} (Ff : Fun K "entry_in" "entry_in" s_f_entry_in fa fd) (hK : G.K = K) (T : Tx G K w mg) (h_f_ghosts_in : Fn G P w K mg base "ghosts_in" 2 ["word"] f_ghosts_in) (h_f_number_of : Fn G P w K mg base "number_of" 1 ["word"] f_number_of) (h_f_is_key : Fn G P w K mg base "is_key" 1 ["thing"] f_is_key) : FnOk P w K mg base (L2N.CX P w) 3 fa fd ["sort", "word"] (spD G 2 f_entry_in) :=
  fn_mk (k := 2) Ff sc_f_entry_in fun cdv A outer s H E hr =>
    (ss_cons (s_if (dt_cmp (o_eqE hK hr.units) (d_var 0 (pv 0)) (d_glob T.c_KEY rfl) (nomark _)) (ss_cons (s_ret (d_if (dt_val (d_call h_f_is_key (hr.mono (by decide)) (L2N.takes_of rfl rfl rfl rfl) rfl rfl (a_cons (d_var 1 (pv 1)) a_nil) (al_cons al_nil))) (d_var 1 (pv 1)) d_int))
    ss_nil) ss_nil)
    (ss_cons (s_if (dt_cmp (o_eqE hK hr.units) (d_var 0 (pv 0)) (d_glob T.c_LEADER rfl) (nomark _)) (ss_cons (s_set (ps_set (i := 2) sc_f_entry_in.nd rfl (.inl rfl) (d_call h_f_number_of (hr.mono (by decide)) (L2N.takes_of rfl rfl rfl rfl) rfl rfl (a_cons (d_var 1 (pv 1)) a_nil) (al_cons al_nil))))
    (ss_cons (s_ret (d_if (PW.pt (dw_and (dt_cmp o_isN (d_var 2 (pv 2)) d_non (nomark _)) (dw_and1 (dt_cmp (o_neE hK hr.units) (d_var 1 (pv 1)) (d_glob T.c_NO_LEADER rfl) (nomark _))))) d_str (d_var 2 (pv 2))))
    ss_nil)) ss_nil)
    (ss_cons (s_ret (d_if (dt_cmp (o_eqE hK hr.units) (d_var 0 (pv 0)) (d_glob T.c_GHOST_LIST rfl) (nomark _)) (d_call h_f_ghosts_in (hr.mono (by decide)) (L2N.takes_of rfl rfl rfl rfl) rfl rfl (a_cons (d_var 1 (pv 1)) a_nil) (al_cons al_nil)) (d_call h_f_number_of (hr.mono (by decide)) (L2N.takes_of rfl rfl rfl rfl) rfl rfl (a_cons (d_var 1 (pv 1)) a_nil) (al_cons al_nil))))
    ss_nil)))
set_option maxHeartbeats 4000000 in
theorem ok_f_deed_in {fa : Addr} {fd : FuncData} (Ff : Fun K "deed_in" "deed_in" s_f_deed_in fa fd) (hK : G.K = K) (T : Tx G K w mg) (h_f_is_deed : Fn G P w K mg base "is_deed" 5 ["thing"] f_is_deed) (h_f_entry_in : Fn G P w K mg base "entry_in" 3 ["sort", "word"] f_entry_in) : FnOk P w K mg base (L2N.CX P w) 6 fa fd ["line"] (spD G 1 f_deed_in) :=
  fn_mk (k := 5) Ff sc_f_deed_in fun cdv A outer s H E hr =>
    (ss_cons (s_asg (vl := [1, 2]) (d_strM (pe_bm PySem.F.plainAttrs_str PySem.F.slot_str_split PySem.F.type_str_split m_split (d_var 0 (pv 0)) (a_cons d_str a_nil))) (g_star rfl (g_name (pg_name (i := 1) sc_f_deed_in.nd rfl (.inl rfl)) (by decide)) (g_name (pg_name (i := 2) sc_f_deed_in.nd rfl (.inl rfl)) (by decide))))
    (ss_cons (s_if (PW.pt (dw_or (dt_notInW T.w_ENTRIES (d_var 1 (pv 1)) rfl) (dw_or1 (dt_cmp (o_neE hK hr.units) (d_callB (c_len hK) rfl T.b_len (by decide +kernel) (a_cons (d_var 2 (pv 2)) a_nil)) (d_callB (c_len hK) rfl T.b_len (by decide +kernel) (a_cons (d_ixW T.w_ENTRIES rfl (d_var 1 (pv 1))) a_nil)) (nomark _))))) (ss_cons (s_ret d_non)
    ss_nil) ss_nil)
    (ss_cons (s_set (ps_set (i := 3) sc_f_deed_in.nd rfl (.inl rfl) (d_tup (a_cons (d_var 1 (pv 1)) (a_star hK (d_lc (own := [(("sort" : Str), 4), (("part" : Str), 5)]) rfl sc_f_deed_in.nd (i_zipT hK (TokZ.pi_zipM rfl T.b_zip (a_cons (d_ixW T.w_ENTRIES rfl (d_var 1 (pv 1))) (a_cons (d_var 2 (pv 2)) a_nil)))) (blkOk_by (N := N_f_deed_in) (sc := defScope s_f_deed_in) (by decide +kernel)) (fun _ _ _ _ _ => (g_tup (n := 2) rfl hK (gs_cons (g_name (pg_name (i := 4) sc_f_deed_in.nd rfl (.inl rfl)) (by decide)) (gs_cons (g_name (pg_name (i := 5) sc_f_deed_in.nd rfl (.inl rfl)) (by decide)) gs_nil)))) (fun _ _ _ _ _ => pts_yes) (fun _ _ _ _ _ => (d_call h_f_entry_in (hr.mono (by decide)) takes0N rfl rfl (a_cons (d_var 4 (pv 4)) (a_cons (d_var 5 (pv 5)) a_nil)) (al_cons (al_cons al_nil))))) a_nil)))))
    (ss_cons (s_ret (d_if (dt_val (d_call h_f_is_deed (hr.mono (by decide)) (L2N.takes_of rfl rfl rfl rfl) rfl rfl (a_cons (d_var 3 (pv 3)) a_nil) (al_cons al_nil))) (d_var 3 (pv 3)) d_non))
    ss_nil))))
set_option maxHeartbeats 4000000 in
theorem ok_f_check_text {fa : Addr} {fd : FuncData} (Ff : Fun K "check_text" "check_text" s_f_check_text fa fd) (hK : G.K = K) (T : Tx G K w mg) {a_M_BadText_init_ : Addr} {d_M_BadText_init_ : FuncData} (h_M_BadText_init_ : FnOk P w K mg base (L2N.CX P w) 1 a_M_BadText_init_ d_M_BadText_init_ ["self", "at"] (spX1 (G.CA 4) "at")) (b_M_BadText_init_ : Binds K d_M_BadText_init_ ["self", "at"] []) (i_M_BadText_init_ : PySem.W.findIn K (.ref (G.CA 4)) "__init__" = some (some (.ref a_M_BadText_init_))) (t_M_BadText_init_ : PySem.W.typeIn K (.ref a_M_BadText_init_) = some (.type "function")) : FnOk P w K mg base (L2N.CX P w) 3 fa fd ["thing"] (spD G 1 f_check_text) :=
  fn_mk (k := 2) Ff sc_f_check_text fun cdv A outer s H E hr =>
    (ss_cons (s_if (dt_not (dt_val (d_isi (u := .str) hK T.is (by decide) (by decide) rfl T.b_isinstance (d_var 0 (pv 0)) (pe_bltn (v := .ty "str") rfl T.b_str (by decide +kernel) rfl) (.ty _)))) (ss_cons (s_raise1 (c := 4) (fl := ("at" : Str)) (L2N.ps_raise rfl (L2N.takes_of rfl rfl rfl rfl) (pmk_oexN T.o_BadText i_M_BadText_init_ t_M_BadText_init_ h_M_BadText_init_ (hr.mono (by decide)) b_M_BadText_init_ (L2N.passes_call takes0N fun _ _ _ _ h => h) rfl T.g_BadText (pa_cons d_int pa_nil))))
    ss_nil) ss_nil)
    ss_nil)
set_option maxHeartbeats 4000000 in
theorem ok_f_read_history {fa : Addr} {fd : FuncData} (Ff : Fun K "read_history" "read_history" s_f_read_history fa fd) (hK : G.K = K) (T : Tx G K w mg) {a_M_BadText_init_ : Addr} {d_M_BadText_init_ : FuncData} (h_M_BadText_init_ : FnOk P w K mg base (L2N.CX P w) 1 a_M_BadText_init_ d_M_BadText_init_ ["self", "at"] (spX1 (G.CA 4) "at")) (b_M_BadText_init_ : Binds K d_M_BadText_init_ ["self", "at"] []) (i_M_BadText_init_ : PySem.W.findIn K (.ref (G.CA 4)) "__init__" = some (some (.ref a_M_BadText_init_))) (t_M_BadText_init_ : PySem.W.typeIn K (.ref a_M_BadText_init_) = some (.type "function")) (h_f_deed_in : Fn G P w K mg base "deed_in" 6 ["line"] f_deed_in) (h_f_number_of : Fn G P w K mg base "number_of" 1 ["word"] f_number_of) (h_f_check_text : Fn G P w K mg base "check_text" 3 ["thing"] f_check_text) : FnOk P w K mg base (L2N.CX P w) 7 fa fd ["text"] (spD G 1 f_read_history) :=
  fn_mk (k := 6) Ff sc_f_read_history fun cdv A outer s H E hr =>
    (ss_cons (s_expr (d_call h_f_check_text (hr.mono (by decide)) (L2N.takes_of rfl rfl rfl rfl) rfl rfl (a_cons (d_var 0 (pv 0)) a_nil) (al_cons al_nil)))
    (ss_cons (s_asg (vl := [1, 2]) (d_strM (pe_bm PySem.F.plainAttrs_str PySem.F.slot_str_split PySem.F.type_str_split m_split (d_var 0 (pv 0)) (a_cons d_str a_nil))) (g_star rfl (g_name (pg_name (i := 1) sc_f_read_history.nd rfl (.inl rfl)) (by decide)) (g_name (pg_name (i := 2) sc_f_read_history.nd rfl (.inl rfl)) (by decide))))
    (ss_cons (s_set (ps_set (i := 3) sc_f_read_history.nd rfl (.inl rfl) (d_call h_f_number_of (hr.mono (by decide)) (L2N.takes_of rfl rfl rfl rfl) rfl rfl (a_cons (d_var 1 (pv 1)) a_nil) (al_cons al_nil))))
    (ss_cons (s_if (dt_cmp o_isN (d_var 3 (pv 3)) d_non (nomark _)) (ss_cons (s_raise1 (c := 4) (fl := ("at" : Str)) (L2N.ps_raise rfl (L2N.takes_of rfl rfl rfl rfl) (pmk_oexN T.o_BadText i_M_BadText_init_ t_M_BadText_init_ h_M_BadText_init_ (hr.mono (by decide)) b_M_BadText_init_ (L2N.passes_call takes0N fun _ _ _ _ h => h) rfl T.g_BadText (pa_cons d_int pa_nil))))
    ss_nil) ss_nil)
    (ss_cons (s_setLcS (i := 4) (own := [(("line" : Str), 5)]) rfl sc_f_read_history.nd rfl rfl (sw_true rfl rfl rfl (by decide +kernel)) (i_any hK (d_var 2 (pv 2))) (blkOk_by (N := N_f_read_history) (sc := defScope s_f_read_history) (by decide +kernel)) (fun _ _ _ _ _ => (g_name (pg_name (i := 5) sc_f_read_history.nd rfl (.inl rfl)) (by decide))) (fun _ _ _ _ _ => pts_yes) (fun _ _ _ _ _ => (d_call h_f_deed_in (hr.mono (by decide)) takes0N rfl rfl (a_cons (d_var 5 (pv 5)) a_nil) (al_cons al_nil))))
    (ss_cons (s_forEnumS (vl := [6, 7]) (passes_of rfl) rfl (pi_enum rfl T.b_enumerate (a_cons (d_var 4 (pv 4)) a_nil)) (g_tup (n := 2) rfl hK (gs_cons (g_name (pg_name (i := 6) sc_f_read_history.nd rfl (.inl rfl)) (by decide)) (gs_cons (g_name (pg_name (i := 7) sc_f_read_history.nd rfl (.inl rfl)) (by decide)) gs_nil))) (ss_cons (s_if (dt_cmp o_isN (d_var 7 (pv 7)) d_non (nomark _)) (ss_cons (s_raise1 (c := 4) (fl := ("at" : Str)) (L2N.ps_raise rfl (L2N.takes_of rfl rfl rfl rfl) (pmk_oexN T.o_BadText i_M_BadText_init_ t_M_BadText_init_ h_M_BadText_init_ (hr.mono (by decide)) b_M_BadText_init_ (L2N.passes_call takes0N fun _ _ _ _ h => h) rfl T.g_BadText (pa_cons (d_op (o_addE hK) (d_var 6 (pv 6)) d_int) pa_nil))))
    ss_nil) ss_nil)
    ss_nil))
    (ss_cons (s_ret (d_tup (a_cons (d_var 3 (pv 3)) (a_cons (d_var 4 (pv 4)) a_nil))))
    ss_nil)))))))
set_option maxHeartbeats 4000000 in
theorem ok_f_read_deed {fa : Addr} {fd : FuncData} (Ff : Fun K "read_deed" "read_deed" s_f_read_deed fa fd) (hK : G.K = K) (T : Tx G K w mg) {a_M_BadText_init_ : Addr} {d_M_BadText_init_ : FuncData} (h_M_BadText_init_ : FnOk P w K mg base (L2N.CX P w) 1 a_M_BadText_init_ d_M_BadText_init_ ["self", "at"] (spX1 (G.CA 4) "at")) (b_M_BadText_init_ : Binds K d_M_BadText_init_ ["self", "at"] []) (i_M_BadText_init_ : PySem.W.findIn K (.ref (G.CA 4)) "__init__" = some (some (.ref a_M_BadText_init_))) (t_M_BadText_init_ : PySem.W.typeIn K (.ref a_M_BadText_init_) = some (.type "function")) (h_f_deed_in : Fn G P w K mg base "deed_in" 6 ["line"] f_deed_in) (h_f_check_text : Fn G P w K mg base "check_text" 3 ["thing"] f_check_text) : FnOk P w K mg base (L2N.CX P w) 7 fa fd ["text"] (spD G 1 f_read_deed) :=
  fn_mk (k := 6) Ff sc_f_read_deed fun cdv A outer s H E hr =>
    (ss_cons (s_expr (d_call h_f_check_text (hr.mono (by decide)) (L2N.takes_of rfl rfl rfl rfl) rfl rfl (a_cons (d_var 0 (pv 0)) a_nil) (al_cons al_nil)))
    (ss_cons (s_set (ps_set (i := 1) sc_f_read_deed.nd rfl (.inl rfl) (d_call h_f_deed_in (hr.mono (by decide)) (L2N.takes_of rfl rfl rfl rfl) rfl rfl (a_cons (d_var 0 (pv 0)) a_nil) (al_cons al_nil))))
    (ss_cons (s_if (dt_cmp o_isN (d_var 1 (pv 1)) d_non (nomark _)) (ss_cons (s_raise1 (c := 4) (fl := ("at" : Str)) (L2N.ps_raise rfl (L2N.takes_of rfl rfl rfl rfl) (pmk_oexN T.o_BadText i_M_BadText_init_ t_M_BadText_init_ h_M_BadText_init_ (hr.mono (by decide)) b_M_BadText_init_ (L2N.passes_call takes0N fun _ _ _ _ h => h) rfl T.g_BadText (pa_cons d_int pa_nil))))
    ss_nil) ss_nil)
    (ss_cons (s_ret (d_var 1 (pv 1)))
    ss_nil))))
set_option maxHeartbeats 4000000 in
theorem ok_f_entry_text {fa : Addr} {fd : FuncData} (Ff : Fun K "entry_text" "entry_text" s_f_entry_text fa fd) (hK : G.K = K) (T : Tx G K w mg)  : FnOk P w K mg base (L2N.CX P w) 1 fa fd ["sort", "thing"] (spD G 2 f_entry_text) :=
  fn_mk (k := 0) Ff sc_f_entry_text fun cdv A outer s H E hr =>
    (ss_cons (s_if (PW.pt (dw_and (dt_cmp (o_eqE hK hr.units) (d_var 0 (pv 0)) (d_glob T.c_LEADER rfl) (nomark _)) (dw_and1 (dt_cmp o_isN (d_var 1 (pv 1)) d_non (nomark _))))) (ss_cons (s_ret (d_glob T.c_NO_LEADER rfl))
    ss_nil) ss_nil)
    (ss_cons (s_if (dt_cmp (o_eqE hK hr.units) (d_var 0 (pv 0)) (d_glob T.c_GHOST_LIST rfl) (nomark _)) (ss_cons (s_ret (d_if (dt_cmp (o_neE hK hr.units) (d_var 1 (pv 1)) (d_tup a_nil) (nomark _)) (d_strM (pe_bm PySem.F.plainAttrs_str PySem.F.slot_str_join PySem.F.type_str_join (m_join hK) d_str (a_cons (d_lc (own := [(("number" : Str), 2)]) rfl sc_f_entry_text.nd (i_any hK (d_var 1 (pv 1))) (blkOk_by (N := N_f_entry_text) (sc := defScope s_f_entry_text) (by decide +kernel)) (fun _ _ _ _ _ => (g_name (pg_name (i := 2) sc_f_entry_text.nd rfl (.inl rfl)) (by decide))) (fun _ _ _ _ _ => pts_yes) (fun _ _ _ _ _ => (d_callTy c_strE rfl T.b_str (by decide +kernel) (a_cons (d_var 2 (pv 2)) a_nil)))) a_nil))) (d_glob T.c_NO_GHOSTS rfl)))
    ss_nil) ss_nil)
    (ss_cons (s_ret (d_callTy c_strE rfl T.b_str (by decide +kernel) (a_cons (d_var 1 (pv 1)) a_nil)))
    ss_nil)))
set_option maxHeartbeats 4000000 in
theorem ok_f_deed_line {fa : Addr} {fd : FuncData} (Ff : Fun K "deed_line" "deed_line" s_f_deed_line fa fd) (hK : G.K = K) (T : Tx G K w mg) (h_f_entry_text : Fn G P w K mg base "entry_text" 1 ["sort", "thing"] f_entry_text) : FnOk P w K mg base (L2N.CX P w) 2 fa fd ["deed"] (spD G 1 f_deed_line) :=
  fn_mk (k := 1) Ff sc_f_deed_line fun cdv A outer s H E hr =>
    (ss_cons (s_set (ps_set (i := 1) sc_f_deed_line.nd rfl (.inl rfl) (d_ixW T.w_ENTRIES rfl (d_ix hK (d_var 0 (pv 0)) d_int))))
    (ss_cons (s_ret (d_strM (pe_bm PySem.F.plainAttrs_str PySem.F.slot_str_join PySem.F.type_str_join (m_join hK) d_str (a_cons (d_lst (a_cons (d_ix hK (d_var 0 (pv 0)) d_int) (a_star hK (d_lc (own := [(("sort" : Str), 2), (("part" : Str), 3)]) rfl sc_f_deed_line.nd (i_zipT hK (TokZ.pi_zipM rfl T.b_zip (a_cons (d_var 1 (pv 1)) (a_cons (d_slice hK (d_var 0 (pv 0)) (o_some d_int) o_none) a_nil)))) (blkOk_by (N := N_f_deed_line) (sc := defScope s_f_deed_line) (by decide +kernel)) (fun _ _ _ _ _ => (g_tup (n := 2) rfl hK (gs_cons (g_name (pg_name (i := 2) sc_f_deed_line.nd rfl (.inl rfl)) (by decide)) (gs_cons (g_name (pg_name (i := 3) sc_f_deed_line.nd rfl (.inl rfl)) (by decide)) gs_nil)))) (fun _ _ _ _ _ => pts_yes) (fun _ _ _ _ _ => (d_call h_f_entry_text (hr.mono (by decide)) takes0N rfl rfl (a_cons (d_var 2 (pv 2)) (a_cons (d_var 3 (pv 3)) a_nil)) (al_cons (al_cons al_nil))))) a_nil))) a_nil))))
    ss_nil))
set_option maxHeartbeats 4000000 in
theorem ok_f_history_text {fa : Addr} {fd : FuncData} (Ff : Fun K "history_text" "history_text" s_f_history_text fa fd) (hK : G.K = K) (T : Tx G K w mg) (h_f_deed_line : Fn G P w K mg base "deed_line" 2 ["deed"] f_deed_line) : FnOk P w K mg base (L2N.CX P w) 3 fa fd ["history"] (spD G 1 f_history_text) :=
  fn_mk (k := 2) Ff sc_f_history_text fun cdv A outer s H E hr =>
    (ss_cons (s_ret (d_strM (pe_bm PySem.F.plainAttrs_str PySem.F.slot_str_join PySem.F.type_str_join (m_join hK) d_str (a_cons (d_lst (a_cons (d_callTy c_strE rfl T.b_str (by decide +kernel) (a_cons (d_ix hK (d_var 0 (pv 0)) d_int) a_nil)) (a_star hK (d_lc (own := [(("deed" : Str), 1)]) rfl sc_f_history_text.nd (i_any hK (d_ix hK (d_var 0 (pv 0)) d_int)) (blkOk_by (N := N_f_history_text) (sc := defScope s_f_history_text) (by decide +kernel)) (fun _ _ _ _ _ => (g_name (pg_name (i := 1) sc_f_history_text.nd rfl (.inl rfl)) (by decide))) (fun _ _ _ _ _ => pts_yes) (fun _ _ _ _ _ => (d_call h_f_deed_line (hr.mono (by decide)) takes0N rfl rfl (a_cons (d_var 1 (pv 1)) a_nil) (al_cons al_nil)))) a_nil))) a_nil))))
    ss_nil)
set_option maxHeartbeats 4000000 in
theorem ok_f_is_history_form {fa : Addr} {fd : FuncData} (Ff : Fun K "is_history_form" "is_history_form" s_f_is_history_form fa fd) (hK : G.K = K) (T : Tx G K w mg) (h_f_is_deed : Fn G P w K mg base "is_deed" 5 ["thing"] f_is_deed) (h_f_is_from : Fn G P w K mg base "is_from" 2 ["low", "thing"] f_is_from) : FnOk P w K mg base (L2N.CX P w) 6 fa fd ["thing"] (spD G 1 f_is_history_form) :=
  fn_mk (k := 5) Ff sc_f_is_history_form fun cdv A outer s H E hr =>
    (ss_cons (s_if (PW.pt (dw_or (dt_not (dt_val (d_isi (u := .tup) hK T.is (by decide) (by decide) rfl T.b_isinstance (d_var 0 (pv 0)) (pe_bltn (v := .ty "tuple") rfl T.b_tuple (by decide +kernel) rfl) (.ty _)))) (dw_or (dt_cmp (o_neE hK hr.units) (d_callB (c_len hK) rfl T.b_len (by decide +kernel) (a_cons (d_var 0 (pv 0)) a_nil)) d_int (nomark _)) (dw_or1 (dt_not (dt_val (d_call h_f_is_from (hr.mono (by decide)) (L2N.takes_of rfl rfl rfl rfl) rfl rfl (a_cons d_int (a_cons (d_ix hK (d_var 0 (pv 0)) d_int) a_nil)) (al_cons (al_cons al_nil))))))))) (ss_cons (s_ret d_bl)
    ss_nil) ss_nil)
    (ss_cons (s_ret (d_and (d_isi (u := .lst) hK T.is (by decide) (by decide) rfl T.b_isinstance (d_ix hK (d_var 0 (pv 0)) d_int) (pe_bltn (v := .ty "list") rfl T.b_list (by decide +kernel) rfl) (.ty _)) (d_one (d_callB (c_all rfl) rfl T.b_all (by decide +kernel) (a_cons (d_lc (own := [(("deed" : Str), 1)]) rfl sc_f_is_history_form.nd (i_any hK (d_ix hK (d_var 0 (pv 0)) d_int)) (blkOk_by (N := N_f_is_history_form) (sc := defScope s_f_is_history_form) (by decide +kernel)) (fun _ _ _ _ _ => (g_name (pg_name (i := 1) sc_f_is_history_form.nd rfl (.inl rfl)) (by decide))) (fun _ _ _ _ _ => pts_yes) (fun _ _ _ _ _ => (d_call h_f_is_deed (hr.mono (by decide)) takes0N rfl rfl (a_cons (d_var 1 (pv 1)) a_nil) (al_cons al_nil)))) a_nil)))))
    ss_nil))
set_option maxHeartbeats 4000000 in
theorem ok_f_show_history {fa : Addr} {fd : FuncData} (Ff : Fun K "show_history" "show_history" s_f_show_history fa fd) (hK : G.K = K) (T : Tx G K w mg) (h_f_history_text : Fn G P w K mg base "history_text" 3 ["history"] f_history_text) (h_f_is_history_form : Fn G P w K mg base "is_history_form" 6 ["thing"] f_is_history_form) : FnOk P w K mg base (L2N.CX P w) 7 fa fd ["history"] (spD G 1 f_show_history) :=
  fn_mk (k := 6) Ff sc_f_show_history fun cdv A outer s H E hr =>
    (ss_cons (s_if (dt_not (dt_val (d_call h_f_is_history_form (hr.mono (by decide)) (L2N.takes_of rfl rfl rfl rfl) rfl rfl (a_cons (d_var 0 (pv 0)) a_nil) (al_cons al_nil)))) (ss_cons (s_raise (c := 3) (L2N.ps_raise rfl (L2N.takes_of rfl rfl rfl rfl) (L2N.pmk_own PySem.F.excBase_ValueError T.x_BadHistory T.g_BadHistory T.kp_BadHistory (raises_own T.eb_BadHistory T.et_BadHistory) (by rfl))))
    ss_nil) ss_nil)
    (ss_cons (s_ret (d_call h_f_history_text (hr.mono (by decide)) (L2N.takes_of rfl rfl rfl rfl) rfl rfl (a_cons (d_var 0 (pv 0)) a_nil) (al_cons al_nil)))
    ss_nil))
set_option maxHeartbeats 4000000 in
theorem ok_f_show_deed {fa : Addr} {fd : FuncData} (Ff : Fun K "show_deed" "show_deed" s_f_show_deed fa fd) (hK : G.K = K) (T : Tx G K w mg) (h_f_deed_line : Fn G P w K mg base "deed_line" 2 ["deed"] f_deed_line) (h_f_is_deed : Fn G P w K mg base "is_deed" 5 ["thing"] f_is_deed) : FnOk P w K mg base (L2N.CX P w) 6 fa fd ["deed"] (spD G 1 f_show_deed) :=
  fn_mk (k := 5) Ff sc_f_show_deed fun cdv A outer s H E hr =>
    (ss_cons (s_if (dt_not (dt_val (d_call h_f_is_deed (hr.mono (by decide)) (L2N.takes_of rfl rfl rfl rfl) rfl rfl (a_cons (d_var 0 (pv 0)) a_nil) (al_cons al_nil)))) (ss_cons (s_raise (c := 2) (L2N.ps_raise rfl (L2N.takes_of rfl rfl rfl rfl) (L2N.pmk_own PySem.F.excBase_ValueError T.x_BadDeed T.g_BadDeed T.kp_BadDeed (raises_own T.eb_BadDeed T.et_BadDeed) (by rfl))))
    ss_nil) ss_nil)
    (ss_cons (s_ret (d_call h_f_deed_line (hr.mono (by decide)) (L2N.takes_of rfl rfl rfl rfl) rfl rfl (a_cons (d_var 0 (pv 0)) a_nil) (al_cons al_nil)))
    ss_nil))
set_option maxHeartbeats 4000000 in
theorem ok_f_law_asked {fa : Addr} {fd : FuncData} (Ff : Fun K "_law_asked" "_law_asked" s_f_law_asked fa fd) (hK : G.K = K) (T : Tx G K w mg) (h_f_read_history : Fn G P w K mg base "read_history" 7 ["text"] f_read_history) (h_f_read_deed : Fn G P w K mg base "read_deed" 7 ["text"] f_read_deed) (h_f_show_history : Fn G P w K mg base "show_history" 7 ["history"] f_show_history) (h_f_show_deed : Fn G P w K mg base "show_deed" 6 ["deed"] f_show_deed) (kw_f_read_deed : FnK G P w K mg base "read_deed" 7 ["text"] f_read_deed) (kw_f_read_history : FnK G P w K mg base "read_history" 7 ["text"] f_read_history) (kw_f_show_deed : FnK G P w K mg base "show_deed" 6 ["deed"] f_show_deed) (kw_f_show_history : FnK G P w K mg base "show_history" 7 ["history"] f_show_history) : FnOk P w K mg base (L2N.CX P w) 8 fa fd ["way", "thing"] (spD G 2 f_law_asked) :=
  fn_mk (k := 7) Ff sc_f_law_asked fun cdv A outer s H E hr =>
    (ss_cons (s_if (dt_cmp (o_eqE hK hr.units) (d_var 0 (pv 0)) d_int (nomark _)) (ss_cons (s_ret (d_call h_f_show_deed (hr.mono (by decide)) (L2N.takes_of rfl rfl rfl rfl) rfl rfl (a_cons (d_var 1 (pv 1)) a_nil) (al_cons al_nil)))
    ss_nil) ss_nil)
    (ss_cons (s_if (dt_cmp (o_eqE hK hr.units) (d_var 0 (pv 0)) d_int (nomark _)) (ss_cons (s_ret (d_callKw kw_f_show_deed (hr.mono (by decide)) (L2N.takes_of rfl rfl rfl rfl) rfl (kw_cons (d_var 1 (pv 1)) kw_nil) (al_cons al_nil)))
    ss_nil) ss_nil)
    (ss_cons (s_if (dt_cmp (o_eqE hK hr.units) (d_var 0 (pv 0)) d_int (nomark _)) (ss_cons (s_ret (d_call h_f_show_history (hr.mono (by decide)) (L2N.takes_of rfl rfl rfl rfl) rfl rfl (a_cons (d_var 1 (pv 1)) a_nil) (al_cons al_nil)))
    ss_nil) ss_nil)
    (ss_cons (s_if (dt_cmp (o_eqE hK hr.units) (d_var 0 (pv 0)) d_int (nomark _)) (ss_cons (s_ret (d_callKw kw_f_show_history (hr.mono (by decide)) (L2N.takes_of rfl rfl rfl rfl) rfl (kw_cons (d_var 1 (pv 1)) kw_nil) (al_cons al_nil)))
    ss_nil) ss_nil)
    (ss_cons (s_if (dt_cmp (o_eqE hK hr.units) (d_var 0 (pv 0)) d_int (nomark _)) (ss_cons (s_ret (d_call h_f_read_deed (hr.mono (by decide)) (L2N.takes_of rfl rfl rfl rfl) rfl rfl (a_cons (d_var 1 (pv 1)) a_nil) (al_cons al_nil)))
    ss_nil) ss_nil)
    (ss_cons (s_if (dt_cmp (o_eqE hK hr.units) (d_var 0 (pv 0)) d_int (nomark _)) (ss_cons (s_ret (d_callKw kw_f_read_deed (hr.mono (by decide)) (L2N.takes_of rfl rfl rfl rfl) rfl (kw_cons (d_var 1 (pv 1)) kw_nil) (al_cons al_nil)))
    ss_nil) ss_nil)
    (ss_cons (s_ret (d_if (dt_cmp (o_eqE hK hr.units) (d_var 0 (pv 0)) d_int (nomark _)) (d_call h_f_read_history (hr.mono (by decide)) (L2N.takes_of rfl rfl rfl rfl) rfl rfl (a_cons (d_var 1 (pv 1)) a_nil) (al_cons al_nil)) (d_callKw kw_f_read_history (hr.mono (by decide)) (L2N.takes_of rfl rfl rfl rfl) rfl (kw_cons (d_var 1 (pv 1)) kw_nil) (al_cons al_nil))))
    ss_nil)))))))
set_option maxHeartbeats 4000000 in
theorem ok_f_law_said {fa : Addr} {fd : FuncData} (Ff : Fun K "_law_said" "_law_said" s_f_law_said fa fd) (hK : G.K = K) (T : Tx G K w mg) (h_f_law_asked : Fn G P w K mg base "_law_asked" 8 ["way", "thing"] f_law_asked) : FnOk P w K mg base (L2N.CX P w) 9 fa fd ["way", "thing"] (spD G 2 f_law_said) :=
  fn_mk (k := 8) Ff sc_f_law_said fun cdv A outer s H E hr =>
    (ss_cons (s_asg (vl := [2, 3, 4]) (d_tup (a_cons d_non (a_cons d_non (a_cons d_bl a_nil)))) (g_tup (n := 3) rfl hK (gs_cons (g_name (pg_name (i := 2) sc_f_law_said.nd rfl (.inl rfl)) (by decide)) (gs_cons (g_name (pg_name (i := 3) sc_f_law_said.nd rfl (.inl rfl)) (by decide)) (gs_cons (g_name (pg_name (i := 4) sc_f_law_said.nd rfl (.inl rfl)) (by decide)) gs_nil)))))
    (ss_cons (s_tryN (zs := [⟨2, .con "deed", G.CA 0, [G.CA 3, G.CA 4, G.CA 1]⟩, ⟨3, .con "history", G.CA 0, [G.CA 2, G.CA 4, G.CA 1]⟩, ⟨4, .at "at" "at", G.CA 0, [G.CA 2, G.CA 3]⟩]) (by decide) (by decide) T.cz_0 (TokT.ps_tryEach (i := 5) (tb := fun W => tAsg (tE G W (dCall f_law_asked (aCons (dVar 0) (aCons (dVar 1) aNil)))) (gName 2)) (Wout := fun _ _ _ _ => False) rfl rfl sc_f_law_said.nd rfl rfl takes0N (fun W pn xe tk _ => pss_one (ps_set (i := 2) sc_f_law_said.nd rfl (.inl rfl) (d_call h_f_law_asked (hr.mono (by decide)) tk rfl rfl (a_cons (d_var 0 (pv 0)) (a_cons (d_var 1 (pv 1)) a_nil)) (al_cons (al_cons al_nil)))))
      (.cons ⟨rfl, by decide, Or.inl T.g_BadDeed⟩ (fun a oe cls d pn hz hf => pss_one (ps_parH (hotC_of hz hf) sc_f_law_said.nd rfl rfl (by decide) rfl rfl (pa_cons pe_str (pa_cons (pe_and (pe_callB (call_isX T.ex_BadDeed hz.zc hf) rfl T.b_isinstance (by decide +kernel) (pa_cons (pv 5) (pa_cons (pe_glob (v := .ref (G.CA 0)) rfl T.g_StoreError rfl) pa_nil))) (pe_one (pe_not (pe_callB (call_isX T.ex_BadDeed hz.zc hf) rfl T.b_isinstance (by decide +kernel) (pa_cons (pv 5) (pa_cons (pe_tup (pa_cons (pe_glob (v := .ref (G.CA 3)) rfl T.g_BadHistory rfl) (pa_cons (pe_glob (v := .ref (G.CA 4)) rfl T.g_BadText rfl) (pa_cons (pe_glob (v := .ref (G.CA 1)) rfl T.g_BadBook rfl) pa_nil)))) pa_nil)))))) pa_nil)) rfl))
      (.cons ⟨rfl, by decide, Or.inl T.g_BadHistory⟩ (fun a oe cls d pn hz hf => pss_one (ps_parH (hotC_of hz hf) sc_f_law_said.nd rfl rfl (by decide) rfl rfl (pa_cons pe_str (pa_cons (pe_and (pe_callB (call_isX T.ex_BadHistory hz.zc hf) rfl T.b_isinstance (by decide +kernel) (pa_cons (pv 5) (pa_cons (pe_glob (v := .ref (G.CA 0)) rfl T.g_StoreError rfl) pa_nil))) (pe_one (pe_not (pe_callB (call_isX T.ex_BadHistory hz.zc hf) rfl T.b_isinstance (by decide +kernel) (pa_cons (pv 5) (pa_cons (pe_tup (pa_cons (pe_glob (v := .ref (G.CA 2)) rfl T.g_BadDeed rfl) (pa_cons (pe_glob (v := .ref (G.CA 4)) rfl T.g_BadText rfl) (pa_cons (pe_glob (v := .ref (G.CA 1)) rfl T.g_BadBook rfl) pa_nil)))) pa_nil)))))) pa_nil)) rfl))
      (.cons ⟨rfl, by decide, Or.inl T.g_BadText⟩ (fun a oe cls d pn hz hf => pss_one (ps_parH (hotC_of hz hf) sc_f_law_said.nd rfl rfl (by decide) rfl rfl (pa_cons (pe_tup (pa_cons pe_str (pa_cons (pe_xf T.xf_BadText T.no_BadText_at hz.zc hf (pv 5)) pa_nil))) (pa_cons (pe_and (pe_callB (call_isX T.ex_BadText hz.zc hf) rfl T.b_isinstance (by decide +kernel) (pa_cons (pv 5) (pa_cons (pe_glob (v := .ref (G.CA 0)) rfl T.g_StoreError rfl) pa_nil))) (pe_one (pe_not (pe_callB (call_isX T.ex_BadText hz.zc hf) rfl T.b_isinstance (by decide +kernel) (pa_cons (pv 5) (pa_cons (pe_tup (pa_cons (pe_glob (v := .ref (G.CA 2)) rfl T.g_BadDeed rfl) (pa_cons (pe_glob (v := .ref (G.CA 3)) rfl T.g_BadHistory rfl) pa_nil))) pa_nil)))))) pa_nil)) rfl))
      .nil)))))
    (ss_cons (s_ret (d_if (dt_not (dt_val (d_var 4 (pv 4)))) d_str (d_if (dt_cmp o_isN (d_var 3 (pv 3)) d_non (nomark _)) (d_tup (a_cons d_str (a_cons (d_var 2 (pv 2)) a_nil))) (d_var 3 (pv 3)))))
    ss_nil)))
set_option maxHeartbeats 4000000 in
theorem ok_f_law_is_whole {fa : Addr} {fd : FuncData} (Ff : Fun K "_law_is_whole" "_law_is_whole" s_f_law_is_whole fa fd) (hK : G.K = K) (T : Tx G K w mg)  : FnOk P w K mg base (L2N.CX P w) 1 fa fd ["low", "thing"] (spD G 2 f_law_is_whole) :=
  fn_mk (k := 0) Ff sc_f_law_is_whole fun cdv A outer s H E hr =>
    (ss_cons (s_ret (d_and (d_isi (u := .int) hK T.is (by decide) (by decide) rfl T.b_isinstance (d_var 1 (pv 1)) (pe_bltn (v := .ty "int") rfl T.b_int (by decide +kernel) rfl) (.ty _)) (d_and (d_not (d_isi (u := .bl) hK T.is (by decide) (by decide) rfl T.b_isinstance (d_var 1 (pv 1)) (pe_bltn (v := .ty "bool") rfl T.b_bool (by decide +kernel) rfl) (.ty _))) (d_one (d_cmp o_ge (d_var 1 (pv 1)) (d_var 0 (pv 0)) (nomark _))))))
    ss_nil)
set_option maxHeartbeats 4000000 in
theorem ok_f_law_is_name {fa : Addr} {fd : FuncData} (Ff : Fun K "_law_is_name" "_law_is_name" s_f_law_is_name fa fd) (hK : G.K = K) (T : Tx G K w mg)  : FnOk P w K mg base (L2N.CX P w) 1 fa fd ["thing"] (spD G 1 f_law_is_name) :=
  fn_mk (k := 0) Ff sc_f_law_is_name fun cdv A outer s H E hr =>
    (ss_cons (s_set (ps_set (i := 1) sc_f_law_is_name.nd rfl (.inr rfl) d_str))
    (ss_cons (s_ret (d_and (d_isi (u := .str) hK T.is (by decide) (by decide) rfl T.b_isinstance (d_var 0 (pv 0)) (pe_bltn (v := .ty "str") rfl T.b_str (by decide +kernel) rfl) (.ty _)) (d_and (d_chain (pe_chain o_lt o_lt d_int (d_callB (c_len hK) rfl T.b_len (by decide +kernel) (a_cons (d_var 0 (pv 0)) a_nil)) d_int)) (d_one (d_cmp (o_eqE hK hr.units) (d_lc (own := [(("sign" : Str), 2)]) rfl sc_f_law_is_name.nd (i_str (d_var 0 (pv 0))) (blkOk_by (N := N_f_law_is_name) (sc := defScope s_f_law_is_name) (by decide +kernel)) (fun _ _ _ _ _ => (g_name (pg_name (i := 2) sc_f_law_is_name.nd rfl (.inl rfl)) (by decide))) (fun _ _ _ _ _ => (pts_one (dt_cmp (o_notIn hK) (d_var 2 (pv 2)) (d_var 1 (pv 1)) rfl))) (fun _ _ _ _ _ => (d_var 2 (pv 2)))) (d_lst a_nil) (nomark _))))))
    ss_nil))
set_option maxHeartbeats 4000000 in
theorem ok_f_law_entry_good {fa : Addr} {fd : FuncData} (Ff : Fun K "_law_entry_good" "_law_entry_good" s_f_law_entry_good fa fd) (hK : G.K = K) (T : Tx G K w mg) (h_f_law_is_whole : Fn G P w K mg base "_law_is_whole" 1 ["low", "thing"] f_law_is_whole) (h_f_law_is_name : Fn G P w K mg base "_law_is_name" 1 ["thing"] f_law_is_name) : FnOk P w K mg base (L2N.CX P w) 2 fa fd ["sort", "thing"] (spD G 2 f_law_entry_good) :=
  fn_mk (k := 1) Ff sc_f_law_entry_good fun cdv A outer s H E hr =>
    (ss_cons (s_if (dt_cmp (o_eqE hK hr.units) (d_var 0 (pv 0)) d_str (nomark _)) (ss_cons (s_ret (d_call h_f_law_is_name (hr.mono (by decide)) (L2N.takes_of rfl rfl rfl rfl) rfl rfl (a_cons (d_var 1 (pv 1)) a_nil) (al_cons al_nil)))
    ss_nil) ss_nil)
    (ss_cons (s_if (dt_cmp (o_eqE hK hr.units) (d_var 0 (pv 0)) d_str (nomark _)) (ss_cons (s_ret (d_or (d_cmp o_isN (d_var 1 (pv 1)) d_non (nomark _)) (d_one (d_call h_f_law_is_whole (hr.mono (by decide)) (L2N.takes_of rfl rfl rfl rfl) rfl rfl (a_cons d_int (a_cons (d_var 1 (pv 1)) a_nil)) (al_cons (al_cons al_nil))))))
    ss_nil) ss_nil)
    (ss_cons (s_if (dt_cmp (o_eqE hK hr.units) (d_var 0 (pv 0)) d_str (nomark _)) (ss_cons (s_ret (d_call h_f_law_is_whole (hr.mono (by decide)) (L2N.takes_of rfl rfl rfl rfl) rfl rfl (a_cons d_int (a_cons (d_var 1 (pv 1)) a_nil)) (al_cons (al_cons al_nil))))
    ss_nil) ss_nil)
    (ss_cons (s_if (PW.pt (dw_or (dt_not (dt_val (d_isi (u := .tup) hK T.is (by decide) (by decide) rfl T.b_isinstance (d_var 1 (pv 1)) (pe_bltn (v := .ty "tuple") rfl T.b_tuple (by decide +kernel) rfl) (.ty _)))) (dw_or1 (dt_cmp (o_neE hK hr.units) (d_lc (own := [(("one" : Str), 2)]) rfl sc_f_law_entry_good.nd (i_any hK (d_var 1 (pv 1))) (blkOk_by (N := N_f_law_entry_good) (sc := defScope s_f_law_entry_good) (by decide +kernel)) (fun _ _ _ _ _ => (g_name (pg_name (i := 2) sc_f_law_entry_good.nd rfl (.inl rfl)) (by decide))) (fun _ _ _ _ _ => (pts_one (dt_not (dt_val (d_call h_f_law_is_whole (hr.mono (by decide)) takes0N rfl rfl (a_cons d_int (a_cons (d_var 2 (pv 2)) a_nil)) (al_cons (al_cons al_nil))))))) (fun _ _ _ _ _ => (d_var 2 (pv 2)))) (d_lst a_nil) (nomark _))))) (ss_cons (s_ret d_bl)
    ss_nil) ss_nil)
    (ss_cons (s_ret (d_cmp (o_eqE hK hr.units) (d_lc (own := [(("k" : Str), 3)]) rfl sc_f_law_entry_good.nd (i_range2 (pi_range2 rfl T.b_range (a_cons d_int (a_cons (d_callB (c_len hK) rfl T.b_len (by decide +kernel) (a_cons (d_var 1 (pv 1)) a_nil)) a_nil)))) (blkOk_by (N := N_f_law_entry_good) (sc := defScope s_f_law_entry_good) (by decide +kernel)) (fun _ _ _ _ _ => (g_name (pg_name (i := 3) sc_f_law_entry_good.nd rfl (.inl rfl)) (by decide))) (fun _ _ _ _ _ => (pts_one (dt_cmp o_ge (d_ix hK (d_var 1 (pv 1)) (d_op o_sub (d_var 3 (pv 3)) d_int)) (d_ix hK (d_var 1 (pv 1)) (d_var 3 (pv 3))) (nomark _)))) (fun _ _ _ _ _ => (d_var 3 (pv 3)))) (d_lst a_nil) (nomark _)))
    ss_nil)))))
set_option maxHeartbeats 4000000 in
theorem ok_f_law_sorts {fa : Addr} {fd : FuncData} (Ff : Fun K "_law_sorts" "_law_sorts" s_f_law_sorts fa fd) (hK : G.K = K) (T : Tx G K w mg)  : FnOk P w K mg base (L2N.CX P w) 1 fa fd ["word"] (spD G 1 f_law_sorts) :=
  fn_mk (k := 0) Ff sc_f_law_sorts fun cdv A outer s H E hr =>
    (ss_cons (s_if (dt_cmp (o_in hK) (d_var 0 (pv 0)) (d_tup (a_cons d_str (a_cons d_str (a_cons d_str (a_cons d_str a_nil))))) rfl) (ss_cons (s_ret (d_tup (a_cons d_str a_nil)))
    ss_nil) ss_nil)
    (ss_cons (s_if (dt_cmp (o_in hK) (d_var 0 (pv 0)) (d_tup (a_cons d_str (a_cons d_str (a_cons d_str a_nil)))) rfl) (ss_cons (s_ret (d_tup (a_cons d_str (a_cons d_str a_nil))))
    ss_nil) ss_nil)
    (ss_cons (s_if (dt_cmp (o_eqE hK hr.units) (d_var 0 (pv 0)) d_str (nomark _)) (ss_cons (s_ret (d_tup (a_cons d_str a_nil)))
    ss_nil) ss_nil)
    (ss_cons (s_if (dt_cmp (o_eqE hK hr.units) (d_var 0 (pv 0)) d_str (nomark _)) (ss_cons (s_ret (d_tup (a_cons d_str (a_cons d_str a_nil))))
    ss_nil) ss_nil)
    (ss_cons (s_if (dt_cmp (o_eqE hK hr.units) (d_var 0 (pv 0)) d_str (nomark _)) (ss_cons (s_ret (d_tup (a_cons d_str (a_cons d_str a_nil))))
    ss_nil) ss_nil)
    (ss_cons (s_ret (d_if (dt_cmp (o_eqE hK hr.units) (d_var 0 (pv 0)) d_str (nomark _)) (d_tup (a_cons d_str (a_cons d_str (a_cons d_str (a_cons d_str a_nil))))) (d_tup a_nil)))
    ss_nil))))))
set_option maxHeartbeats 4000000 in
theorem ok_f_law_deed_words {fa : Addr} {fd : FuncData} (Ff : Fun K "_law_deed_words" "_law_deed_words" s_f_law_deed_words fa fd) (hK : G.K = K) (T : Tx G K w mg)  : FnOk P w K mg base (L2N.CX P w) 1 fa fd [] (spD G 0 f_law_deed_words) :=
  fn_mk (k := 0) Ff sc_f_law_deed_words fun cdv A outer s H E hr =>
    (ss_cons (s_set (ps_set (i := 0) sc_f_law_deed_words.nd rfl (.inl rfl) (d_lst (a_cons d_str (a_cons d_str (a_cons d_str (a_cons d_str (a_cons d_str (a_cons d_str a_nil)))))))))
    (ss_cons (s_ret (d_op (o_addE hK) (d_var 0 (pv 0)) (d_lst (a_cons d_str (a_cons d_str (a_cons d_str (a_cons d_str (a_cons d_str (a_cons d_str a_nil)))))))))
    ss_nil))
set_option maxHeartbeats 4000000 in
theorem ok_f_law_deed_good {fa : Addr} {fd : FuncData} (Ff : Fun K "_law_deed_good" "_law_deed_good" s_f_law_deed_good fa fd) (hK : G.K = K) (T : Tx G K w mg) (h_f_law_entry_good : Fn G P w K mg base "_law_entry_good" 2 ["sort", "thing"] f_law_entry_good) (h_f_law_sorts : Fn G P w K mg base "_law_sorts" 1 ["word"] f_law_sorts) (h_f_law_deed_words : Fn G P w K mg base "_law_deed_words" 1 [] f_law_deed_words) : FnOk P w K mg base (L2N.CX P w) 3 fa fd ["thing"] (spD G 1 f_law_deed_good) :=
  fn_mk (k := 2) Ff sc_f_law_deed_good fun cdv A outer s H E hr =>
    (ss_cons (s_if (PW.pt (dw_or (dt_not (dt_val (d_isi (u := .tup) hK T.is (by decide) (by decide) rfl T.b_isinstance (d_var 0 (pv 0)) (pe_bltn (v := .ty "tuple") rfl T.b_tuple (by decide +kernel) rfl) (.ty _)))) (dw_or (dt_cmp (o_eqE hK hr.units) (d_var 0 (pv 0)) (d_tup a_nil) (nomark _)) (dw_or1 (dt_not (dt_val (d_isi (u := .str) hK T.is (by decide) (by decide) rfl T.b_isinstance (d_ix hK (d_var 0 (pv 0)) d_int) (pe_bltn (v := .ty "str") rfl T.b_str (by decide +kernel) rfl) (.ty _)))))))) (ss_cons (s_ret d_bl)
    ss_nil) ss_nil)
    (ss_cons (s_if (dt_cmp (o_notIn hK) (d_ix hK (d_var 0 (pv 0)) d_int) (d_call0 h_f_law_deed_words (hr.mono (by decide)) (L2N.takes_of rfl rfl rfl rfl) noSlE rfl) rfl) (ss_cons (s_ret d_bl)
    ss_nil) ss_nil)
    (ss_cons (s_set (ps_set (i := 1) sc_f_law_deed_good.nd rfl (.inr rfl) (d_call h_f_law_sorts (hr.mono (by decide)) (L2N.takes_of rfl rfl rfl rfl) rfl rfl (a_cons (d_ix hK (d_var 0 (pv 0)) d_int) a_nil) (al_cons al_nil))))
    (ss_cons (s_if (dt_cmp (o_neE hK hr.units) (d_callB (c_len hK) rfl T.b_len (by decide +kernel) (a_cons (d_var 0 (pv 0)) a_nil)) (d_op (o_addE hK) d_int (d_callB (c_len hK) rfl T.b_len (by decide +kernel) (a_cons (d_var 1 (pv 1)) a_nil))) (nomark _)) (ss_cons (s_ret d_bl)
    ss_nil) ss_nil)
    (ss_cons (s_ret (d_cmp (o_eqE hK hr.units) (d_lc (own := [(("k" : Str), 2)]) rfl sc_f_law_deed_good.nd (i_range1 (pi_range1 rfl T.b_range (a_cons (d_callB (c_len hK) rfl T.b_len (by decide +kernel) (a_cons (d_var 1 (pv 1)) a_nil)) a_nil))) (blkOk_by (N := N_f_law_deed_good) (sc := defScope s_f_law_deed_good) (by decide +kernel)) (fun _ _ _ _ _ => (g_name (pg_name (i := 2) sc_f_law_deed_good.nd rfl (.inl rfl)) (by decide))) (fun _ _ _ _ _ => (pts_one (dt_not (dt_val (d_call h_f_law_entry_good (hr.mono (by decide)) takes0N rfl rfl (a_cons (d_ix hK (d_var 1 (pv 1)) (d_var 2 (pv 2))) (a_cons (d_ix hK (d_var 0 (pv 0)) (d_op (o_addE hK) (d_var 2 (pv 2)) d_int)) a_nil)) (al_cons (al_cons al_nil))))))) (fun _ _ _ _ _ => (d_var 2 (pv 2)))) (d_lst a_nil) (nomark _)))
    ss_nil)))))
set_option maxHeartbeats 4000000 in
theorem ok_f_law_number_of {fa : Addr} {fd : FuncData} (Ff : Fun K "_law_number_of" "_law_number_of" s_f_law_number_of fa fd) (hK : G.K = K) (T : Tx G K w mg)  : FnOk P w K mg base (L2N.CX P w) 1 fa fd ["word"] (spD G 1 f_law_number_of) :=
  fn_mk (k := 0) Ff sc_f_law_number_of fun cdv A outer s H E hr =>
    (ss_cons (s_if (PW.pt (dw_or (dt_cmp (o_eqE hK hr.units) (d_var 0 (pv 0)) d_str (nomark _)) (dw_or (dt_cmp o_gt (d_callB (c_len hK) rfl T.b_len (by decide +kernel) (a_cons (d_var 0 (pv 0)) a_nil)) d_int (nomark _)) (dw_or1 (dt_cmp (o_neE hK hr.units) (d_lc (own := [(("sign" : Str), 1)]) rfl sc_f_law_number_of.nd (i_str (d_var 0 (pv 0))) (blkOk_by (N := N_f_law_number_of) (sc := defScope s_f_law_number_of) (by decide +kernel)) (fun _ _ _ _ _ => (g_name (pg_name (i := 1) sc_f_law_number_of.nd rfl (.inl rfl)) (by decide))) (fun _ _ _ _ _ => (pts_one (dt_cmp (o_notIn hK) (d_var 1 (pv 1)) d_str rfl))) (fun _ _ _ _ _ => (d_var 1 (pv 1)))) (d_lst a_nil) (nomark _)))))) (ss_cons (s_ret d_non)
    ss_nil) ss_nil)
    (ss_cons (s_ret (d_if (PW.pt (dw_or (dt_cmp (o_eqE hK hr.units) (d_var 0 (pv 0)) d_str (nomark _)) (dw_or1 (dt_cmp (o_neE hK hr.units) (d_ix hK (d_var 0 (pv 0)) d_int) d_str (nomark _))))) (d_callTy c_int rfl T.b_int (by decide +kernel) (a_cons (d_var 0 (pv 0)) a_nil)) d_non))
    ss_nil))
set_option maxHeartbeats 4000000 in
theorem ok_f_law_line_deed {fa : Addr} {fd : FuncData} (Ff : Fun K "_law_line_deed" "_law_line_deed" s_f_law_line_deed fa fd) (hK : G.K = K) (T : Tx G K w mg) (h_f_law_deed_good : Fn G P w K mg base "_law_deed_good" 3 ["thing"] f_law_deed_good) (h_f_law_number_of : Fn G P w K mg base "_law_number_of" 1 ["word"] f_law_number_of) (h_f_law_sorts : Fn G P w K mg base "_law_sorts" 1 ["word"] f_law_sorts) (h_f_law_deed_words : Fn G P w K mg base "_law_deed_words" 1 [] f_law_deed_words) : FnOk P w K mg base (L2N.CX P w) 4 fa fd ["line_here"] (spD G 1 f_law_line_deed) :=
  fn_mk (k := 3) Ff sc_f_law_line_deed fun cdv A outer s H E hr =>
    (ss_cons (s_set (ps_set (i := 1) sc_f_law_line_deed.nd rfl (.inl rfl) (d_strM (pe_bm PySem.F.plainAttrs_str PySem.F.slot_str_split PySem.F.type_str_split m_split (d_var 0 (pv 0)) (a_cons d_str a_nil)))))
    (ss_cons (s_if (PW.pt (dw_or (dt_cmp (o_notIn hK) (d_ix hK (d_var 1 (pv 1)) d_int) (d_call0 h_f_law_deed_words (hr.mono (by decide)) (L2N.takes_of rfl rfl rfl rfl) noSlE rfl) rfl) (dw_or1 (dt_cmp (o_neE hK hr.units) (d_callB (c_len hK) rfl T.b_len (by decide +kernel) (a_cons (d_var 1 (pv 1)) a_nil)) (d_op (o_addE hK) d_int (d_callB (c_len hK) rfl T.b_len (by decide +kernel) (a_cons (d_call h_f_law_sorts (hr.mono (by decide)) (L2N.takes_of rfl rfl rfl rfl) rfl rfl (a_cons (d_ix hK (d_var 1 (pv 1)) d_int) a_nil) (al_cons al_nil)) a_nil))) (nomark _))))) (ss_cons (s_ret d_non)
    ss_nil) ss_nil)
    (ss_cons (s_par (ps_par (i := 2) (j := 3) rfl sc_f_law_line_deed.nd rfl rfl (by decide) rfl rfl (a_cons (d_lstS (a_cons (d_ix hK (d_var 1 (pv 1)) d_int) a_nil)) (a_cons (d_call h_f_law_sorts (hr.mono (by decide)) (L2N.takes_of rfl rfl rfl rfl) rfl rfl (a_cons (d_ix hK (d_var 1 (pv 1)) d_int) a_nil) (al_cons al_nil)) a_nil)) rfl))
    (ss_cons (s_for (vl := [4]) (passes_of rfl) rfl (i_range1 (pi_range1 rfl T.b_range (a_cons (d_callB (c_len hK) rfl T.b_len (by decide +kernel) (a_cons (d_var 3 (pv 3)) a_nil)) a_nil))) (g_name (pg_name (i := 4) sc_f_law_line_deed.nd rfl (.inl rfl)) (by decide)) (ss_cons (s_set (ps_set (i := 5) sc_f_law_line_deed.nd rfl (.inl rfl) (d_ix hK (d_var 1 (pv 1)) (d_op (o_addE hK) (d_var 4 (pv 4)) d_int))))
    (ss_cons (s_set (ps_set (i := 6) sc_f_law_line_deed.nd rfl (.inl rfl) (d_call h_f_law_number_of (hr.mono (by decide)) (L2N.takes_of rfl rfl rfl rfl) rfl rfl (a_cons (d_var 5 (pv 5)) a_nil) (al_cons al_nil))))
    (ss_cons (s_if (dt_cmp (o_eqE hK hr.units) (d_ix hK (d_var 3 (pv 3)) (d_var 4 (pv 4))) d_str (nomark _)) (ss_cons (s_set (ps_set (i := 6) sc_f_law_line_deed.nd rfl (.inl rfl) (d_var 5 (pv 5))))
    ss_nil) (ss_cons (s_if (dt_cmp (o_eqE hK hr.units) (d_ix hK (d_var 3 (pv 3)) (d_var 4 (pv 4))) d_str (nomark _)) (ss_cons (s_set (ps_set (i := 6) sc_f_law_line_deed.nd rfl (.inl rfl) (d_if (dt_cmp (o_eqE hK hr.units) (d_var 5 (pv 5)) d_str (nomark _)) (d_tup a_nil) (d_callTy (c_tuple hK) rfl T.b_tuple (by decide +kernel) (a_cons (d_lc (own := [(("part" : Str), 7)]) rfl sc_f_law_line_deed.nd (i_any hK (d_strM (pe_bm PySem.F.plainAttrs_str PySem.F.slot_str_split PySem.F.type_str_split m_split (d_var 5 (pv 5)) (a_cons d_str a_nil)))) (blkOk_by (N := N_f_law_line_deed) (sc := defScope s_f_law_line_deed) (by decide +kernel)) (fun _ _ _ _ _ => (g_name (pg_name (i := 7) sc_f_law_line_deed.nd rfl (.inl rfl)) (by decide))) (fun _ _ _ _ _ => pts_yes) (fun _ _ _ _ _ => (d_call h_f_law_number_of (hr.mono (by decide)) takes0N rfl rfl (a_cons (d_var 7 (pv 7)) a_nil) (al_cons al_nil)))) a_nil)))))
    ss_nil) (ss_cons (s_if (PW.pt (dw_and (dt_cmp (o_eqE hK hr.units) (d_ix hK (d_var 3 (pv 3)) (d_var 4 (pv 4))) d_str (nomark _)) (dw_and (dt_cmp o_isN (d_var 6 (pv 6)) d_non (nomark _)) (dw_and1 (dt_cmp (o_neE hK hr.units) (d_var 5 (pv 5)) d_str (nomark _)))))) (ss_cons (s_ret d_non)
    ss_nil) ss_nil)
    ss_nil))
    ss_nil))
    (ss_cons (s_expr (d_append (pe_bm PySem.F.plainAttrs_list PySem.F.slot_list_append PySem.F.type_list_append mt_append (d_var 2 (pv 2)) (pa_cons (d_var 6 (pv 6)) pa_nil))))
    ss_nil)))))
    (ss_cons (s_ret (d_if (dt_val (d_call h_f_law_deed_good (hr.mono (by decide)) (L2N.takes_of rfl rfl rfl rfl) rfl rfl (a_cons (d_callTy (c_tuple hK) rfl T.b_tuple (by decide +kernel) (a_cons (d_var 2 (pv 2)) a_nil)) a_nil) (al_cons al_nil))) (d_callTy (c_tuple hK) rfl T.b_tuple (by decide +kernel) (a_cons (d_var 2 (pv 2)) a_nil)) d_non))
    ss_nil)))))
set_option maxHeartbeats 4000000 in
theorem ok_f_law_read_history {fa : Addr} {fd : FuncData} (Ff : Fun K "_law_read_history" "_law_read_history" s_f_law_read_history fa fd) (hK : G.K = K) (T : Tx G K w mg) (h_f_law_line_deed : Fn G P w K mg base "_law_line_deed" 4 ["line_here"] f_law_line_deed) (h_f_law_number_of : Fn G P w K mg base "_law_number_of" 1 ["word"] f_law_number_of) : FnOk P w K mg base (L2N.CX P w) 5 fa fd ["thing"] (spD G 1 f_law_read_history) :=
  fn_mk (k := 4) Ff sc_f_law_read_history fun cdv A outer s H E hr =>
    (ss_cons (s_if (dt_not (dt_val (d_isi (u := .str) hK T.is (by decide) (by decide) rfl T.b_isinstance (d_var 0 (pv 0)) (pe_bltn (v := .ty "str") rfl T.b_str (by decide +kernel) rfl) (.ty _)))) (ss_cons (s_ret (d_tup (a_cons d_str (a_cons d_int a_nil))))
    ss_nil) ss_nil)
    (ss_cons (s_set (ps_set (i := 1) sc_f_law_read_history.nd rfl (.inl rfl) (d_strM (pe_bm PySem.F.plainAttrs_str PySem.F.slot_str_split PySem.F.type_str_split m_split (d_var 0 (pv 0)) (a_cons d_str a_nil)))))
    (ss_cons (s_set (ps_set (i := 2) sc_f_law_read_history.nd rfl (.inl rfl) (d_call h_f_law_number_of (hr.mono (by decide)) (L2N.takes_of rfl rfl rfl rfl) rfl rfl (a_cons (d_ix hK (d_var 1 (pv 1)) d_int) a_nil) (al_cons al_nil))))
    (ss_cons (s_if (dt_cmp o_isN (d_var 2 (pv 2)) d_non (nomark _)) (ss_cons (s_ret (d_tup (a_cons d_str (a_cons d_int a_nil))))
    ss_nil) ss_nil)
    (ss_cons (s_set (ps_set (i := 3) sc_f_law_read_history.nd rfl (.inr rfl) (d_lc (own := [(("line_here" : Str), 4)]) rfl sc_f_law_read_history.nd (i_any hK (d_slice hK (d_var 1 (pv 1)) (o_some d_int) o_none)) (blkOk_by (N := N_f_law_read_history) (sc := defScope s_f_law_read_history) (by decide +kernel)) (fun _ _ _ _ _ => (g_name (pg_name (i := 4) sc_f_law_read_history.nd rfl (.inl rfl)) (by decide))) (fun _ _ _ _ _ => pts_yes) (fun _ _ _ _ _ => (d_call h_f_law_line_deed (hr.mono (by decide)) takes0N rfl rfl (a_cons (d_var 4 (pv 4)) a_nil) (al_cons al_nil))))))
    (ss_cons (s_setLc (i := 5) (own := [(("k" : Str), 6)]) rfl sc_f_law_read_history.nd rfl rfl (sw_true rfl rfl rfl (by decide +kernel)) (i_range1 (pi_range1 rfl T.b_range (a_cons (d_callB (c_len hK) rfl T.b_len (by decide +kernel) (a_cons (d_var 3 (pv 3)) a_nil)) a_nil))) (blkOk_by (N := N_f_law_read_history) (sc := defScope s_f_law_read_history) (by decide +kernel)) (fun _ _ _ _ _ => (g_name (pg_name (i := 6) sc_f_law_read_history.nd rfl (.inl rfl)) (by decide))) (fun _ _ _ _ _ => (pts_one (dt_cmp o_isN (d_ix hK (d_var 3 (pv 3)) (d_var 6 (pv 6))) d_non (nomark _)))) (fun _ _ _ _ _ => (d_op (o_addE hK) (d_var 6 (pv 6)) d_int)))
    (ss_cons (s_ret (d_if (dt_cmp (o_neE hK hr.units) (d_var 5 (pv 5)) (d_lst a_nil) (nomark _)) (d_tup (a_cons d_str (a_cons (d_ix hK (d_var 5 (pv 5)) d_int) a_nil))) (d_tup (a_cons d_str (a_cons (d_tup (a_cons (d_var 2 (pv 2)) (a_cons (d_var 3 (pv 3)) a_nil))) a_nil)))))
    ss_nil)))))))
set_option maxHeartbeats 4000000 in
theorem ok_f_law_tap {fa : Addr} {fd : FuncData} (Ff : Fun K "_law_tap" "_law_tap" s_f_law_tap fa fd) (hK : G.K = K) (T : Tx G K w mg)  : FnOk P w K mg base (L2N.CX P w) 1 fa fd ["cask", "span"] (spD G 2 f_law_tap) :=
  fn_mk (k := 0) Ff sc_f_law_tap fun cdv A outer s H E hr =>
    (ss_cons (s_if (dt_cmp o_gt (d_ix hK (d_var 0 (pv 0)) d_int) d_int (nomark _)) (ss_cons (s_set (ps_set (i := 2) sc_f_law_tap.nd rfl (.inl rfl) (d_op o_mod (d_callTy c_int rfl T.b_int (by decide +kernel) (a_cons (d_ix hK (d_var 0 (pv 0)) d_int) a_nil)) (d_var 1 (pv 1)))))
    (ss_cons (s_setIx (ps_asg (d_op o_fdiv (d_ix hK (d_var 0 (pv 0)) d_int) (d_var 1 (pv 1))) (pg_sub (d_var 0 (pv 0)) d_int set_list)))
    (ss_cons (s_ret (d_var 2 (pv 2)))
    ss_nil))) ss_nil)
    (ss_cons (s_setIx (ps_asg (d_op (o_addE hK) (d_ix hK (d_var 0 (pv 0)) d_int) d_int) (pg_sub (d_var 0 (pv 0)) d_int set_list)))
    (ss_cons (s_set (ps_set (i := 3) sc_f_law_tap.nd rfl (.inl rfl) (d_op o_mod (d_op o_pow (d_callTy c_int rfl T.b_int (by decide +kernel) (a_cons (d_op (o_addE hK) (d_ix hK (d_var 0 (pv 0)) d_int) (d_op o_mul d_int (d_ix hK (d_var 0 (pv 0)) d_int))) a_nil)) d_int) (d_op (o_addE hK) (d_op o_pow d_int d_int) d_int))))
    (ss_cons (s_set (ps_set (i := 3) sc_f_law_tap.nd rfl (.inl rfl) (d_op o_mod (d_op o_pow (d_callTy c_int rfl T.b_int (by decide +kernel) (a_cons (d_op (o_addE hK) (d_var 3 (pv 3)) (d_op o_mul d_int (d_ix hK (d_var 0 (pv 0)) d_int))) a_nil)) d_int) (d_op (o_addE hK) (d_op o_pow d_int d_int) d_int))))
    (ss_cons (s_ret (d_op o_mod (d_op o_fdiv (d_var 3 (pv 3)) d_int) (d_var 1 (pv 1))))
    ss_nil)))))
set_option maxHeartbeats 4000000 in
theorem ok_f_law_bent_text {fa : Addr} {fd : FuncData} (Ff : Fun K "_law_bent_text" "_law_bent_text" s_f_law_bent_text fa fd) (hK : G.K = K) (T : Tx G K w mg) (h_f_law_tap : Fn G P w K mg base "_law_tap" 1 ["cask", "span"] f_law_tap) : FnOk P w K mg base (L2N.CX P w) 2 fa fd ["cask", "text_here"] (spD G 2 f_law_bent_text) :=
  fn_mk (k := 1) Ff sc_f_law_bent_text fun cdv A outer s H E hr =>
    (ss_cons (s_par (ps_par (i := 2) (j := 3) rfl sc_f_law_bent_text.nd rfl rfl (by decide) rfl rfl (a_cons (d_call h_f_law_tap (hr.mono (by decide)) (L2N.takes_of rfl rfl rfl rfl) rfl rfl (a_cons (d_var 0 (pv 0)) (a_cons (d_op (o_addE hK) (d_callB (c_len hK) rfl T.b_len (by decide +kernel) (a_cons (d_var 1 (pv 1)) a_nil)) d_int) a_nil)) (al_cons (al_cons al_nil))) (a_cons (d_call h_f_law_tap (hr.mono (by decide)) (L2N.takes_of rfl rfl rfl rfl) rfl rfl (a_cons (d_var 0 (pv 0)) (a_cons d_int a_nil)) (al_cons (al_cons al_nil))) a_nil)) rfl))
    (ss_cons (s_set (ps_set (i := 4) sc_f_law_bent_text.nd rfl (.inl rfl) (d_ix hK (d_lst (a_cons d_str (a_cons d_str (a_cons d_str (a_cons d_str (a_cons d_str (a_cons d_str (a_cons d_str (a_cons d_str (a_cons d_str (a_cons d_str (a_cons d_str (a_cons d_str a_nil))))))))))))) (d_call h_f_law_tap (hr.mono (by decide)) (L2N.takes_of rfl rfl rfl rfl) rfl rfl (a_cons (d_var 0 (pv 0)) (a_cons d_int a_nil)) (al_cons (al_cons al_nil))))))
    (ss_cons (s_if (dt_cmp (o_eqE hK hr.units) (d_var 3 (pv 3)) d_int (nomark _)) (ss_cons (s_ret (d_op (o_addE hK) (d_op (o_addE hK) (d_slice hK (d_var 1 (pv 1)) o_none (o_some (d_var 2 (pv 2)))) (d_var 4 (pv 4))) (d_slice hK (d_var 1 (pv 1)) (o_some (d_var 2 (pv 2))) o_none)))
    ss_nil) ss_nil)
    (ss_cons (s_if (dt_cmp (o_eqE hK hr.units) (d_var 3 (pv 3)) d_int (nomark _)) (ss_cons (s_ret (d_op (o_addE hK) (d_slice hK (d_var 1 (pv 1)) o_none (o_some (d_var 2 (pv 2)))) (d_slice hK (d_var 1 (pv 1)) (o_some (d_op (o_addE hK) (d_var 2 (pv 2)) d_int)) o_none)))
    ss_nil) ss_nil)
    (ss_cons (s_if (dt_cmp (o_eqE hK hr.units) (d_var 3 (pv 3)) d_int (nomark _)) (ss_cons (s_ret (d_op (o_addE hK) (d_op (o_addE hK) (d_slice hK (d_var 1 (pv 1)) o_none (o_some (d_var 2 (pv 2)))) (d_var 4 (pv 4))) (d_slice hK (d_var 1 (pv 1)) (o_some (d_op (o_addE hK) (d_var 2 (pv 2)) d_int)) o_none)))
    ss_nil) ss_nil)
    (ss_cons (s_ret (d_ix hK (d_lst (a_cons (d_op (o_addE hK) (d_var 1 (pv 1)) d_str) (a_cons d_str (a_cons (d_upper (d_var 1 (pv 1))) (a_cons (d_op (o_addE hK) d_str (d_var 1 (pv 1))) (a_cons d_non (a_cons (d_lst (a_cons (d_var 1 (pv 1)) a_nil)) a_nil))))))) (d_call h_f_law_tap (hr.mono (by decide)) (L2N.takes_of rfl rfl rfl rfl) rfl rfl (a_cons (d_var 0 (pv 0)) (a_cons d_int a_nil)) (al_cons (al_cons al_nil)))))
    ss_nil))))))
set_option maxHeartbeats 4000000 in
theorem ok_f_law_entry_text {fa : Addr} {fd : FuncData} (Ff : Fun K "_law_entry_text" "_law_entry_text" s_f_law_entry_text fa fd) (hK : G.K = K) (T : Tx G K w mg)  : FnOk P w K mg base (L2N.CX P w) 1 fa fd ["sort", "thing"] (spD G 2 f_law_entry_text) :=
  fn_mk (k := 0) Ff sc_f_law_entry_text fun cdv A outer s H E hr =>
    (ss_cons (s_if (PW.pt (dw_and (dt_cmp (o_eqE hK hr.units) (d_var 0 (pv 0)) d_str (nomark _)) (dw_and1 (dt_cmp o_isN (d_var 1 (pv 1)) d_non (nomark _))))) (ss_cons (s_ret d_str)
    ss_nil) ss_nil)
    (ss_cons (s_if (dt_cmp (o_eqE hK hr.units) (d_var 0 (pv 0)) d_str (nomark _)) (ss_cons (s_ret (d_if (dt_cmp (o_neE hK hr.units) (d_var 1 (pv 1)) (d_tup a_nil) (nomark _)) (d_strM (pe_bm PySem.F.plainAttrs_str PySem.F.slot_str_join PySem.F.type_str_join (m_join hK) d_str (a_cons (d_lc (own := [(("one" : Str), 2)]) rfl sc_f_law_entry_text.nd (i_any hK (d_var 1 (pv 1))) (blkOk_by (N := N_f_law_entry_text) (sc := defScope s_f_law_entry_text) (by decide +kernel)) (fun _ _ _ _ _ => (g_name (pg_name (i := 2) sc_f_law_entry_text.nd rfl (.inl rfl)) (by decide))) (fun _ _ _ _ _ => pts_yes) (fun _ _ _ _ _ => (d_callTy c_strE rfl T.b_str (by decide +kernel) (a_cons (d_var 2 (pv 2)) a_nil)))) a_nil))) d_str))
    ss_nil) ss_nil)
    (ss_cons (s_ret (d_callTy c_strE rfl T.b_str (by decide +kernel) (a_cons (d_var 1 (pv 1)) a_nil)))
    ss_nil)))
set_option maxHeartbeats 4000000 in
theorem ok_f_law_deed_text {fa : Addr} {fd : FuncData} (Ff : Fun K "_law_deed_text" "_law_deed_text" s_f_law_deed_text fa fd) (hK : G.K = K) (T : Tx G K w mg) (h_f_law_entry_text : Fn G P w K mg base "_law_entry_text" 1 ["sort", "thing"] f_law_entry_text) (h_f_law_sorts : Fn G P w K mg base "_law_sorts" 1 ["word"] f_law_sorts) : FnOk P w K mg base (L2N.CX P w) 2 fa fd ["deed_here"] (spD G 1 f_law_deed_text) :=
  fn_mk (k := 1) Ff sc_f_law_deed_text fun cdv A outer s H E hr =>
    (ss_cons (s_set (ps_set (i := 1) sc_f_law_deed_text.nd rfl (.inr rfl) (d_call h_f_law_sorts (hr.mono (by decide)) (L2N.takes_of rfl rfl rfl rfl) rfl rfl (a_cons (d_ix hK (d_var 0 (pv 0)) d_int) a_nil) (al_cons al_nil))))
    (ss_cons (s_ret (d_strM (pe_bm PySem.F.plainAttrs_str PySem.F.slot_str_join PySem.F.type_str_join (m_join hK) d_str (a_cons (d_op (o_addE hK) (d_lst (a_cons (d_ix hK (d_var 0 (pv 0)) d_int) a_nil)) (d_lc (own := [(("k" : Str), 2)]) rfl sc_f_law_deed_text.nd (i_range1 (pi_range1 rfl T.b_range (a_cons (d_callB (c_len hK) rfl T.b_len (by decide +kernel) (a_cons (d_var 1 (pv 1)) a_nil)) a_nil))) (blkOk_by (N := N_f_law_deed_text) (sc := defScope s_f_law_deed_text) (by decide +kernel)) (fun _ _ _ _ _ => (g_name (pg_name (i := 2) sc_f_law_deed_text.nd rfl (.inl rfl)) (by decide))) (fun _ _ _ _ _ => pts_yes) (fun _ _ _ _ _ => (d_call h_f_law_entry_text (hr.mono (by decide)) takes0N rfl rfl (a_cons (d_ix hK (d_var 1 (pv 1)) (d_var 2 (pv 2))) (a_cons (d_ix hK (d_var 0 (pv 0)) (d_op (o_addE hK) (d_var 2 (pv 2)) d_int)) a_nil)) (al_cons (al_cons al_nil)))))) a_nil))))
    ss_nil))
set_option maxHeartbeats 4000000 in
theorem ok_f_law_bent_deed {fa : Addr} {fd : FuncData} (Ff : Fun K "_law_bent_deed" "_law_bent_deed" s_f_law_bent_deed fa fd) (hK : G.K = K) (T : Tx G K w mg) (h_f_law_tap : Fn G P w K mg base "_law_tap" 1 ["cask", "span"] f_law_tap) : FnOk P w K mg base (L2N.CX P w) 2 fa fd ["cask", "deed_here"] (spD G 2 f_law_bent_deed) :=
  fn_mk (k := 1) Ff sc_f_law_bent_deed fun cdv A outer s H E hr =>
    (ss_cons (s_set (ps_set (i := 2) sc_f_law_bent_deed.nd rfl (.inl rfl) (d_call h_f_law_tap (hr.mono (by decide)) (L2N.takes_of rfl rfl rfl rfl) rfl rfl (a_cons (d_var 0 (pv 0)) (a_cons (d_op (o_addE hK) (d_callB (c_len hK) rfl T.b_len (by decide +kernel) (a_cons (d_var 1 (pv 1)) a_nil)) d_int) a_nil)) (al_cons (al_cons al_nil)))))
    (ss_cons (s_set (ps_set (i := 3) sc_f_law_bent_deed.nd rfl (.inl rfl) (d_lst (a_cons d_non (a_cons (d_un u_neg d_int) (a_cons d_bl (a_cons d_str (a_cons d_str (a_cons d_str (a_cons (d_tup (a_cons d_int (a_cons d_int a_nil))) (a_cons (d_tup (a_cons d_int (a_cons d_int a_nil))) (a_cons (d_tup (a_cons d_bl a_nil)) (a_cons (d_lst (a_cons d_int a_nil)) (a_cons d_str (a_cons (d_tup a_nil) (a_cons d_int a_nil))))))))))))))))
    (ss_cons (s_set (ps_set (i := 3) sc_f_law_bent_deed.nd rfl (.inl rfl) (d_op (o_addE hK) (d_var 3 (pv 3)) (d_lst (a_cons (d_tup (a_cons d_int (a_cons d_str a_nil))) (a_cons (d_tup (a_cons d_int (a_cons d_non a_nil))) (a_cons (d_tup (a_cons (d_lst (a_cons d_int a_nil)) (a_cons d_int a_nil))) a_nil)))))))
    (ss_cons (s_set (ps_set (i := 4) sc_f_law_bent_deed.nd rfl (.inl rfl) (d_call h_f_law_tap (hr.mono (by decide)) (L2N.takes_of rfl rfl rfl rfl) rfl rfl (a_cons (d_var 0 (pv 0)) (a_cons d_int a_nil)) (al_cons (al_cons al_nil)))))
    (ss_cons (s_if (dt_cmp (o_eqE hK hr.units) (d_var 4 (pv 4)) d_int (nomark _)) (ss_cons (s_ret (d_op (o_addE hK) (d_op (o_addE hK) (d_slice hK (d_var 1 (pv 1)) o_none (o_some (d_var 2 (pv 2)))) (d_tup (a_cons (d_ix hK (d_var 3 (pv 3)) (d_call h_f_law_tap (hr.mono (by decide)) (L2N.takes_of rfl rfl rfl rfl) rfl rfl (a_cons (d_var 0 (pv 0)) (a_cons d_int a_nil)) (al_cons (al_cons al_nil)))) a_nil))) (d_slice hK (d_var 1 (pv 1)) (o_some (d_op (o_addE hK) (d_var 2 (pv 2)) d_int)) o_none)))
    ss_nil) ss_nil)
    (ss_cons (s_if (dt_cmp (o_eqE hK hr.units) (d_var 4 (pv 4)) d_int (nomark _)) (ss_cons (s_ret (d_op (o_addE hK) (d_slice hK (d_var 1 (pv 1)) o_none (o_some (d_var 2 (pv 2)))) (d_slice hK (d_var 1 (pv 1)) (o_some (d_op (o_addE hK) (d_var 2 (pv 2)) d_int)) o_none)))
    ss_nil) ss_nil)
    (ss_cons (s_if (dt_cmp (o_eqE hK hr.units) (d_var 4 (pv 4)) d_int (nomark _)) (ss_cons (s_ret (d_op (o_addE hK) (d_var 1 (pv 1)) (d_tup (a_cons (d_ix hK (d_var 3 (pv 3)) (d_call h_f_law_tap (hr.mono (by decide)) (L2N.takes_of rfl rfl rfl rfl) rfl rfl (a_cons (d_var 0 (pv 0)) (a_cons d_int a_nil)) (al_cons (al_cons al_nil)))) a_nil))))
    ss_nil) ss_nil)
    (ss_cons (s_set (ps_set (i := 5) sc_f_law_bent_deed.nd rfl (.inl rfl) (d_lst (a_cons (d_callTy (c_list hK) rfl T.b_list (by decide +kernel) (a_cons (d_var 1 (pv 1)) a_nil)) (a_cons d_non (a_cons d_str (a_cons d_int (a_cons (d_tup (a_cons (d_tup a_nil) a_nil)) (a_cons (d_tup (a_cons d_str (a_cons d_str a_nil))) a_nil)))))))))
    (ss_cons (s_set (ps_set (i := 5) sc_f_law_bent_deed.nd rfl (.inl rfl) (d_op (o_addE hK) (d_var 5 (pv 5)) (d_lst (a_cons (d_op (o_addE hK) (d_tup (a_cons (d_lst a_nil) a_nil)) (d_slice hK (d_var 1 (pv 1)) (o_some d_int) o_none)) (a_cons (d_op (o_addE hK) (d_tup (a_cons (d_tup a_nil) a_nil)) (d_slice hK (d_var 1 (pv 1)) (o_some d_int) o_none)) (a_cons (d_op (o_addE hK) (d_tup (a_cons d_non a_nil)) (d_slice hK (d_var 1 (pv 1)) (o_some d_int) o_none)) (a_cons (d_op (o_addE hK) (d_tup (a_cons d_int a_nil)) (d_slice hK (d_var 1 (pv 1)) (o_some d_int) o_none)) a_nil))))))))
    (ss_cons (s_ret (d_ix hK (d_op (o_addE hK) (d_var 5 (pv 5)) (d_lst (a_cons (d_tup (a_cons (d_lst (a_cons d_str a_nil)) (a_cons d_str a_nil))) (a_cons d_bl a_nil)))) (d_call h_f_law_tap (hr.mono (by decide)) (L2N.takes_of rfl rfl rfl rfl) rfl rfl (a_cons (d_var 0 (pv 0)) (a_cons d_int a_nil)) (al_cons (al_cons al_nil)))))
    ss_nil))))))))))
set_option maxHeartbeats 4000000 in
theorem ok_f_law_history_right {fa : Addr} {fd : FuncData} (Ff : Fun K "_law_history_right" "_law_history_right" s_f_law_history_right fa fd) (hK : G.K = K) (T : Tx G K w mg) (h_f_law_agree : Fn G P w K mg base "_law_agree" 8 ["found", "due"] (f_law_agree 8)) (h_f_law_said : Fn G P w K mg base "_law_said" 9 ["way", "thing"] f_law_said) (h_f_law_read_history : Fn G P w K mg base "_law_read_history" 5 ["thing"] f_law_read_history) (h_f_law_bent_text : Fn G P w K mg base "_law_bent_text" 2 ["cask", "text_here"] f_law_bent_text) (h_f_law_deed_text : Fn G P w K mg base "_law_deed_text" 2 ["deed_here"] f_law_deed_text) (h_f_law_deed_good : Fn G P w K mg base "_law_deed_good" 3 ["thing"] f_law_deed_good) (h_f_law_bent_deed : Fn G P w K mg base "_law_bent_deed" 2 ["cask", "deed_here"] f_law_bent_deed) (h_f_law_tap : Fn G P w K mg base "_law_tap" 1 ["cask", "span"] f_law_tap) : FnOk P w K mg base (L2N.CX P w) 10 fa fd ["cask", "many", "deeds_here"] (spD G 3 f_law_history_right) :=
  fn_mk (k := 9) Ff sc_f_law_history_right fun cdv A outer s H E hr =>
    (ss_cons (s_set (ps_set (i := 3) sc_f_law_history_right.nd rfl (.inl rfl) (d_strM (pe_bm PySem.F.plainAttrs_str PySem.F.slot_str_join PySem.F.type_str_join (m_join hK) d_str (a_cons (d_op (o_addE hK) (d_lst (a_cons (d_callTy c_strE rfl T.b_str (by decide +kernel) (a_cons (d_var 1 (pv 1)) a_nil)) a_nil)) (d_lc (own := [(("one" : Str), 4)]) rfl sc_f_law_history_right.nd (i_any hK (d_var 2 (pv 2))) (blkOk_by (N := N_f_law_history_right) (sc := defScope s_f_law_history_right) (by decide +kernel)) (fun _ _ _ _ _ => (g_name (pg_name (i := 4) sc_f_law_history_right.nd rfl (.inl rfl)) (by decide))) (fun _ _ _ _ _ => pts_yes) (fun _ _ _ _ _ => (d_call h_f_law_deed_text (hr.mono (by decide)) takes0N rfl rfl (a_cons (d_var 4 (pv 4)) a_nil) (al_cons al_nil))))) a_nil)))))
    (ss_cons (s_set (ps_set (i := 5) sc_f_law_history_right.nd rfl (.inl rfl) (d_tup (a_cons (d_var 1 (pv 1)) (a_cons (d_var 2 (pv 2)) a_nil)))))
    (ss_cons (s_set (ps_set (i := 6) sc_f_law_history_right.nd rfl (.inl rfl) (d_lst (a_cons (d_call h_f_law_said (hr.mono (by decide)) (L2N.takes_of rfl rfl rfl rfl) rfl rfl (a_cons d_int (a_cons (d_var 5 (pv 5)) a_nil)) (al_cons (al_cons al_nil))) (a_cons (d_call h_f_law_said (hr.mono (by decide)) (L2N.takes_of rfl rfl rfl rfl) rfl rfl (a_cons d_int (a_cons (d_var 5 (pv 5)) a_nil)) (al_cons (al_cons al_nil))) (a_cons (d_call h_f_law_said (hr.mono (by decide)) (L2N.takes_of rfl rfl rfl rfl) rfl rfl (a_cons d_int (a_cons (d_var 3 (pv 3)) a_nil)) (al_cons (al_cons al_nil))) (a_cons (d_call h_f_law_said (hr.mono (by decide)) (L2N.takes_of rfl rfl rfl rfl) rfl rfl (a_cons d_int (a_cons (d_var 3 (pv 3)) a_nil)) (al_cons (al_cons al_nil))) a_nil)))))))
    (ss_cons (s_if (dt_not (dt_val (d_call h_f_law_agree (hr.mono (by decide)) (L2N.takes_of rfl rfl rfl rfl) rfl rfl (a_cons (d_var 6 (pv 6)) (a_cons (d_op (o_addE hK) (d_op o_mul (d_lst (a_cons (d_tup (a_cons d_str (a_cons (d_var 3 (pv 3)) a_nil))) a_nil)) d_int) (d_op o_mul (d_lst (a_cons (d_tup (a_cons d_str (a_cons (d_var 5 (pv 5)) a_nil))) a_nil)) d_int)) a_nil)) (al_cons (al_cons al_nil))))) (ss_cons (s_ret d_bl)
    ss_nil) ss_nil)
    (ss_cons (s_expr (d_append (pe_bm PySem.F.plainAttrs_list PySem.F.slot_list_append PySem.F.type_list_append mt_append (d_ix hK (d_ix hK (d_ix hK (d_var 6 (pv 6)) d_int) d_int) d_int) (pa_cons d_non pa_nil))))
    (ss_cons (s_set (ps_set (i := 7) sc_f_law_history_right.nd rfl (.inl rfl) (d_call h_f_law_tap (hr.mono (by decide)) (L2N.takes_of rfl rfl rfl rfl) rfl rfl (a_cons (d_var 0 (pv 0)) (a_cons (d_op (o_addE hK) (d_callB (c_len hK) rfl T.b_len (by decide +kernel) (a_cons (d_var 2 (pv 2)) a_nil)) d_int) a_nil)) (al_cons (al_cons al_nil)))))
    (ss_cons (s_set (ps_set (i := 8) sc_f_law_history_right.nd rfl (.inl rfl) (d_op (o_addE hK) (d_op (o_addE hK) (d_slice hK (d_var 2 (pv 2)) o_none (o_some (d_var 7 (pv 7)))) (d_lst (a_cons (d_call h_f_law_bent_deed (hr.mono (by decide)) (L2N.takes_of rfl rfl rfl rfl) rfl rfl (a_cons (d_var 0 (pv 0)) (a_cons (d_if (dt_cmp o_gt (d_var 7 (pv 7)) d_int (nomark _)) (d_ix hK (d_var 2 (pv 2)) (d_op o_sub (d_var 7 (pv 7)) d_int)) (d_tup (a_cons d_str a_nil))) a_nil)) (al_cons (al_cons al_nil))) a_nil))) (d_slice hK (d_var 2 (pv 2)) (o_some (d_var 7 (pv 7))) o_none))))
    (ss_cons (s_set (ps_set (i := 9) sc_f_law_history_right.nd rfl (.inl rfl) (d_cmp (o_neE hK hr.units) (d_lc (own := [(("one" : Str), 4)]) rfl sc_f_law_history_right.nd (i_any hK (d_var 8 (pv 8))) (blkOk_by (N := N_f_law_history_right) (sc := defScope s_f_law_history_right) (by decide +kernel)) (fun _ _ _ _ _ => (g_name (pg_name (i := 4) sc_f_law_history_right.nd rfl (.inl rfl)) (by decide))) (fun _ _ _ _ _ => (pts_one (dt_not (dt_val (d_call h_f_law_deed_good (hr.mono (by decide)) takes0N rfl rfl (a_cons (d_var 4 (pv 4)) a_nil) (al_cons al_nil)))))) (fun _ _ _ _ _ => (d_var 4 (pv 4)))) (d_lst a_nil) (nomark _))))
    (ss_cons (s_set (ps_set (i := 10) sc_f_law_history_right.nd rfl (.inl rfl) (d_lst (a_cons (d_tup (a_cons (d_var 1 (pv 1)) (a_cons (d_var 8 (pv 8)) a_nil))) (a_cons (d_tup (a_cons (d_var 1 (pv 1)) (a_cons (d_callTy (c_tuple hK) rfl T.b_tuple (by decide +kernel) (a_cons (d_var 2 (pv 2)) a_nil)) a_nil))) (a_cons (d_lst (a_cons (d_var 1 (pv 1)) (a_cons (d_var 2 (pv 2)) a_nil))) (a_cons (d_tup (a_cons d_bl (a_cons (d_var 2 (pv 2)) a_nil))) a_nil)))))))
    (ss_cons (s_set (ps_set (i := 10) sc_f_law_history_right.nd rfl (.inl rfl) (d_op (o_addE hK) (d_var 10 (pv 10)) (d_lst (a_cons (d_tup (a_cons (d_var 1 (pv 1)) a_nil)) (a_cons d_non (a_cons (d_tup (a_cons (d_un u_neg d_int) (a_cons (d_lst a_nil) a_nil))) (a_cons (d_tup (a_cons (d_var 1 (pv 1)) (a_cons d_non a_nil))) (a_cons (d_tup (a_cons d_str (a_cons (d_lst a_nil) a_nil))) (a_cons (d_tup (a_cons d_non (a_cons (d_lst a_nil) a_nil))) a_nil))))))))))
    (ss_cons (s_set (ps_set (i := 11) sc_f_law_history_right.nd rfl (.inl rfl) (d_lst (a_cons d_str a_nil))))
    (ss_cons (s_if (dt_not (dt_val (d_var 9 (pv 9)))) (ss_cons (s_set (ps_set (i := 11) sc_f_law_history_right.nd rfl (.inl rfl) (d_lst (a_cons (d_tup (a_cons d_str (a_cons (d_strM (pe_bm PySem.F.plainAttrs_str PySem.F.slot_str_join PySem.F.type_str_join (m_join hK) d_str (a_cons (d_op (o_addE hK) (d_lst (a_cons (d_callTy c_strE rfl T.b_str (by decide +kernel) (a_cons (d_var 1 (pv 1)) a_nil)) a_nil)) (d_lc (own := [(("one" : Str), 4)]) rfl sc_f_law_history_right.nd (i_any hK (d_var 8 (pv 8))) (blkOk_by (N := N_f_law_history_right) (sc := defScope s_f_law_history_right) (by decide +kernel)) (fun _ _ _ _ _ => (g_name (pg_name (i := 4) sc_f_law_history_right.nd rfl (.inl rfl)) (by decide))) (fun _ _ _ _ _ => pts_yes) (fun _ _ _ _ _ => (d_call h_f_law_deed_text (hr.mono (by decide)) takes0N rfl rfl (a_cons (d_var 4 (pv 4)) a_nil) (al_cons al_nil))))) a_nil))) a_nil))) a_nil))))
    ss_nil) ss_nil)
    (ss_cons (s_if (dt_not (dt_val (d_call h_f_law_agree (hr.mono (by decide)) (L2N.takes_of rfl rfl rfl rfl) rfl rfl (a_cons (d_lc (own := [(("thing" : Str), 12)]) rfl sc_f_law_history_right.nd (i_any hK (d_var 10 (pv 10))) (blkOk_by (N := N_f_law_history_right) (sc := defScope s_f_law_history_right) (by decide +kernel)) (fun _ _ _ _ _ => (g_name (pg_name (i := 12) sc_f_law_history_right.nd rfl (.inl rfl)) (by decide))) (fun _ _ _ _ _ => pts_yes) (fun _ _ _ _ _ => (d_call h_f_law_said (hr.mono (by decide)) takes0N rfl rfl (a_cons d_int (a_cons (d_var 12 (pv 12)) a_nil)) (al_cons (al_cons al_nil))))) (a_cons (d_op (o_addE hK) (d_var 11 (pv 11)) (d_op o_mul (d_lst (a_cons d_str a_nil)) d_int)) a_nil)) (al_cons (al_cons al_nil))))) (ss_cons (s_ret d_bl)
    ss_nil) ss_nil)
    (ss_cons (s_for (vl := [13]) (passes_of rfl) rfl (i_range1 (pi_range1 rfl T.b_range (a_cons d_int a_nil))) (g_name (pg_name (i := 13) sc_f_law_history_right.nd rfl (.inl rfl)) (by decide)) (ss_cons (s_set (ps_set (i := 12) sc_f_law_history_right.nd rfl (.inl rfl) (d_call h_f_law_bent_text (hr.mono (by decide)) (L2N.takes_of rfl rfl rfl rfl) rfl rfl (a_cons (d_var 0 (pv 0)) (a_cons (d_var 3 (pv 3)) a_nil)) (al_cons (al_cons al_nil)))))
    (ss_cons (s_set (ps_set (i := 11) sc_f_law_history_right.nd rfl (.inl rfl) (d_call h_f_law_read_history (hr.mono (by decide)) (L2N.takes_of rfl rfl rfl rfl) rfl rfl (a_cons (d_var 12 (pv 12)) a_nil) (al_cons al_nil))))
    (ss_cons (s_if (dt_not (dt_val (d_call h_f_law_agree (hr.mono (by decide)) (L2N.takes_of rfl rfl rfl rfl) rfl rfl (a_cons (d_lst (a_cons (d_call h_f_law_said (hr.mono (by decide)) (L2N.takes_of rfl rfl rfl rfl) rfl rfl (a_cons d_int (a_cons (d_var 12 (pv 12)) a_nil)) (al_cons (al_cons al_nil))) (a_cons (d_call h_f_law_said (hr.mono (by decide)) (L2N.takes_of rfl rfl rfl rfl) rfl rfl (a_cons d_int (a_cons (d_var 12 (pv 12)) a_nil)) (al_cons (al_cons al_nil))) a_nil))) (a_cons (d_lst (a_cons (d_var 11 (pv 11)) (a_cons (d_var 11 (pv 11)) a_nil))) a_nil)) (al_cons (al_cons al_nil))))) (ss_cons (s_ret d_bl)
    ss_nil) ss_nil)
    ss_nil))))
    (ss_cons (s_ret d_bl)
    ss_nil)))))))))))))))
set_option maxHeartbeats 4000000 in
theorem ok_f_law_any_number {fa : Addr} {fd : FuncData} (Ff : Fun K "_law_any_number" "_law_any_number" s_f_law_any_number fa fd) (hK : G.K = K) (T : Tx G K w mg) (h_f_law_tap : Fn G P w K mg base "_law_tap" 1 ["cask", "span"] f_law_tap) : FnOk P w K mg base (L2N.CX P w) 2 fa fd ["cask"] (spD G 1 f_law_any_number) :=
  fn_mk (k := 1) Ff sc_f_law_any_number fun cdv A outer s H E hr =>
    (ss_cons (s_set (ps_set (i := 1) sc_f_law_any_number.nd rfl (.inl rfl) (d_lst (a_cons d_int (a_cons d_int (a_cons d_int (a_cons (d_call h_f_law_tap (hr.mono (by decide)) (L2N.takes_of rfl rfl rfl rfl) rfl rfl (a_cons (d_var 0 (pv 0)) (a_cons d_int a_nil)) (al_cons (al_cons al_nil))) (a_cons (d_op (o_addE hK) (d_op o_pow d_int d_int) (d_call h_f_law_tap (hr.mono (by decide)) (L2N.takes_of rfl rfl rfl rfl) rfl rfl (a_cons (d_var 0 (pv 0)) (a_cons d_int a_nil)) (al_cons (al_cons al_nil)))) (a_cons (d_op o_pow d_int d_int) (a_cons (d_op o_pow d_int d_int) (a_cons (d_op o_pow d_int d_int) a_nil)))))))))))
    (ss_cons (s_ret (d_ix hK (d_var 1 (pv 1)) (d_call h_f_law_tap (hr.mono (by decide)) (L2N.takes_of rfl rfl rfl rfl) rfl rfl (a_cons (d_var 0 (pv 0)) (a_cons d_int a_nil)) (al_cons (al_cons al_nil)))))
    ss_nil))
set_option maxHeartbeats 4000000 in
theorem ok_f_law_any_deed {fa : Addr} {fd : FuncData} (Ff : Fun K "_law_any_deed" "_law_any_deed" s_f_law_any_deed fa fd) (hK : G.K = K) (T : Tx G K w mg) (h_f_law_sorts : Fn G P w K mg base "_law_sorts" 1 ["word"] f_law_sorts) (h_f_law_tap : Fn G P w K mg base "_law_tap" 1 ["cask", "span"] f_law_tap) (h_f_law_any_number : Fn G P w K mg base "_law_any_number" 2 ["cask"] f_law_any_number) (h_f_law_deed_words : Fn G P w K mg base "_law_deed_words" 1 [] f_law_deed_words) : FnOk P w K mg base (L2N.CX P w) 3 fa fd ["cask", "names"] (spD G 2 f_law_any_deed) :=
  fn_mk (k := 2) Ff sc_f_law_any_deed fun cdv A outer s H E hr =>
    (ss_cons (s_set (ps_set (i := 2) sc_f_law_any_deed.nd rfl (.inl rfl) (d_ix hK (d_call0 h_f_law_deed_words (hr.mono (by decide)) (L2N.takes_of rfl rfl rfl rfl) noSlE rfl) (d_call h_f_law_tap (hr.mono (by decide)) (L2N.takes_of rfl rfl rfl rfl) rfl rfl (a_cons (d_var 0 (pv 0)) (a_cons d_int a_nil)) (al_cons (al_cons al_nil))))))
    (ss_cons (s_set (ps_set (i := 3) sc_f_law_any_deed.nd rfl (.inl rfl) (d_lstS (a_cons (d_var 2 (pv 2)) a_nil))))
    (ss_cons (s_for (vl := [4]) (passes_of rfl) rfl (i_any hK (d_call h_f_law_sorts (hr.mono (by decide)) (L2N.takes_of rfl rfl rfl rfl) rfl rfl (a_cons (d_var 2 (pv 2)) a_nil) (al_cons al_nil))) (g_name (pg_name (i := 4) sc_f_law_any_deed.nd rfl (.inl rfl)) (by decide)) (ss_cons (s_if (dt_cmp (o_eqE hK hr.units) (d_var 4 (pv 4)) d_str (nomark _)) (ss_cons (s_expr (d_append (pe_bm PySem.F.plainAttrs_list PySem.F.slot_list_append PySem.F.type_list_append mt_append (d_var 3 (pv 3)) (pa_cons (d_ix hK (d_var 1 (pv 1)) (d_call h_f_law_tap (hr.mono (by decide)) (L2N.takes_of rfl rfl rfl rfl) rfl rfl (a_cons (d_var 0 (pv 0)) (a_cons (d_callB (c_len hK) rfl T.b_len (by decide +kernel) (a_cons (d_var 1 (pv 1)) a_nil)) a_nil)) (al_cons (al_cons al_nil)))) pa_nil))))
    ss_nil) (ss_cons (s_if (dt_cmp (o_eqE hK hr.units) (d_var 4 (pv 4)) d_str (nomark _)) (ss_cons (s_par (ps_par (i := 5) (j := 6) rfl sc_f_law_any_deed.nd rfl rfl (by decide) rfl rfl (a_cons d_int (a_cons (d_lstS a_nil) a_nil)) rfl))
    (ss_cons (s_for (vl := [7]) (passes_of rfl) rfl (i_range1 (pi_range1 rfl T.b_range (a_cons (d_call h_f_law_tap (hr.mono (by decide)) (L2N.takes_of rfl rfl rfl rfl) rfl rfl (a_cons (d_var 0 (pv 0)) (a_cons d_int a_nil)) (al_cons (al_cons al_nil))) a_nil))) (g_name (pg_name (i := 7) sc_f_law_any_deed.nd rfl (.inl rfl)) (by decide)) (ss_cons (s_set (ps_set (i := 5) sc_f_law_any_deed.nd rfl (.inl rfl) (d_op (o_addE hK) (d_op (o_addE hK) (d_var 5 (pv 5)) (d_call h_f_law_tap (hr.mono (by decide)) (L2N.takes_of rfl rfl rfl rfl) rfl rfl (a_cons (d_var 0 (pv 0)) (a_cons d_int a_nil)) (al_cons (al_cons al_nil)))) (d_if (dt_cmp o_gt (d_var 7 (pv 7)) d_int (nomark _)) d_int d_int))))
    (ss_cons (s_expr (d_append (pe_bm PySem.F.plainAttrs_list PySem.F.slot_list_append PySem.F.type_list_append mt_append (d_var 6 (pv 6)) (pa_cons (d_var 5 (pv 5)) pa_nil))))
    ss_nil)))
    (ss_cons (s_expr (d_append (pe_bm PySem.F.plainAttrs_list PySem.F.slot_list_append PySem.F.type_list_append mt_append (d_var 3 (pv 3)) (pa_cons (d_callTy (c_tuple hK) rfl T.b_tuple (by decide +kernel) (a_cons (d_var 6 (pv 6)) a_nil)) pa_nil))))
    ss_nil))) (ss_cons (s_expr (d_append (pe_bm PySem.F.plainAttrs_list PySem.F.slot_list_append PySem.F.type_list_append mt_append (d_var 3 (pv 3)) (pa_cons (d_if (PW.pt (dw_and (dt_cmp (o_eqE hK hr.units) (d_var 4 (pv 4)) d_str (nomark _)) (dw_and1 (dt_cmp (o_eqE hK hr.units) (d_call h_f_law_tap (hr.mono (by decide)) (L2N.takes_of rfl rfl rfl rfl) rfl rfl (a_cons (d_var 0 (pv 0)) (a_cons d_int a_nil)) (al_cons (al_cons al_nil))) d_int (nomark _))))) d_non (d_call h_f_law_any_number (hr.mono (by decide)) (L2N.takes_of rfl rfl rfl rfl) rfl rfl (a_cons (d_var 0 (pv 0)) a_nil) (al_cons al_nil))) pa_nil))))
    ss_nil))
    ss_nil))
    ss_nil))
    (ss_cons (s_ret (d_callTy (c_tuple hK) rfl T.b_tuple (by decide +kernel) (a_cons (d_var 3 (pv 3)) a_nil)))
    ss_nil))))
set_option maxHeartbeats 4000000 in
theorem ok_f_law_deed_right {fa : Addr} {fd : FuncData} (Ff : Fun K "_law_deed_right" "_law_deed_right" s_f_law_deed_right fa fd) (hK : G.K = K) (T : Tx G K w mg) (h_f_law_agree : Fn G P w K mg base "_law_agree" 8 ["found", "due"] (f_law_agree 8)) (h_f_law_said : Fn G P w K mg base "_law_said" 9 ["way", "thing"] f_law_said) (h_f_law_line_deed : Fn G P w K mg base "_law_line_deed" 4 ["line_here"] f_law_line_deed) (h_f_law_bent_text : Fn G P w K mg base "_law_bent_text" 2 ["cask", "text_here"] f_law_bent_text) (h_f_law_deed_good : Fn G P w K mg base "_law_deed_good" 3 ["thing"] f_law_deed_good) (h_f_law_deed_text : Fn G P w K mg base "_law_deed_text" 2 ["deed_here"] f_law_deed_text) (h_f_law_bent_deed : Fn G P w K mg base "_law_bent_deed" 2 ["cask", "deed_here"] f_law_bent_deed) : FnOk P w K mg base (L2N.CX P w) 10 fa fd ["cask", "deed_here"] (spD G 2 f_law_deed_right) :=
  fn_mk (k := 9) Ff sc_f_law_deed_right fun cdv A outer s H E hr =>
    (ss_cons (s_set (ps_set (i := 2) sc_f_law_deed_right.nd rfl (.inl rfl) (d_call h_f_law_deed_text (hr.mono (by decide)) (L2N.takes_of rfl rfl rfl rfl) rfl rfl (a_cons (d_var 1 (pv 1)) a_nil) (al_cons al_nil))))
    (ss_cons (s_set (ps_set (i := 3) sc_f_law_deed_right.nd rfl (.inl rfl) (d_lst (a_cons (d_call h_f_law_said (hr.mono (by decide)) (L2N.takes_of rfl rfl rfl rfl) rfl rfl (a_cons d_int (a_cons (d_var 1 (pv 1)) a_nil)) (al_cons (al_cons al_nil))) (a_cons (d_call h_f_law_said (hr.mono (by decide)) (L2N.takes_of rfl rfl rfl rfl) rfl rfl (a_cons d_int (a_cons (d_var 1 (pv 1)) a_nil)) (al_cons (al_cons al_nil))) (a_cons (d_call h_f_law_said (hr.mono (by decide)) (L2N.takes_of rfl rfl rfl rfl) rfl rfl (a_cons d_int (a_cons (d_var 2 (pv 2)) a_nil)) (al_cons (al_cons al_nil))) (a_cons (d_call h_f_law_said (hr.mono (by decide)) (L2N.takes_of rfl rfl rfl rfl) rfl rfl (a_cons d_int (a_cons (d_var 2 (pv 2)) a_nil)) (al_cons (al_cons al_nil))) a_nil)))))))
    (ss_cons (s_if (dt_not (dt_val (d_call h_f_law_agree (hr.mono (by decide)) (L2N.takes_of rfl rfl rfl rfl) rfl rfl (a_cons (d_var 3 (pv 3)) (a_cons (d_op (o_addE hK) (d_op o_mul (d_lst (a_cons (d_tup (a_cons d_str (a_cons (d_var 2 (pv 2)) a_nil))) a_nil)) d_int) (d_op o_mul (d_lst (a_cons (d_tup (a_cons d_str (a_cons (d_var 1 (pv 1)) a_nil))) a_nil)) d_int)) a_nil)) (al_cons (al_cons al_nil))))) (ss_cons (s_ret d_bl)
    ss_nil) ss_nil)
    (ss_cons (s_set (ps_set (i := 4) sc_f_law_deed_right.nd rfl (.inl rfl) (d_call h_f_law_bent_deed (hr.mono (by decide)) (L2N.takes_of rfl rfl rfl rfl) rfl rfl (a_cons (d_var 0 (pv 0)) (a_cons (d_var 1 (pv 1)) a_nil)) (al_cons (al_cons al_nil)))))
    (ss_cons (s_set (ps_set (i := 5) sc_f_law_deed_right.nd rfl (.inl rfl) (d_if (dt_val (d_call h_f_law_deed_good (hr.mono (by decide)) (L2N.takes_of rfl rfl rfl rfl) rfl rfl (a_cons (d_var 4 (pv 4)) a_nil) (al_cons al_nil))) (d_tup (a_cons d_str (a_cons (d_call h_f_law_deed_text (hr.mono (by decide)) (L2N.takes_of rfl rfl rfl rfl) rfl rfl (a_cons (d_var 4 (pv 4)) a_nil) (al_cons al_nil)) a_nil))) d_str)))
    (ss_cons (s_if (dt_not (dt_val (d_call h_f_law_agree (hr.mono (by decide)) (L2N.takes_of rfl rfl rfl rfl) rfl rfl (a_cons (d_lst (a_cons (d_call h_f_law_said (hr.mono (by decide)) (L2N.takes_of rfl rfl rfl rfl) rfl rfl (a_cons d_int (a_cons (d_var 4 (pv 4)) a_nil)) (al_cons (al_cons al_nil))) (a_cons (d_call h_f_law_said (hr.mono (by decide)) (L2N.takes_of rfl rfl rfl rfl) rfl rfl (a_cons d_int (a_cons (d_var 4 (pv 4)) a_nil)) (al_cons (al_cons al_nil))) a_nil))) (a_cons (d_lst (a_cons (d_var 5 (pv 5)) (a_cons (d_var 5 (pv 5)) a_nil))) a_nil)) (al_cons (al_cons al_nil))))) (ss_cons (s_ret d_bl)
    ss_nil) ss_nil)
    (ss_cons (s_set (ps_set (i := 6) sc_f_law_deed_right.nd rfl (.inl rfl) (d_call h_f_law_bent_text (hr.mono (by decide)) (L2N.takes_of rfl rfl rfl rfl) rfl rfl (a_cons (d_var 0 (pv 0)) (a_cons (d_var 2 (pv 2)) a_nil)) (al_cons (al_cons al_nil)))))
    (ss_cons (s_set (ps_set (i := 7) sc_f_law_deed_right.nd rfl (.inl rfl) (d_if (dt_val (d_isi (u := .str) hK T.is (by decide) (by decide) rfl T.b_isinstance (d_var 6 (pv 6)) (pe_bltn (v := .ty "str") rfl T.b_str (by decide +kernel) rfl) (.ty _))) (d_call h_f_law_line_deed (hr.mono (by decide)) (L2N.takes_of rfl rfl rfl rfl) rfl rfl (a_cons (d_var 6 (pv 6)) a_nil) (al_cons al_nil)) d_non)))
    (ss_cons (s_set (ps_set (i := 5) sc_f_law_deed_right.nd rfl (.inl rfl) (d_if (dt_cmp o_notN (d_var 7 (pv 7)) d_non (nomark _)) (d_tup (a_cons d_str (a_cons (d_var 7 (pv 7)) a_nil))) (d_tup (a_cons d_str (a_cons d_int a_nil))))))
    (ss_cons (s_ret (d_call h_f_law_agree (hr.mono (by decide)) (L2N.takes_of rfl rfl rfl rfl) rfl rfl (a_cons (d_lst (a_cons (d_call h_f_law_said (hr.mono (by decide)) (L2N.takes_of rfl rfl rfl rfl) rfl rfl (a_cons d_int (a_cons (d_var 6 (pv 6)) a_nil)) (al_cons (al_cons al_nil))) (a_cons (d_call h_f_law_said (hr.mono (by decide)) (L2N.takes_of rfl rfl rfl rfl) rfl rfl (a_cons d_int (a_cons (d_var 6 (pv 6)) a_nil)) (al_cons (al_cons al_nil))) a_nil))) (a_cons (d_lst (a_cons (d_var 5 (pv 5)) (a_cons (d_var 5 (pv 5)) a_nil))) a_nil)) (al_cons (al_cons al_nil))))
    ss_nil))))))))))
set_option maxHeartbeats 4000000 in
theorem ok_f_law_names {fa : Addr} {fd : FuncData} (Ff : Fun K "_law_names" "_law_names" s_f_law_names fa fd) (hK : G.K = K) (T : Tx G K w mg) (h_f_law_tap : Fn G P w K mg base "_law_tap" 1 ["cask", "span"] f_law_tap) : FnOk P w K mg base (L2N.CX P w) 2 fa fd ["cask", "many"] (spD G 2 f_law_names) :=
  fn_mk (k := 1) Ff sc_f_law_names fun cdv A outer s H E hr =>
    (ss_cons (s_asg (vl := [2, 3]) (d_tup (a_cons d_str (a_cons (d_lstS a_nil) a_nil))) (g_tup (n := 2) rfl hK (gs_cons (g_name (pg_name (i := 2) sc_f_law_names.nd rfl (.inr rfl)) (by decide)) (gs_cons (g_name (pg_name (i := 3) sc_f_law_names.nd rfl (.inr rfl)) (by decide)) gs_nil))))
    (ss_cons (s_for (vl := [4]) (passes_of rfl) rfl (i_range1 (pi_range1 rfl T.b_range (a_cons (d_var 1 (pv 1)) a_nil))) (g_name (pg_name (i := 4) sc_f_law_names.nd rfl (.inr rfl)) (by decide)) (ss_cons (s_asg (vl := [5, 6]) (d_tup (a_cons (d_ix hK (d_lst (a_cons d_int (a_cons d_int (a_cons (d_call h_f_law_tap (hr.mono (by decide)) (L2N.takes_of rfl rfl rfl rfl) rfl rfl (a_cons (d_var 0 (pv 0)) (a_cons d_int a_nil)) (al_cons (al_cons al_nil))) a_nil)))) (d_call h_f_law_tap (hr.mono (by decide)) (L2N.takes_of rfl rfl rfl rfl) rfl rfl (a_cons (d_var 0 (pv 0)) (a_cons d_int a_nil)) (al_cons (al_cons al_nil)))) (a_cons (d_call h_f_law_tap (hr.mono (by decide)) (L2N.takes_of rfl rfl rfl rfl) rfl rfl (a_cons (d_var 0 (pv 0)) (a_cons d_int a_nil)) (al_cons (al_cons al_nil))) a_nil))) (g_tup (n := 2) rfl hK (gs_cons (g_name (pg_name (i := 5) sc_f_law_names.nd rfl (.inl rfl)) (by decide)) (gs_cons (g_name (pg_name (i := 6) sc_f_law_names.nd rfl (.inr rfl)) (by decide)) gs_nil))))
    (ss_cons (s_set (ps_set (i := 7) sc_f_law_names.nd rfl (.inl rfl) (d_op (o_addE hK) (d_ix hK (d_var 2 (pv 2)) (d_var 6 (pv 6))) (d_strM (pe_bm PySem.F.plainAttrs_str PySem.F.slot_str_join PySem.F.type_str_join (m_join hK) d_str (a_cons (d_lc (own := [(("turn" : Str), 8)]) rfl sc_f_law_names.nd (i_range1 (pi_range1 rfl T.b_range (a_cons (d_var 5 (pv 5)) a_nil))) (blkOk_by (N := N_f_law_names) (sc := defScope s_f_law_names) (by decide +kernel)) (fun _ _ _ _ _ => (g_name (pg_name (i := 8) sc_f_law_names.nd rfl (.inl rfl)) (by decide))) (fun _ _ _ _ _ => pts_yes) (fun _ _ _ _ _ => (d_ix hK (d_var 2 (pv 2)) (d_call h_f_law_tap (hr.mono (by decide)) takes0N rfl rfl (a_cons (d_var 0 (pv 0)) (a_cons d_int a_nil)) (al_cons (al_cons al_nil)))))) a_nil))))))
    (ss_cons (s_if (PW.pt (dw_and (dt_cmp (o_neE hK hr.units) (d_var 3 (pv 3)) (d_lst a_nil) (nomark _)) (dw_and1 (dt_cmp (o_eqE hK hr.units) (d_call h_f_law_tap (hr.mono (by decide)) (L2N.takes_of rfl rfl rfl rfl) rfl rfl (a_cons (d_var 0 (pv 0)) (a_cons d_int a_nil)) (al_cons (al_cons al_nil))) d_int (nomark _))))) (ss_cons (s_set (ps_set (i := 7) sc_f_law_names.nd rfl (.inl rfl) (d_ix hK (d_lst (a_cons (d_op (o_addE hK) (d_slice hK (d_ix hK (d_var 3 (pv 3)) (d_un u_neg d_int)) o_none (o_some d_int)) (d_ix hK (d_var 2 (pv 2)) (d_var 6 (pv 6)))) (a_cons (d_op (o_addE hK) (d_slice hK (d_ix hK (d_var 3 (pv 3)) (d_un u_neg d_int)) o_none (o_some (d_un u_neg d_int))) (d_ix hK (d_var 2 (pv 2)) (d_var 6 (pv 6)))) a_nil))) (d_call h_f_law_tap (hr.mono (by decide)) (L2N.takes_of rfl rfl rfl rfl) rfl rfl (a_cons (d_var 0 (pv 0)) (a_cons d_int a_nil)) (al_cons (al_cons al_nil))))))
    ss_nil) ss_nil)
    (ss_cons (s_setLc (i := 9) (own := [(("turn" : Str), 8)]) rfl sc_f_law_names.nd rfl rfl (sw_true rfl rfl rfl (by decide +kernel)) (i_range1 (pi_range1 rfl T.b_range (a_cons d_int a_nil))) (blkOk_by (N := N_f_law_names) (sc := defScope s_f_law_names) (by decide +kernel)) (fun _ _ _ _ _ => (g_name (pg_name (i := 8) sc_f_law_names.nd rfl (.inl rfl)) (by decide))) (fun _ _ _ _ _ => pts_yes) (fun _ _ _ _ _ => (d_op (o_addE hK) (d_ix hK (d_var 2 (pv 2)) (d_op o_mod (d_op (o_addE hK) (d_var 6 (pv 6)) (d_var 8 (pv 8))) d_int)) (d_ix hK (d_var 2 (pv 2)) (d_var 4 (pv 4))))))
    (ss_cons (s_expr (d_append (pe_bm PySem.F.plainAttrs_list PySem.F.slot_list_append PySem.F.type_list_append mt_append (d_var 3 (pv 3)) (pa_cons (d_if (dt_cmp (o_notIn hK) (d_var 7 (pv 7)) (d_var 3 (pv 3)) rfl) (d_var 7 (pv 7)) (d_ix hK (d_lc (own := [(("word" : Str), 10)]) rfl sc_f_law_names.nd (i_any hK (d_var 9 (pv 9))) (blkOk_by (N := N_f_law_names) (sc := defScope s_f_law_names) (by decide +kernel)) (fun _ _ _ _ _ => (g_name (pg_name (i := 10) sc_f_law_names.nd rfl (.inl rfl)) (by decide))) (fun _ _ _ _ _ => (pts_one (dt_cmp (o_notIn hK) (d_var 10 (pv 10)) (d_var 3 (pv 3)) rfl))) (fun _ _ _ _ _ => (d_var 10 (pv 10)))) d_int)) pa_nil))))
    ss_nil))))))
    (ss_cons (s_ret (d_frz (d_var 3 (pv 3))))
    ss_nil)))
set_option maxHeartbeats 4000000 in
theorem ok_f_law_cask {fa : Addr} {fd : FuncData} (Ff : Fun K "_law_cask" "_law_cask" s_f_law_cask fa fd) (hK : G.K = K) (T : Tx G K w mg)  : FnOk P w K mg base (L2N.CX P w) 1 fa fd ["script", "at"] (spD G 2 f_law_cask) :=
  fn_mk (k := 0) Ff sc_f_law_cask fun cdv A outer s H E hr =>
    (ss_cons (s_set (ps_set (i := 2) sc_f_law_cask.nd rfl (.inl rfl) (d_if (dt_cmp o_lt (d_var 1 (pv 1)) (d_callB (c_len hK) rfl T.b_len (by decide +kernel) (a_cons (d_var 0 (pv 0)) a_nil)) (nomark _)) (d_ix hK (d_var 0 (pv 0)) (d_var 1 (pv 1))) d_int)))
    (ss_cons (s_ret (d_lstS (a_cons (d_callB (c_max rfl) rfl T.b_max (by decide +kernel) (a_cons d_int (a_cons (d_op o_sub (d_callB c_abs rfl T.b_abs (by decide +kernel) (a_cons (d_var 2 (pv 2)) a_nil)) (d_op o_pow d_int d_int)) a_nil))) (a_cons (d_op (o_addE hK) (d_op (o_addE hK) (d_op o_mul (d_op o_mod (d_callTy c_int rfl T.b_int (by decide +kernel) (a_cons (d_var 2 (pv 2)) a_nil)) (d_op (o_addE hK) (d_op o_pow d_int d_int) d_int)) d_int) (d_op o_mul d_int (d_var 1 (pv 1)))) d_int) (a_cons d_int a_nil)))))
    ss_nil))
set_option maxHeartbeats 4000000 in
theorem ok_f_law {fa : Addr} {fd : FuncData} (Ff : Fun K "law" "law" s_f_law fa fd) (hK : G.K = K) (T : Tx G K w mg) (h_f_law_agree : Fn G P w K mg base "_law_agree" 8 ["found", "due"] (f_law_agree 8)) (h_f_law_said : Fn G P w K mg base "_law_said" 9 ["way", "thing"] f_law_said) (h_f_law_history_right : Fn G P w K mg base "_law_history_right" 10 ["cask", "many", "deeds_here"] f_law_history_right) (h_f_law_any_number : Fn G P w K mg base "_law_any_number" 2 ["cask"] f_law_any_number) (h_f_law_tap : Fn G P w K mg base "_law_tap" 1 ["cask", "span"] f_law_tap) (h_f_law_any_deed : Fn G P w K mg base "_law_any_deed" 3 ["cask", "names"] f_law_any_deed) (h_f_law_deed_right : Fn G P w K mg base "_law_deed_right" 10 ["cask", "deed_here"] f_law_deed_right) (h_f_law_names : Fn G P w K mg base "_law_names" 2 ["cask", "many"] f_law_names) (h_f_law_cask : Fn G P w K mg base "_law_cask" 1 ["script", "at"] f_law_cask) : FnOk P w K mg base (L2N.CX P w) 11 fa fd ["script"] (spD G 1 f_law) :=
  fn_mk (k := 10) Ff sc_f_law fun cdv A outer s H E hr =>
    (ss_cons (s_for (vl := [1]) (passes_of rfl) rfl (i_range1 (pi_range1 rfl T.b_range (a_cons (d_callB (c_max rfl) rfl T.b_max (by decide +kernel) (a_cons d_int (a_cons (d_callB (c_min rfl) rfl T.b_min (by decide +kernel) (a_cons d_int (a_cons (d_callB (c_len hK) rfl T.b_len (by decide +kernel) (a_cons (d_var 0 (pv 0)) a_nil)) a_nil))) a_nil))) a_nil))) (g_name (pg_name (i := 1) sc_f_law.nd rfl (.inl rfl)) (by decide)) (ss_cons (s_set (ps_set (i := 2) sc_f_law.nd rfl (.inr rfl) (d_call h_f_law_cask (hr.mono (by decide)) (L2N.takes_of rfl rfl rfl rfl) rfl rfl (a_cons (d_var 0 (pv 0)) (a_cons (d_var 1 (pv 1)) a_nil)) (al_cons (al_cons al_nil)))))
    (ss_cons (s_set (ps_set (i := 3) sc_f_law.nd rfl (.inr rfl) (d_op (o_addE hK) (d_call h_f_law_names (hr.mono (by decide)) (L2N.takes_of rfl rfl rfl rfl) rfl rfl (a_cons (d_var 2 (pv 2)) (a_cons d_int a_nil)) (al_cons (al_cons al_nil))) (d_lst (a_cons d_str (a_cons d_str a_nil))))))
    (ss_cons (s_for (vl := [4]) (passes_of rfl) rfl (i_range1 (pi_range1 rfl T.b_range (a_cons d_int a_nil))) (g_name (pg_name (i := 4) sc_f_law.nd rfl (.inl rfl)) (by decide)) (ss_cons (s_if (dt_not (dt_val (d_call h_f_law_deed_right (hr.mono (by decide)) (L2N.takes_of rfl rfl rfl rfl) rfl rfl (a_cons (d_var 2 (pv 2)) (a_cons (d_call h_f_law_any_deed (hr.mono (by decide)) (L2N.takes_of rfl rfl rfl rfl) rfl rfl (a_cons (d_var 2 (pv 2)) (a_cons (d_var 3 (pv 3)) a_nil)) (al_cons (al_cons al_nil))) a_nil)) (al_cons (al_cons al_nil))))) (ss_cons (s_ret d_bl)
    ss_nil) ss_nil)
    ss_nil))
    (ss_cons (s_for (vl := [4]) (passes_of rfl) rfl (i_range1 (pi_range1 rfl T.b_range (a_cons d_int a_nil))) (g_name (pg_name (i := 4) sc_f_law.nd rfl (.inl rfl)) (by decide)) (ss_cons (s_setLc (i := 5) (own := [(("k" : Str), 6)]) rfl sc_f_law.nd rfl rfl (sw_true rfl rfl rfl (by decide +kernel)) (i_range1 (pi_range1 rfl T.b_range (a_cons (d_call h_f_law_tap (hr.mono (by decide)) (L2N.takes_of rfl rfl rfl rfl) rfl rfl (a_cons (d_var 2 (pv 2)) (a_cons (d_ix hK (d_lst (a_cons d_int (a_cons d_int a_nil))) (d_op o_and (d_var 4 (pv 4)) d_int)) a_nil)) (al_cons (al_cons al_nil))) a_nil))) (blkOk_by (N := N_f_law) (sc := defScope s_f_law) (by decide +kernel)) (fun _ _ _ _ _ => (g_name (pg_name (i := 6) sc_f_law.nd rfl (.inl rfl)) (by decide))) (fun _ _ _ _ _ => pts_yes) (fun _ _ _ _ _ => (d_call h_f_law_any_deed (hr.mono (by decide)) takes0N rfl rfl (a_cons (d_var 2 (pv 2)) (a_cons (d_var 3 (pv 3)) a_nil)) (al_cons (al_cons al_nil)))))
    (ss_cons (s_if (dt_not (dt_val (d_call h_f_law_history_right (hr.mono (by decide)) (L2N.takes_of rfl rfl rfl rfl) rfl rfl (a_cons (d_var 2 (pv 2)) (a_cons (d_call h_f_law_any_number (hr.mono (by decide)) (L2N.takes_of rfl rfl rfl rfl) rfl rfl (a_cons (d_var 2 (pv 2)) a_nil) (al_cons al_nil)) (a_cons (d_var 5 (pv 5)) a_nil))) (al_cons (al_cons (al_cons al_nil)))))) (ss_cons (s_ret d_bl)
    ss_nil) ss_nil)
    ss_nil)))
    ss_nil)))))
    (ss_cons (s_ret (d_and (d_call h_f_law_agree (hr.mono (by decide)) (L2N.takes_of rfl rfl rfl rfl) rfl rfl (a_cons (d_call h_f_law_said (hr.mono (by decide)) (L2N.takes_of rfl rfl rfl rfl) rfl rfl (a_cons d_int (a_cons d_str a_nil)) (al_cons (al_cons al_nil))) (a_cons (d_tup (a_cons d_str (a_cons (d_tup (a_cons d_int (a_cons (d_lst a_nil) a_nil))) a_nil))) a_nil)) (al_cons (al_cons al_nil))) (d_one (d_cmp (o_eqE hK hr.units) (d_call h_f_law_said (hr.mono (by decide)) (L2N.takes_of rfl rfl rfl rfl) rfl rfl (a_cons d_int (a_cons d_str a_nil)) (al_cons (al_cons al_nil))) (d_tup (a_cons d_str (a_cons d_int a_nil))) (nomark _)))))
    ss_nil))
end
end K51
namespace K51
open PySem PySem.Spec PyProof.Rows L2 Tok
set_option maxHeartbeats 8000000 in
theorem all_mk {P : Program} {w : World} {K : PySem.W.Frag} {h : Heap} {mg : Str → Option Value} {fa : Addr} (hlaw : ∀ ns : List Int, ns.length ≤ 63 → ∃ S', f_law [.scr (ns.map .int)] [] = .ok (.bl true) S') (X : K.In h) (Gm : h.Ns mainGlobals mg) (hfa : mg "law" = some (.ref fa))
    {C0 : Addr}
    {C1 : Addr}
    {C2 : Addr}
    {C3 : Addr}
    {C4 : Addr}
    {A_f_law_agree : Addr}
    {od_f_law_agree an_f_law_agree : Option Addr}
    {sl_f_law_agree : Array (Option Value)}
    {oc_f_law_agree kV_f_law_agree dc_f_law_agree pm_f_law_agree cd_f_law_agree ct_f_law_agree : Value}
    {A_M_BadText_init_ : Addr}
    {od_M_BadText_init_ an_M_BadText_init_ : Option Addr}
    {sl_M_BadText_init_ : Array (Option Value)}
    {oc_M_BadText_init_ kV_M_BadText_init_ dc_M_BadText_init_ pm_M_BadText_init_ cd_M_BadText_init_ ct_M_BadText_init_ : Value}
    {A_f_is_integer : Addr}
    {od_f_is_integer an_f_is_integer : Option Addr}
    {sl_f_is_integer : Array (Option Value)}
    {oc_f_is_integer kV_f_is_integer dc_f_is_integer pm_f_is_integer cd_f_is_integer ct_f_is_integer : Value}
    {A_f_is_from : Addr}
    {od_f_is_from an_f_is_from : Option Addr}
    {sl_f_is_from : Array (Option Value)}
    {oc_f_is_from kV_f_is_from dc_f_is_from pm_f_is_from cd_f_is_from ct_f_is_from : Value}
    {A_f_is_ascending_tuple : Addr}
    {od_f_is_ascending_tuple an_f_is_ascending_tuple : Option Addr}
    {sl_f_is_ascending_tuple : Array (Option Value)}
    {oc_f_is_ascending_tuple kV_f_is_ascending_tuple dc_f_is_ascending_tuple pm_f_is_ascending_tuple cd_f_is_ascending_tuple ct_f_is_ascending_tuple : Value}
    {A_f_is_key : Addr}
    {od_f_is_key an_f_is_key : Option Addr}
    {sl_f_is_key : Array (Option Value)}
    {oc_f_is_key kV_f_is_key dc_f_is_key pm_f_is_key cd_f_is_key ct_f_is_key : Value}
    {A_f_is_entry : Addr}
    {od_f_is_entry an_f_is_entry : Option Addr}
    {sl_f_is_entry : Array (Option Value)}
    {oc_f_is_entry kV_f_is_entry dc_f_is_entry pm_f_is_entry cd_f_is_entry ct_f_is_entry : Value}
    {A_f_has_deed_word : Addr}
    {od_f_has_deed_word an_f_has_deed_word : Option Addr}
    {sl_f_has_deed_word : Array (Option Value)}
    {oc_f_has_deed_word kV_f_has_deed_word dc_f_has_deed_word pm_f_has_deed_word cd_f_has_deed_word ct_f_has_deed_word : Value}
    {A_f_is_deed : Addr}
    {od_f_is_deed an_f_is_deed : Option Addr}
    {sl_f_is_deed : Array (Option Value)}
    {oc_f_is_deed kV_f_is_deed dc_f_is_deed pm_f_is_deed cd_f_is_deed ct_f_is_deed : Value}
    {A_f_number_of : Addr}
    {od_f_number_of an_f_number_of : Option Addr}
    {sl_f_number_of : Array (Option Value)}
    {oc_f_number_of kV_f_number_of dc_f_number_of pm_f_number_of cd_f_number_of ct_f_number_of : Value}
    {A_f_ghosts_in : Addr}
    {od_f_ghosts_in an_f_ghosts_in : Option Addr}
    {sl_f_ghosts_in : Array (Option Value)}
    {oc_f_ghosts_in kV_f_ghosts_in dc_f_ghosts_in pm_f_ghosts_in cd_f_ghosts_in ct_f_ghosts_in : Value}
    {A_f_entry_in : Addr}
    {od_f_entry_in an_f_entry_in : Option Addr}
    {sl_f_entry_in : Array (Option Value)}
    {oc_f_entry_in kV_f_entry_in dc_f_entry_in pm_f_entry_in cd_f_entry_in ct_f_entry_in : Value}
    {A_f_deed_in : Addr}
    {od_f_deed_in an_f_deed_in : Option Addr}
    {sl_f_deed_in : Array (Option Value)}
    {oc_f_deed_in kV_f_deed_in dc_f_deed_in pm_f_deed_in cd_f_deed_in ct_f_deed_in : Value}
    {A_f_check_text : Addr}
    {od_f_check_text an_f_check_text : Option Addr}
    {sl_f_check_text : Array (Option Value)}
    {oc_f_check_text kV_f_check_text dc_f_check_text pm_f_check_text cd_f_check_text ct_f_check_text : Value}
    {A_f_read_history : Addr}
    {od_f_read_history an_f_read_history : Option Addr}
    {sl_f_read_history : Array (Option Value)}
    {oc_f_read_history kV_f_read_history dc_f_read_history pm_f_read_history cd_f_read_history ct_f_read_history : Value}
    {A_f_read_deed : Addr}
    {od_f_read_deed an_f_read_deed : Option Addr}
    {sl_f_read_deed : Array (Option Value)}
    {oc_f_read_deed kV_f_read_deed dc_f_read_deed pm_f_read_deed cd_f_read_deed ct_f_read_deed : Value}
    {A_f_entry_text : Addr}
    {od_f_entry_text an_f_entry_text : Option Addr}
    {sl_f_entry_text : Array (Option Value)}
    {oc_f_entry_text kV_f_entry_text dc_f_entry_text pm_f_entry_text cd_f_entry_text ct_f_entry_text : Value}
    {A_f_deed_line : Addr}
    {od_f_deed_line an_f_deed_line : Option Addr}
    {sl_f_deed_line : Array (Option Value)}
    {oc_f_deed_line kV_f_deed_line dc_f_deed_line pm_f_deed_line cd_f_deed_line ct_f_deed_line : Value}
    {A_f_history_text : Addr}
    {od_f_history_text an_f_history_text : Option Addr}
    {sl_f_history_text : Array (Option Value)}
    {oc_f_history_text kV_f_history_text dc_f_history_text pm_f_history_text cd_f_history_text ct_f_history_text : Value}
    {A_f_is_history_form : Addr}
    {od_f_is_history_form an_f_is_history_form : Option Addr}
    {sl_f_is_history_form : Array (Option Value)}
    {oc_f_is_history_form kV_f_is_history_form dc_f_is_history_form pm_f_is_history_form cd_f_is_history_form ct_f_is_history_form : Value}
    {A_f_show_history : Addr}
    {od_f_show_history an_f_show_history : Option Addr}
    {sl_f_show_history : Array (Option Value)}
    {oc_f_show_history kV_f_show_history dc_f_show_history pm_f_show_history cd_f_show_history ct_f_show_history : Value}
    {A_f_show_deed : Addr}
    {od_f_show_deed an_f_show_deed : Option Addr}
    {sl_f_show_deed : Array (Option Value)}
    {oc_f_show_deed kV_f_show_deed dc_f_show_deed pm_f_show_deed cd_f_show_deed ct_f_show_deed : Value}
    {A_f_law_asked : Addr}
    {od_f_law_asked an_f_law_asked : Option Addr}
    {sl_f_law_asked : Array (Option Value)}
    {oc_f_law_asked kV_f_law_asked dc_f_law_asked pm_f_law_asked cd_f_law_asked ct_f_law_asked : Value}
    {A_f_law_said : Addr}
    {od_f_law_said an_f_law_said : Option Addr}
    {sl_f_law_said : Array (Option Value)}
    {oc_f_law_said kV_f_law_said dc_f_law_said pm_f_law_said cd_f_law_said ct_f_law_said : Value}
    {A_f_law_is_whole : Addr}
    {od_f_law_is_whole an_f_law_is_whole : Option Addr}
    {sl_f_law_is_whole : Array (Option Value)}
    {oc_f_law_is_whole kV_f_law_is_whole dc_f_law_is_whole pm_f_law_is_whole cd_f_law_is_whole ct_f_law_is_whole : Value}
    {A_f_law_is_name : Addr}
    {od_f_law_is_name an_f_law_is_name : Option Addr}
    {sl_f_law_is_name : Array (Option Value)}
    {oc_f_law_is_name kV_f_law_is_name dc_f_law_is_name pm_f_law_is_name cd_f_law_is_name ct_f_law_is_name : Value}
    {A_f_law_entry_good : Addr}
    {od_f_law_entry_good an_f_law_entry_good : Option Addr}
    {sl_f_law_entry_good : Array (Option Value)}
    {oc_f_law_entry_good kV_f_law_entry_good dc_f_law_entry_good pm_f_law_entry_good cd_f_law_entry_good ct_f_law_entry_good : Value}
    {A_f_law_sorts : Addr}
    {od_f_law_sorts an_f_law_sorts : Option Addr}
    {sl_f_law_sorts : Array (Option Value)}
    {oc_f_law_sorts kV_f_law_sorts dc_f_law_sorts pm_f_law_sorts cd_f_law_sorts ct_f_law_sorts : Value}
    {A_f_law_deed_words : Addr}
    {od_f_law_deed_words an_f_law_deed_words : Option Addr}
    {sl_f_law_deed_words : Array (Option Value)}
    {oc_f_law_deed_words kV_f_law_deed_words dc_f_law_deed_words pm_f_law_deed_words cd_f_law_deed_words ct_f_law_deed_words : Value}
    {A_f_law_deed_good : Addr}
    {od_f_law_deed_good an_f_law_deed_good : Option Addr}
    {sl_f_law_deed_good : Array (Option Value)}
    {oc_f_law_deed_good kV_f_law_deed_good dc_f_law_deed_good pm_f_law_deed_good cd_f_law_deed_good ct_f_law_deed_good : Value}
    {A_f_law_number_of : Addr}
    {od_f_law_number_of an_f_law_number_of : Option Addr}
    {sl_f_law_number_of : Array (Option Value)}
    {oc_f_law_number_of kV_f_law_number_of dc_f_law_number_of pm_f_law_number_of cd_f_law_number_of ct_f_law_number_of : Value}
    {A_f_law_line_deed : Addr}
    {od_f_law_line_deed an_f_law_line_deed : Option Addr}
    {sl_f_law_line_deed : Array (Option Value)}
    {oc_f_law_line_deed kV_f_law_line_deed dc_f_law_line_deed pm_f_law_line_deed cd_f_law_line_deed ct_f_law_line_deed : Value}
    {A_f_law_read_history : Addr}
    {od_f_law_read_history an_f_law_read_history : Option Addr}
    {sl_f_law_read_history : Array (Option Value)}
    {oc_f_law_read_history kV_f_law_read_history dc_f_law_read_history pm_f_law_read_history cd_f_law_read_history ct_f_law_read_history : Value}
    {A_f_law_tap : Addr}
    {od_f_law_tap an_f_law_tap : Option Addr}
    {sl_f_law_tap : Array (Option Value)}
    {oc_f_law_tap kV_f_law_tap dc_f_law_tap pm_f_law_tap cd_f_law_tap ct_f_law_tap : Value}
    {A_f_law_bent_text : Addr}
    {od_f_law_bent_text an_f_law_bent_text : Option Addr}
    {sl_f_law_bent_text : Array (Option Value)}
    {oc_f_law_bent_text kV_f_law_bent_text dc_f_law_bent_text pm_f_law_bent_text cd_f_law_bent_text ct_f_law_bent_text : Value}
    {A_f_law_entry_text : Addr}
    {od_f_law_entry_text an_f_law_entry_text : Option Addr}
    {sl_f_law_entry_text : Array (Option Value)}
    {oc_f_law_entry_text kV_f_law_entry_text dc_f_law_entry_text pm_f_law_entry_text cd_f_law_entry_text ct_f_law_entry_text : Value}
    {A_f_law_deed_text : Addr}
    {od_f_law_deed_text an_f_law_deed_text : Option Addr}
    {sl_f_law_deed_text : Array (Option Value)}
    {oc_f_law_deed_text kV_f_law_deed_text dc_f_law_deed_text pm_f_law_deed_text cd_f_law_deed_text ct_f_law_deed_text : Value}
    {A_f_law_bent_deed : Addr}
    {od_f_law_bent_deed an_f_law_bent_deed : Option Addr}
    {sl_f_law_bent_deed : Array (Option Value)}
    {oc_f_law_bent_deed kV_f_law_bent_deed dc_f_law_bent_deed pm_f_law_bent_deed cd_f_law_bent_deed ct_f_law_bent_deed : Value}
    {A_f_law_history_right : Addr}
    {od_f_law_history_right an_f_law_history_right : Option Addr}
    {sl_f_law_history_right : Array (Option Value)}
    {oc_f_law_history_right kV_f_law_history_right dc_f_law_history_right pm_f_law_history_right cd_f_law_history_right ct_f_law_history_right : Value}
    {A_f_law_any_number : Addr}
    {od_f_law_any_number an_f_law_any_number : Option Addr}
    {sl_f_law_any_number : Array (Option Value)}
    {oc_f_law_any_number kV_f_law_any_number dc_f_law_any_number pm_f_law_any_number cd_f_law_any_number ct_f_law_any_number : Value}
    {A_f_law_any_deed : Addr}
    {od_f_law_any_deed an_f_law_any_deed : Option Addr}
    {sl_f_law_any_deed : Array (Option Value)}
    {oc_f_law_any_deed kV_f_law_any_deed dc_f_law_any_deed pm_f_law_any_deed cd_f_law_any_deed ct_f_law_any_deed : Value}
    {A_f_law_deed_right : Addr}
    {od_f_law_deed_right an_f_law_deed_right : Option Addr}
    {sl_f_law_deed_right : Array (Option Value)}
    {oc_f_law_deed_right kV_f_law_deed_right dc_f_law_deed_right pm_f_law_deed_right cd_f_law_deed_right ct_f_law_deed_right : Value}
    {A_f_law_names : Addr}
    {od_f_law_names an_f_law_names : Option Addr}
    {sl_f_law_names : Array (Option Value)}
    {oc_f_law_names kV_f_law_names dc_f_law_names pm_f_law_names cd_f_law_names ct_f_law_names : Value}
    {A_f_law_cask : Addr}
    {od_f_law_cask an_f_law_cask : Option Addr}
    {sl_f_law_cask : Array (Option Value)}
    {oc_f_law_cask kV_f_law_cask dc_f_law_cask pm_f_law_cask cd_f_law_cask ct_f_law_cask : Value}
    {A_f_law : Addr}
    {od_f_law an_f_law : Option Addr}
    {sl_f_law : Array (Option Value)}
    {oc_f_law kV_f_law dc_f_law pm_f_law cd_f_law ct_f_law : Value}
    {tk199 : Tok}
    {tk200 : Tok}
    {tk201 : Tok}
    {tk202 : Tok}
    {tk203 : Tok}
    {tk204 : Tok}
    {tk205 : Tok}
    {tk206 : Tok}
    {tk207 : Tok}
    {xn257 xq257 : Str}
    {xN257 : Addr}
    {xb257 xs257 : List Value}
    {xl257 : List Str}
    {xa257 : Bool}
    {xc257 : Option Bool}
    {xd257 : Option Addr}
    {xe257 xf257 xg257 xh257 xi257 : Option Value}
    {wa260 : Addr}
    {wn260 : Nat}
    {wh260_0 wh260_1 wh260_2 wh260_3 wh260_4 wh260_5 wh260_6 wh260_7 wh260_8 wh260_9 wh260_10 wh260_11 : Int}
    {wt260_0 wt260_1 wt260_2 wt260_3 wt260_4 wt260_5 wt260_6 wt260_7 wt260_8 wt260_9 wt260_10 wt260_11 : Tok}
    {wv260_0 wv260_1 wv260_2 wv260_3 wv260_4 wv260_5 wv260_6 wv260_7 wv260_8 wv260_9 wv260_10 wv260_11 : Addr}
    {tk264_0 tk264_1 : Tok}
    {td264 : Option Addr}
    {tn264 : Nat}
    {ts264 : Array (Option Value)}
    {tk265_0 : Tok}
    {td265 : Option Addr}
    {tn265 : Nat}
    {ts265 : Array (Option Value)}
    {tk266_0 tk266_1 : Tok}
    {td266 : Option Addr}
    {tn266 : Nat}
    {ts266 : Array (Option Value)}
    {tk267_0 tk267_1 tk267_2 tk267_3 : Tok}
    {td267 : Option Addr}
    {tn267 : Nat}
    {ts267 : Array (Option Value)}
    {td268 : Option Addr}
    {tn268 : Nat}
    {ts268 : Array (Option Value)}
    {tk269_0 tk269_1 : Tok}
    {td269 : Option Addr}
    {tn269 : Nat}
    {ts269 : Array (Option Value)}
    {tk270_0 tk270_1 : Tok}
    {td270 : Option Addr}
    {tn270 : Nat}
    {ts270 : Array (Option Value)}
    {tk271_0 : Tok}
    {td271 : Option Addr}
    {tn271 : Nat}
    {ts271 : Array (Option Value)}
    {tk272_0 tk272_1 : Tok}
    {td272 : Option Addr}
    {tn272 : Nat}
    {ts272 : Array (Option Value)}
    {tk273_0 : Tok}
    {td273 : Option Addr}
    {tn273 : Nat}
    {ts273 : Array (Option Value)}
    {tk274_0 : Tok}
    {td274 : Option Addr}
    {tn274 : Nat}
    {ts274 : Array (Option Value)}
    {tk275_0 : Tok}
    {td275 : Option Addr}
    {tn275 : Nat}
    {ts275 : Array (Option Value)}
    (q0 : PySem.W.nsIn K mainGlobals "StoreError" = some (some (.ref C0)))
    (q1 : PySem.W.nsIn K mainGlobals "BadBook" = some (some (.ref C1)))
    (q2 : PySem.W.nsIn K mainGlobals "BadDeed" = some (some (.ref C2)))
    (q3 : PySem.W.nsIn K mainGlobals "BadHistory" = some (some (.ref C3)))
    (q4 : PySem.W.nsIn K mainGlobals "BadText" = some (some (.ref C4)))
    (q5 : PySem.W.nsIn K mainGlobals "_law_agree" = some (some (.ref A_f_law_agree)))
    (q6 : K.lookup A_f_law_agree = some ⟨oc_f_law_agree, od_f_law_agree, .func (PySem.W.fnOf "_law_agree" "_law_agree" (defArgs s_f_law_agree) (defBody s_f_law_agree) (defScope s_f_law_agree) .none kV_f_law_agree dc_f_law_agree pm_f_law_agree an_f_law_agree cd_f_law_agree ct_f_law_agree), sl_f_law_agree⟩)
    (q7 : PySem.W.codeIn K cd_f_law_agree "_law_agree" = true)
    (q8 : PySem.W.keepIn K (.ref A_f_law_agree) = true)
    (q9 : PySem.W.findIn K (.ref C4) "__init__" = some (some (.ref A_M_BadText_init_)))
    (q10 : K.lookup A_M_BadText_init_ = some ⟨oc_M_BadText_init_, od_M_BadText_init_, .func (PySem.W.fnOf "__init__" "BadText.__init__" (defArgs s_M_BadText_init_) (defBody s_M_BadText_init_) (defScope s_M_BadText_init_) .none kV_M_BadText_init_ dc_M_BadText_init_ pm_M_BadText_init_ an_M_BadText_init_ cd_M_BadText_init_ ct_M_BadText_init_), sl_M_BadText_init_⟩)
    (q11 : PySem.W.codeIn K cd_M_BadText_init_ "BadText.__init__" = true)
    (q12 : PySem.W.keepIn K (.ref A_M_BadText_init_) = true)
    (q13 : PySem.W.nsIn K mainGlobals "is_integer" = some (some (.ref A_f_is_integer)))
    (q14 : K.lookup A_f_is_integer = some ⟨oc_f_is_integer, od_f_is_integer, .func (PySem.W.fnOf "is_integer" "is_integer" (defArgs s_f_is_integer) (defBody s_f_is_integer) (defScope s_f_is_integer) .none kV_f_is_integer dc_f_is_integer pm_f_is_integer an_f_is_integer cd_f_is_integer ct_f_is_integer), sl_f_is_integer⟩)
    (q15 : PySem.W.codeIn K cd_f_is_integer "is_integer" = true)
    (q16 : PySem.W.keepIn K (.ref A_f_is_integer) = true)
    (q17 : PySem.W.nsIn K mainGlobals "is_from" = some (some (.ref A_f_is_from)))
    (q18 : K.lookup A_f_is_from = some ⟨oc_f_is_from, od_f_is_from, .func (PySem.W.fnOf "is_from" "is_from" (defArgs s_f_is_from) (defBody s_f_is_from) (defScope s_f_is_from) .none kV_f_is_from dc_f_is_from pm_f_is_from an_f_is_from cd_f_is_from ct_f_is_from), sl_f_is_from⟩)
    (q19 : PySem.W.codeIn K cd_f_is_from "is_from" = true)
    (q20 : PySem.W.keepIn K (.ref A_f_is_from) = true)
    (q21 : PySem.W.nsIn K mainGlobals "is_ascending_tuple" = some (some (.ref A_f_is_ascending_tuple)))
    (q22 : K.lookup A_f_is_ascending_tuple = some ⟨oc_f_is_ascending_tuple, od_f_is_ascending_tuple, .func (PySem.W.fnOf "is_ascending_tuple" "is_ascending_tuple" (defArgs s_f_is_ascending_tuple) (defBody s_f_is_ascending_tuple) (defScope s_f_is_ascending_tuple) .none kV_f_is_ascending_tuple dc_f_is_ascending_tuple pm_f_is_ascending_tuple an_f_is_ascending_tuple cd_f_is_ascending_tuple ct_f_is_ascending_tuple), sl_f_is_ascending_tuple⟩)
    (q23 : PySem.W.codeIn K cd_f_is_ascending_tuple "is_ascending_tuple" = true)
    (q24 : PySem.W.keepIn K (.ref A_f_is_ascending_tuple) = true)
    (q25 : PySem.W.nsIn K mainGlobals "is_key" = some (some (.ref A_f_is_key)))
    (q26 : K.lookup A_f_is_key = some ⟨oc_f_is_key, od_f_is_key, .func (PySem.W.fnOf "is_key" "is_key" (defArgs s_f_is_key) (defBody s_f_is_key) (defScope s_f_is_key) .none kV_f_is_key dc_f_is_key pm_f_is_key an_f_is_key cd_f_is_key ct_f_is_key), sl_f_is_key⟩)
    (q27 : PySem.W.codeIn K cd_f_is_key "is_key" = true)
    (q28 : PySem.W.keepIn K (.ref A_f_is_key) = true)
    (q29 : PySem.W.nsIn K mainGlobals "is_entry" = some (some (.ref A_f_is_entry)))
    (q30 : K.lookup A_f_is_entry = some ⟨oc_f_is_entry, od_f_is_entry, .func (PySem.W.fnOf "is_entry" "is_entry" (defArgs s_f_is_entry) (defBody s_f_is_entry) (defScope s_f_is_entry) .none kV_f_is_entry dc_f_is_entry pm_f_is_entry an_f_is_entry cd_f_is_entry ct_f_is_entry), sl_f_is_entry⟩)
    (q31 : PySem.W.codeIn K cd_f_is_entry "is_entry" = true)
    (q32 : PySem.W.keepIn K (.ref A_f_is_entry) = true)
    (q33 : PySem.W.nsIn K mainGlobals "has_deed_word" = some (some (.ref A_f_has_deed_word)))
    (q34 : K.lookup A_f_has_deed_word = some ⟨oc_f_has_deed_word, od_f_has_deed_word, .func (PySem.W.fnOf "has_deed_word" "has_deed_word" (defArgs s_f_has_deed_word) (defBody s_f_has_deed_word) (defScope s_f_has_deed_word) .none kV_f_has_deed_word dc_f_has_deed_word pm_f_has_deed_word an_f_has_deed_word cd_f_has_deed_word ct_f_has_deed_word), sl_f_has_deed_word⟩)
    (q35 : PySem.W.codeIn K cd_f_has_deed_word "has_deed_word" = true)
    (q36 : PySem.W.keepIn K (.ref A_f_has_deed_word) = true)
    (q37 : PySem.W.nsIn K mainGlobals "is_deed" = some (some (.ref A_f_is_deed)))
    (q38 : K.lookup A_f_is_deed = some ⟨oc_f_is_deed, od_f_is_deed, .func (PySem.W.fnOf "is_deed" "is_deed" (defArgs s_f_is_deed) (defBody s_f_is_deed) (defScope s_f_is_deed) .none kV_f_is_deed dc_f_is_deed pm_f_is_deed an_f_is_deed cd_f_is_deed ct_f_is_deed), sl_f_is_deed⟩)
    (q39 : PySem.W.codeIn K cd_f_is_deed "is_deed" = true)
    (q40 : PySem.W.keepIn K (.ref A_f_is_deed) = true)
    (q41 : PySem.W.nsIn K mainGlobals "number_of" = some (some (.ref A_f_number_of)))
    (q42 : K.lookup A_f_number_of = some ⟨oc_f_number_of, od_f_number_of, .func (PySem.W.fnOf "number_of" "number_of" (defArgs s_f_number_of) (defBody s_f_number_of) (defScope s_f_number_of) .none kV_f_number_of dc_f_number_of pm_f_number_of an_f_number_of cd_f_number_of ct_f_number_of), sl_f_number_of⟩)
    (q43 : PySem.W.codeIn K cd_f_number_of "number_of" = true)
    (q44 : PySem.W.keepIn K (.ref A_f_number_of) = true)
    (q45 : PySem.W.nsIn K mainGlobals "ghosts_in" = some (some (.ref A_f_ghosts_in)))
    (q46 : K.lookup A_f_ghosts_in = some ⟨oc_f_ghosts_in, od_f_ghosts_in, .func (PySem.W.fnOf "ghosts_in" "ghosts_in" (defArgs s_f_ghosts_in) (defBody s_f_ghosts_in) (defScope s_f_ghosts_in) .none kV_f_ghosts_in dc_f_ghosts_in pm_f_ghosts_in an_f_ghosts_in cd_f_ghosts_in ct_f_ghosts_in), sl_f_ghosts_in⟩)
    (q47 : PySem.W.codeIn K cd_f_ghosts_in "ghosts_in" = true)
    (q48 : PySem.W.keepIn K (.ref A_f_ghosts_in) = true)
    (q49 : PySem.W.nsIn K mainGlobals "entry_in" = some (some (.ref A_f_entry_in)))
    (q50 : K.lookup A_f_entry_in = some ⟨oc_f_entry_in, od_f_entry_in, .func (PySem.W.fnOf "entry_in" "entry_in" (defArgs s_f_entry_in) (defBody s_f_entry_in) (defScope s_f_entry_in) .none kV_f_entry_in dc_f_entry_in pm_f_entry_in an_f_entry_in cd_f_entry_in ct_f_entry_in), sl_f_entry_in⟩)
    (q51 : PySem.W.codeIn K cd_f_entry_in "entry_in" = true)
    (q52 : PySem.W.keepIn K (.ref A_f_entry_in) = true)
    (q53 : PySem.W.nsIn K mainGlobals "deed_in" = some (some (.ref A_f_deed_in)))
    (q54 : K.lookup A_f_deed_in = some ⟨oc_f_deed_in, od_f_deed_in, .func (PySem.W.fnOf "deed_in" "deed_in" (defArgs s_f_deed_in) (defBody s_f_deed_in) (defScope s_f_deed_in) .none kV_f_deed_in dc_f_deed_in pm_f_deed_in an_f_deed_in cd_f_deed_in ct_f_deed_in), sl_f_deed_in⟩)
    (q55 : PySem.W.codeIn K cd_f_deed_in "deed_in" = true)
    (q56 : PySem.W.keepIn K (.ref A_f_deed_in) = true)
    (q57 : PySem.W.nsIn K mainGlobals "check_text" = some (some (.ref A_f_check_text)))
    (q58 : K.lookup A_f_check_text = some ⟨oc_f_check_text, od_f_check_text, .func (PySem.W.fnOf "check_text" "check_text" (defArgs s_f_check_text) (defBody s_f_check_text) (defScope s_f_check_text) .none kV_f_check_text dc_f_check_text pm_f_check_text an_f_check_text cd_f_check_text ct_f_check_text), sl_f_check_text⟩)
    (q59 : PySem.W.codeIn K cd_f_check_text "check_text" = true)
    (q60 : PySem.W.keepIn K (.ref A_f_check_text) = true)
    (q61 : PySem.W.nsIn K mainGlobals "read_history" = some (some (.ref A_f_read_history)))
    (q62 : K.lookup A_f_read_history = some ⟨oc_f_read_history, od_f_read_history, .func (PySem.W.fnOf "read_history" "read_history" (defArgs s_f_read_history) (defBody s_f_read_history) (defScope s_f_read_history) .none kV_f_read_history dc_f_read_history pm_f_read_history an_f_read_history cd_f_read_history ct_f_read_history), sl_f_read_history⟩)
    (q63 : PySem.W.codeIn K cd_f_read_history "read_history" = true)
    (q64 : PySem.W.keepIn K (.ref A_f_read_history) = true)
    (q65 : PySem.W.nsIn K mainGlobals "read_deed" = some (some (.ref A_f_read_deed)))
    (q66 : K.lookup A_f_read_deed = some ⟨oc_f_read_deed, od_f_read_deed, .func (PySem.W.fnOf "read_deed" "read_deed" (defArgs s_f_read_deed) (defBody s_f_read_deed) (defScope s_f_read_deed) .none kV_f_read_deed dc_f_read_deed pm_f_read_deed an_f_read_deed cd_f_read_deed ct_f_read_deed), sl_f_read_deed⟩)
    (q67 : PySem.W.codeIn K cd_f_read_deed "read_deed" = true)
    (q68 : PySem.W.keepIn K (.ref A_f_read_deed) = true)
    (q69 : PySem.W.nsIn K mainGlobals "entry_text" = some (some (.ref A_f_entry_text)))
    (q70 : K.lookup A_f_entry_text = some ⟨oc_f_entry_text, od_f_entry_text, .func (PySem.W.fnOf "entry_text" "entry_text" (defArgs s_f_entry_text) (defBody s_f_entry_text) (defScope s_f_entry_text) .none kV_f_entry_text dc_f_entry_text pm_f_entry_text an_f_entry_text cd_f_entry_text ct_f_entry_text), sl_f_entry_text⟩)
    (q71 : PySem.W.codeIn K cd_f_entry_text "entry_text" = true)
    (q72 : PySem.W.keepIn K (.ref A_f_entry_text) = true)
    (q73 : PySem.W.nsIn K mainGlobals "deed_line" = some (some (.ref A_f_deed_line)))
    (q74 : K.lookup A_f_deed_line = some ⟨oc_f_deed_line, od_f_deed_line, .func (PySem.W.fnOf "deed_line" "deed_line" (defArgs s_f_deed_line) (defBody s_f_deed_line) (defScope s_f_deed_line) .none kV_f_deed_line dc_f_deed_line pm_f_deed_line an_f_deed_line cd_f_deed_line ct_f_deed_line), sl_f_deed_line⟩)
    (q75 : PySem.W.codeIn K cd_f_deed_line "deed_line" = true)
    (q76 : PySem.W.keepIn K (.ref A_f_deed_line) = true)
    (q77 : PySem.W.nsIn K mainGlobals "history_text" = some (some (.ref A_f_history_text)))
    (q78 : K.lookup A_f_history_text = some ⟨oc_f_history_text, od_f_history_text, .func (PySem.W.fnOf "history_text" "history_text" (defArgs s_f_history_text) (defBody s_f_history_text) (defScope s_f_history_text) .none kV_f_history_text dc_f_history_text pm_f_history_text an_f_history_text cd_f_history_text ct_f_history_text), sl_f_history_text⟩)
    (q79 : PySem.W.codeIn K cd_f_history_text "history_text" = true)
    (q80 : PySem.W.keepIn K (.ref A_f_history_text) = true)
    (q81 : PySem.W.nsIn K mainGlobals "is_history_form" = some (some (.ref A_f_is_history_form)))
    (q82 : K.lookup A_f_is_history_form = some ⟨oc_f_is_history_form, od_f_is_history_form, .func (PySem.W.fnOf "is_history_form" "is_history_form" (defArgs s_f_is_history_form) (defBody s_f_is_history_form) (defScope s_f_is_history_form) .none kV_f_is_history_form dc_f_is_history_form pm_f_is_history_form an_f_is_history_form cd_f_is_history_form ct_f_is_history_form), sl_f_is_history_form⟩)
    (q83 : PySem.W.codeIn K cd_f_is_history_form "is_history_form" = true)
    (q84 : PySem.W.keepIn K (.ref A_f_is_history_form) = true)
    (q85 : PySem.W.nsIn K mainGlobals "show_history" = some (some (.ref A_f_show_history)))
    (q86 : K.lookup A_f_show_history = some ⟨oc_f_show_history, od_f_show_history, .func (PySem.W.fnOf "show_history" "show_history" (defArgs s_f_show_history) (defBody s_f_show_history) (defScope s_f_show_history) .none kV_f_show_history dc_f_show_history pm_f_show_history an_f_show_history cd_f_show_history ct_f_show_history), sl_f_show_history⟩)
    (q87 : PySem.W.codeIn K cd_f_show_history "show_history" = true)
    (q88 : PySem.W.keepIn K (.ref A_f_show_history) = true)
    (q89 : PySem.W.nsIn K mainGlobals "show_deed" = some (some (.ref A_f_show_deed)))
    (q90 : K.lookup A_f_show_deed = some ⟨oc_f_show_deed, od_f_show_deed, .func (PySem.W.fnOf "show_deed" "show_deed" (defArgs s_f_show_deed) (defBody s_f_show_deed) (defScope s_f_show_deed) .none kV_f_show_deed dc_f_show_deed pm_f_show_deed an_f_show_deed cd_f_show_deed ct_f_show_deed), sl_f_show_deed⟩)
    (q91 : PySem.W.codeIn K cd_f_show_deed "show_deed" = true)
    (q92 : PySem.W.keepIn K (.ref A_f_show_deed) = true)
    (q93 : PySem.W.nsIn K mainGlobals "_law_asked" = some (some (.ref A_f_law_asked)))
    (q94 : K.lookup A_f_law_asked = some ⟨oc_f_law_asked, od_f_law_asked, .func (PySem.W.fnOf "_law_asked" "_law_asked" (defArgs s_f_law_asked) (defBody s_f_law_asked) (defScope s_f_law_asked) .none kV_f_law_asked dc_f_law_asked pm_f_law_asked an_f_law_asked cd_f_law_asked ct_f_law_asked), sl_f_law_asked⟩)
    (q95 : PySem.W.codeIn K cd_f_law_asked "_law_asked" = true)
    (q96 : PySem.W.keepIn K (.ref A_f_law_asked) = true)
    (q97 : PySem.W.nsIn K mainGlobals "_law_said" = some (some (.ref A_f_law_said)))
    (q98 : K.lookup A_f_law_said = some ⟨oc_f_law_said, od_f_law_said, .func (PySem.W.fnOf "_law_said" "_law_said" (defArgs s_f_law_said) (defBody s_f_law_said) (defScope s_f_law_said) .none kV_f_law_said dc_f_law_said pm_f_law_said an_f_law_said cd_f_law_said ct_f_law_said), sl_f_law_said⟩)
    (q99 : PySem.W.codeIn K cd_f_law_said "_law_said" = true)
    (q100 : PySem.W.keepIn K (.ref A_f_law_said) = true)
    (q101 : PySem.W.nsIn K mainGlobals "_law_is_whole" = some (some (.ref A_f_law_is_whole)))
    (q102 : K.lookup A_f_law_is_whole = some ⟨oc_f_law_is_whole, od_f_law_is_whole, .func (PySem.W.fnOf "_law_is_whole" "_law_is_whole" (defArgs s_f_law_is_whole) (defBody s_f_law_is_whole) (defScope s_f_law_is_whole) .none kV_f_law_is_whole dc_f_law_is_whole pm_f_law_is_whole an_f_law_is_whole cd_f_law_is_whole ct_f_law_is_whole), sl_f_law_is_whole⟩)
    (q103 : PySem.W.codeIn K cd_f_law_is_whole "_law_is_whole" = true)
    (q104 : PySem.W.keepIn K (.ref A_f_law_is_whole) = true)
    (q105 : PySem.W.nsIn K mainGlobals "_law_is_name" = some (some (.ref A_f_law_is_name)))
    (q106 : K.lookup A_f_law_is_name = some ⟨oc_f_law_is_name, od_f_law_is_name, .func (PySem.W.fnOf "_law_is_name" "_law_is_name" (defArgs s_f_law_is_name) (defBody s_f_law_is_name) (defScope s_f_law_is_name) .none kV_f_law_is_name dc_f_law_is_name pm_f_law_is_name an_f_law_is_name cd_f_law_is_name ct_f_law_is_name), sl_f_law_is_name⟩)
    (q107 : PySem.W.codeIn K cd_f_law_is_name "_law_is_name" = true)
    (q108 : PySem.W.keepIn K (.ref A_f_law_is_name) = true)
    (q109 : PySem.W.nsIn K mainGlobals "_law_entry_good" = some (some (.ref A_f_law_entry_good)))
    (q110 : K.lookup A_f_law_entry_good = some ⟨oc_f_law_entry_good, od_f_law_entry_good, .func (PySem.W.fnOf "_law_entry_good" "_law_entry_good" (defArgs s_f_law_entry_good) (defBody s_f_law_entry_good) (defScope s_f_law_entry_good) .none kV_f_law_entry_good dc_f_law_entry_good pm_f_law_entry_good an_f_law_entry_good cd_f_law_entry_good ct_f_law_entry_good), sl_f_law_entry_good⟩)
    (q111 : PySem.W.codeIn K cd_f_law_entry_good "_law_entry_good" = true)
    (q112 : PySem.W.keepIn K (.ref A_f_law_entry_good) = true)
    (q113 : PySem.W.nsIn K mainGlobals "_law_sorts" = some (some (.ref A_f_law_sorts)))
    (q114 : K.lookup A_f_law_sorts = some ⟨oc_f_law_sorts, od_f_law_sorts, .func (PySem.W.fnOf "_law_sorts" "_law_sorts" (defArgs s_f_law_sorts) (defBody s_f_law_sorts) (defScope s_f_law_sorts) .none kV_f_law_sorts dc_f_law_sorts pm_f_law_sorts an_f_law_sorts cd_f_law_sorts ct_f_law_sorts), sl_f_law_sorts⟩)
    (q115 : PySem.W.codeIn K cd_f_law_sorts "_law_sorts" = true)
    (q116 : PySem.W.keepIn K (.ref A_f_law_sorts) = true)
    (q117 : PySem.W.nsIn K mainGlobals "_law_deed_words" = some (some (.ref A_f_law_deed_words)))
    (q118 : K.lookup A_f_law_deed_words = some ⟨oc_f_law_deed_words, od_f_law_deed_words, .func (PySem.W.fnOf "_law_deed_words" "_law_deed_words" (defArgs s_f_law_deed_words) (defBody s_f_law_deed_words) (defScope s_f_law_deed_words) .none kV_f_law_deed_words dc_f_law_deed_words pm_f_law_deed_words an_f_law_deed_words cd_f_law_deed_words ct_f_law_deed_words), sl_f_law_deed_words⟩)
    (q119 : PySem.W.codeIn K cd_f_law_deed_words "_law_deed_words" = true)
    (q120 : PySem.W.keepIn K (.ref A_f_law_deed_words) = true)
    (q121 : PySem.W.nsIn K mainGlobals "_law_deed_good" = some (some (.ref A_f_law_deed_good)))
    (q122 : K.lookup A_f_law_deed_good = some ⟨oc_f_law_deed_good, od_f_law_deed_good, .func (PySem.W.fnOf "_law_deed_good" "_law_deed_good" (defArgs s_f_law_deed_good) (defBody s_f_law_deed_good) (defScope s_f_law_deed_good) .none kV_f_law_deed_good dc_f_law_deed_good pm_f_law_deed_good an_f_law_deed_good cd_f_law_deed_good ct_f_law_deed_good), sl_f_law_deed_good⟩)
    (q123 : PySem.W.codeIn K cd_f_law_deed_good "_law_deed_good" = true)
    (q124 : PySem.W.keepIn K (.ref A_f_law_deed_good) = true)
    (q125 : PySem.W.nsIn K mainGlobals "_law_number_of" = some (some (.ref A_f_law_number_of)))
    (q126 : K.lookup A_f_law_number_of = some ⟨oc_f_law_number_of, od_f_law_number_of, .func (PySem.W.fnOf "_law_number_of" "_law_number_of" (defArgs s_f_law_number_of) (defBody s_f_law_number_of) (defScope s_f_law_number_of) .none kV_f_law_number_of dc_f_law_number_of pm_f_law_number_of an_f_law_number_of cd_f_law_number_of ct_f_law_number_of), sl_f_law_number_of⟩)
    (q127 : PySem.W.codeIn K cd_f_law_number_of "_law_number_of" = true)
    (q128 : PySem.W.keepIn K (.ref A_f_law_number_of) = true)
    (q129 : PySem.W.nsIn K mainGlobals "_law_line_deed" = some (some (.ref A_f_law_line_deed)))
    (q130 : K.lookup A_f_law_line_deed = some ⟨oc_f_law_line_deed, od_f_law_line_deed, .func (PySem.W.fnOf "_law_line_deed" "_law_line_deed" (defArgs s_f_law_line_deed) (defBody s_f_law_line_deed) (defScope s_f_law_line_deed) .none kV_f_law_line_deed dc_f_law_line_deed pm_f_law_line_deed an_f_law_line_deed cd_f_law_line_deed ct_f_law_line_deed), sl_f_law_line_deed⟩)
    (q131 : PySem.W.codeIn K cd_f_law_line_deed "_law_line_deed" = true)
    (q132 : PySem.W.keepIn K (.ref A_f_law_line_deed) = true)
    (q133 : PySem.W.nsIn K mainGlobals "_law_read_history" = some (some (.ref A_f_law_read_history)))
    (q134 : K.lookup A_f_law_read_history = some ⟨oc_f_law_read_history, od_f_law_read_history, .func (PySem.W.fnOf "_law_read_history" "_law_read_history" (defArgs s_f_law_read_history) (defBody s_f_law_read_history) (defScope s_f_law_read_history) .none kV_f_law_read_history dc_f_law_read_history pm_f_law_read_history an_f_law_read_history cd_f_law_read_history ct_f_law_read_history), sl_f_law_read_history⟩)
    (q135 : PySem.W.codeIn K cd_f_law_read_history "_law_read_history" = true)
    (q136 : PySem.W.keepIn K (.ref A_f_law_read_history) = true)
    (q137 : PySem.W.nsIn K mainGlobals "_law_tap" = some (some (.ref A_f_law_tap)))
    (q138 : K.lookup A_f_law_tap = some ⟨oc_f_law_tap, od_f_law_tap, .func (PySem.W.fnOf "_law_tap" "_law_tap" (defArgs s_f_law_tap) (defBody s_f_law_tap) (defScope s_f_law_tap) .none kV_f_law_tap dc_f_law_tap pm_f_law_tap an_f_law_tap cd_f_law_tap ct_f_law_tap), sl_f_law_tap⟩)
    (q139 : PySem.W.codeIn K cd_f_law_tap "_law_tap" = true)
    (q140 : PySem.W.keepIn K (.ref A_f_law_tap) = true)
    (q141 : PySem.W.nsIn K mainGlobals "_law_bent_text" = some (some (.ref A_f_law_bent_text)))
    (q142 : K.lookup A_f_law_bent_text = some ⟨oc_f_law_bent_text, od_f_law_bent_text, .func (PySem.W.fnOf "_law_bent_text" "_law_bent_text" (defArgs s_f_law_bent_text) (defBody s_f_law_bent_text) (defScope s_f_law_bent_text) .none kV_f_law_bent_text dc_f_law_bent_text pm_f_law_bent_text an_f_law_bent_text cd_f_law_bent_text ct_f_law_bent_text), sl_f_law_bent_text⟩)
    (q143 : PySem.W.codeIn K cd_f_law_bent_text "_law_bent_text" = true)
    (q144 : PySem.W.keepIn K (.ref A_f_law_bent_text) = true)
    (q145 : PySem.W.nsIn K mainGlobals "_law_entry_text" = some (some (.ref A_f_law_entry_text)))
    (q146 : K.lookup A_f_law_entry_text = some ⟨oc_f_law_entry_text, od_f_law_entry_text, .func (PySem.W.fnOf "_law_entry_text" "_law_entry_text" (defArgs s_f_law_entry_text) (defBody s_f_law_entry_text) (defScope s_f_law_entry_text) .none kV_f_law_entry_text dc_f_law_entry_text pm_f_law_entry_text an_f_law_entry_text cd_f_law_entry_text ct_f_law_entry_text), sl_f_law_entry_text⟩)
    (q147 : PySem.W.codeIn K cd_f_law_entry_text "_law_entry_text" = true)
    (q148 : PySem.W.keepIn K (.ref A_f_law_entry_text) = true)
    (q149 : PySem.W.nsIn K mainGlobals "_law_deed_text" = some (some (.ref A_f_law_deed_text)))
    (q150 : K.lookup A_f_law_deed_text = some ⟨oc_f_law_deed_text, od_f_law_deed_text, .func (PySem.W.fnOf "_law_deed_text" "_law_deed_text" (defArgs s_f_law_deed_text) (defBody s_f_law_deed_text) (defScope s_f_law_deed_text) .none kV_f_law_deed_text dc_f_law_deed_text pm_f_law_deed_text an_f_law_deed_text cd_f_law_deed_text ct_f_law_deed_text), sl_f_law_deed_text⟩)
    (q151 : PySem.W.codeIn K cd_f_law_deed_text "_law_deed_text" = true)
    (q152 : PySem.W.keepIn K (.ref A_f_law_deed_text) = true)
    (q153 : PySem.W.nsIn K mainGlobals "_law_bent_deed" = some (some (.ref A_f_law_bent_deed)))
    (q154 : K.lookup A_f_law_bent_deed = some ⟨oc_f_law_bent_deed, od_f_law_bent_deed, .func (PySem.W.fnOf "_law_bent_deed" "_law_bent_deed" (defArgs s_f_law_bent_deed) (defBody s_f_law_bent_deed) (defScope s_f_law_bent_deed) .none kV_f_law_bent_deed dc_f_law_bent_deed pm_f_law_bent_deed an_f_law_bent_deed cd_f_law_bent_deed ct_f_law_bent_deed), sl_f_law_bent_deed⟩)
    (q155 : PySem.W.codeIn K cd_f_law_bent_deed "_law_bent_deed" = true)
    (q156 : PySem.W.keepIn K (.ref A_f_law_bent_deed) = true)
    (q157 : PySem.W.nsIn K mainGlobals "_law_history_right" = some (some (.ref A_f_law_history_right)))
    (q158 : K.lookup A_f_law_history_right = some ⟨oc_f_law_history_right, od_f_law_history_right, .func (PySem.W.fnOf "_law_history_right" "_law_history_right" (defArgs s_f_law_history_right) (defBody s_f_law_history_right) (defScope s_f_law_history_right) .none kV_f_law_history_right dc_f_law_history_right pm_f_law_history_right an_f_law_history_right cd_f_law_history_right ct_f_law_history_right), sl_f_law_history_right⟩)
    (q159 : PySem.W.codeIn K cd_f_law_history_right "_law_history_right" = true)
    (q160 : PySem.W.keepIn K (.ref A_f_law_history_right) = true)
    (q161 : PySem.W.nsIn K mainGlobals "_law_any_number" = some (some (.ref A_f_law_any_number)))
    (q162 : K.lookup A_f_law_any_number = some ⟨oc_f_law_any_number, od_f_law_any_number, .func (PySem.W.fnOf "_law_any_number" "_law_any_number" (defArgs s_f_law_any_number) (defBody s_f_law_any_number) (defScope s_f_law_any_number) .none kV_f_law_any_number dc_f_law_any_number pm_f_law_any_number an_f_law_any_number cd_f_law_any_number ct_f_law_any_number), sl_f_law_any_number⟩)
    (q163 : PySem.W.codeIn K cd_f_law_any_number "_law_any_number" = true)
    (q164 : PySem.W.keepIn K (.ref A_f_law_any_number) = true)
    (q165 : PySem.W.nsIn K mainGlobals "_law_any_deed" = some (some (.ref A_f_law_any_deed)))
    (q166 : K.lookup A_f_law_any_deed = some ⟨oc_f_law_any_deed, od_f_law_any_deed, .func (PySem.W.fnOf "_law_any_deed" "_law_any_deed" (defArgs s_f_law_any_deed) (defBody s_f_law_any_deed) (defScope s_f_law_any_deed) .none kV_f_law_any_deed dc_f_law_any_deed pm_f_law_any_deed an_f_law_any_deed cd_f_law_any_deed ct_f_law_any_deed), sl_f_law_any_deed⟩)
    (q167 : PySem.W.codeIn K cd_f_law_any_deed "_law_any_deed" = true)
    (q168 : PySem.W.keepIn K (.ref A_f_law_any_deed) = true)
    (q169 : PySem.W.nsIn K mainGlobals "_law_deed_right" = some (some (.ref A_f_law_deed_right)))
    (q170 : K.lookup A_f_law_deed_right = some ⟨oc_f_law_deed_right, od_f_law_deed_right, .func (PySem.W.fnOf "_law_deed_right" "_law_deed_right" (defArgs s_f_law_deed_right) (defBody s_f_law_deed_right) (defScope s_f_law_deed_right) .none kV_f_law_deed_right dc_f_law_deed_right pm_f_law_deed_right an_f_law_deed_right cd_f_law_deed_right ct_f_law_deed_right), sl_f_law_deed_right⟩)
    (q171 : PySem.W.codeIn K cd_f_law_deed_right "_law_deed_right" = true)
    (q172 : PySem.W.keepIn K (.ref A_f_law_deed_right) = true)
    (q173 : PySem.W.nsIn K mainGlobals "_law_names" = some (some (.ref A_f_law_names)))
    (q174 : K.lookup A_f_law_names = some ⟨oc_f_law_names, od_f_law_names, .func (PySem.W.fnOf "_law_names" "_law_names" (defArgs s_f_law_names) (defBody s_f_law_names) (defScope s_f_law_names) .none kV_f_law_names dc_f_law_names pm_f_law_names an_f_law_names cd_f_law_names ct_f_law_names), sl_f_law_names⟩)
    (q175 : PySem.W.codeIn K cd_f_law_names "_law_names" = true)
    (q176 : PySem.W.keepIn K (.ref A_f_law_names) = true)
    (q177 : PySem.W.nsIn K mainGlobals "_law_cask" = some (some (.ref A_f_law_cask)))
    (q178 : K.lookup A_f_law_cask = some ⟨oc_f_law_cask, od_f_law_cask, .func (PySem.W.fnOf "_law_cask" "_law_cask" (defArgs s_f_law_cask) (defBody s_f_law_cask) (defScope s_f_law_cask) .none kV_f_law_cask dc_f_law_cask pm_f_law_cask an_f_law_cask cd_f_law_cask ct_f_law_cask), sl_f_law_cask⟩)
    (q179 : PySem.W.codeIn K cd_f_law_cask "_law_cask" = true)
    (q180 : PySem.W.keepIn K (.ref A_f_law_cask) = true)
    (q181 : PySem.W.nsIn K mainGlobals "law" = some (some (.ref A_f_law)))
    (q182 : K.lookup A_f_law = some ⟨oc_f_law, od_f_law, .func (PySem.W.fnOf "law" "law" (defArgs s_f_law) (defBody s_f_law) (defScope s_f_law) .none kV_f_law dc_f_law pm_f_law an_f_law cd_f_law ct_f_law), sl_f_law⟩)
    (q183 : PySem.W.codeIn K cd_f_law "law" = true)
    (q184 : PySem.W.keepIn K (.ref A_f_law) = true)
    (q185 : PySem.W.nsIn K mainGlobals "abs" = some none)
    (q186 : PySem.W.nsIn K mainGlobals "all" = some none)
    (q187 : PySem.W.nsIn K mainGlobals "bool" = some none)
    (q188 : PySem.W.nsIn K mainGlobals "enumerate" = some none)
    (q189 : PySem.W.nsIn K mainGlobals "int" = some none)
    (q190 : PySem.W.nsIn K mainGlobals "isinstance" = some none)
    (q191 : PySem.W.nsIn K mainGlobals "len" = some none)
    (q192 : PySem.W.nsIn K mainGlobals "list" = some none)
    (q193 : PySem.W.nsIn K mainGlobals "max" = some none)
    (q194 : PySem.W.nsIn K mainGlobals "min" = some none)
    (q195 : PySem.W.nsIn K mainGlobals "range" = some none)
    (q196 : PySem.W.nsIn K mainGlobals "str" = some none)
    (q197 : PySem.W.nsIn K mainGlobals "tuple" = some none)
    (q198 : PySem.W.nsIn K mainGlobals "zip" = some none)
    (q199 : PySem.W.nsIn K mainGlobals "DIGITS" = some (some (.str "0123456789" tk199)))
    (q200 : PySem.W.nsIn K mainGlobals "GHOST_LIST" = some (some (.str "ghosts" tk200)))
    (q201 : PySem.W.nsIn K mainGlobals "KEY" = some (some (.str "key" tk201)))
    (q202 : PySem.W.nsIn K mainGlobals "LEADER" = some (some (.str "leader" tk202)))
    (q203 : PySem.W.nsIn K mainGlobals "LETTERS" = some (some (.str "abcdefghijklmnopqrstuvwxyz" tk203)))
    (q204 : PySem.W.nsIn K mainGlobals "LONGEST" = some (some (.int 8 tk204)))
    (q205 : PySem.W.nsIn K mainGlobals "MOST_DIGITS" = some (some (.int 30 tk205)))
    (q206 : PySem.W.nsIn K mainGlobals "NO_GHOSTS" = some (some (.str "-" tk206)))
    (q207 : PySem.W.nsIn K mainGlobals "NO_LEADER" = some (some (.str "none" tk207)))
    (q208 : PySem.W.subIn K (.ref C2) (.type "BaseException") = some true)
    (q209 : PySem.W.isClsIn K C2 = true)
    (q210 : PySem.W.typeIn K (.ref C2) = some (.type "type"))
    (q211 : PySem.W.subIn K (.ref C2) (.ref C2) = some true)
    (q212 : PySem.W.subIn K (.ref C3) (.type "BaseException") = some true)
    (q213 : PySem.W.isClsIn K C3 = true)
    (q214 : PySem.W.typeIn K (.ref C3) = some (.type "type"))
    (q215 : PySem.W.subIn K (.ref C2) (.ref C3) = some false)
    (q216 : PySem.W.subIn K (.ref C4) (.type "BaseException") = some true)
    (q217 : PySem.W.isClsIn K C4 = true)
    (q218 : PySem.W.typeIn K (.ref C4) = some (.type "type"))
    (q219 : PySem.W.subIn K (.ref C2) (.ref C4) = some false)
    (q220 : PySem.W.subIn K (.ref C3) (.ref C2) = some false)
    (q221 : PySem.W.subIn K (.ref C3) (.ref C3) = some true)
    (q222 : PySem.W.subIn K (.ref C3) (.ref C4) = some false)
    (q223 : PySem.W.subIn K (.ref C4) (.ref C2) = some false)
    (q224 : PySem.W.subIn K (.ref C4) (.ref C3) = some false)
    (q225 : PySem.W.subIn K (.ref C4) (.ref C4) = some true)
    (q226 : PySem.W.isClsIn K C0 = true)
    (q227 : PySem.W.typeIn K (.ref C0) = some (.type "type"))
    (q228 : PySem.W.subIn K (.ref C0) (.ref C0) = some true)
    (q229 : PySem.W.subIn K (.ref C2) (.ref C0) = some true)
    (q230 : PySem.W.subIn K (.ref C3) (.ref C0) = some true)
    (q231 : PySem.W.subIn K (.ref C4) (.ref C0) = some true)
    (q232 : PySem.W.isClsIn K C1 = true)
    (q233 : PySem.W.typeIn K (.ref C1) = some (.type "type"))
    (q234 : PySem.W.subIn K (.ref C1) (.ref C1) = some true)
    (q235 : PySem.W.subIn K (.ref C2) (.ref C1) = some false)
    (q236 : PySem.W.subIn K (.ref C3) (.ref C1) = some false)
    (q237 : PySem.W.findIn K (.ref C2) "__getattribute__" = some (some (.builtin "BaseException.__getattribute__")))
    (q238 : PySem.W.findIn K (.ref C2) "__getattr__" = some none)
    (q239 : PySem.W.hasDictIn K C2 = true)
    (q240 : PySem.W.findIn K (.ref C2) "__class__" = some (some (.builtin "object.__class__")))
    (q241 : PySem.W.specialIn K (.builtin "object.__class__") "__get__" = some (some (.builtin "getset_descriptor.__get__")))
    (q242 : PySem.W.takesIn K (.builtin "object.__class__") = some true)
    (q243 : PySem.W.mroIn K C2 (.type "object") = some true)
    (q244 : PySem.W.findIn K (.ref C3) "__getattribute__" = some (some (.builtin "BaseException.__getattribute__")))
    (q245 : PySem.W.findIn K (.ref C3) "__getattr__" = some none)
    (q246 : PySem.W.hasDictIn K C3 = true)
    (q247 : PySem.W.findIn K (.ref C3) "__class__" = some (some (.builtin "object.__class__")))
    (q248 : PySem.W.mroIn K C3 (.type "object") = some true)
    (q249 : PySem.W.findIn K (.ref C4) "__getattribute__" = some (some (.builtin "BaseException.__getattribute__")))
    (q250 : PySem.W.findIn K (.ref C4) "__getattr__" = some none)
    (q251 : PySem.W.hasDictIn K C4 = true)
    (q252 : PySem.W.findIn K (.ref C4) "__class__" = some (some (.builtin "object.__class__")))
    (q253 : PySem.W.mroIn K C4 (.type "object") = some true)
    (q254 : PySem.W.keepIn K (.ref C2) = true)
    (q255 : PySem.W.keepIn K (.ref C3) = true)
    (q256 : PySem.W.findIn K (.ref C4) "at" = some none)
    (q257 : K.lookup C4 = some (excClassObj xn257 xq257 C4 xN257 xb257 [.ref C0, .type "ValueError", .type "Exception", .type "BaseException", .type "object"] true xl257 xs257 xa257 xc257 xd257 xe257 xf257 xg257 xh257 xi257 "ValueError.__new__"))
    (q258 : PySem.W.findIn K (.ref C4) "__setattr__" = some (some (.builtin "object.__setattr__")))
    (q259 : PySem.W.keepIn K (.ref C4) = true)
    (q260 : PySem.W.nsIn K mainGlobals "ENTRIES" = some (some (.ref wa260)))
    (q261 : K.lookup wa260 = some ⟨.type "dict", none, .dict #[⟨wh260_0, .str "put" wt260_0, .ref wv260_0⟩, ⟨wh260_1, .str "halt" wt260_1, .ref wv260_1⟩, ⟨wh260_2, .str "resume" wt260_2, .ref wv260_2⟩, ⟨wh260_3, .str "take" wt260_3, .ref wv260_3⟩, ⟨wh260_4, .str "safe" wt260_4, .ref wv260_4⟩, ⟨wh260_5, .str "takeover" wt260_5, .ref wv260_5⟩, ⟨wh260_6, .str "forget" wt260_6, .ref wv260_6⟩, ⟨wh260_7, .str "begin" wt260_7, .ref wv260_7⟩, ⟨wh260_8, .str "read" wt260_8, .ref wv260_8⟩, ⟨wh260_9, .str "write" wt260_9, .ref wv260_9⟩, ⟨wh260_10, .str "finish" wt260_10, .ref wv260_10⟩, ⟨wh260_11, .str "hand" wt260_11, .ref wv260_11⟩] wn260, #[]⟩)
    (q262 : PySem.W.KeysLit w.params [⟨wh260_0, .str "put" wt260_0, .ref wv260_0⟩, ⟨wh260_1, .str "halt" wt260_1, .ref wv260_1⟩, ⟨wh260_2, .str "resume" wt260_2, .ref wv260_2⟩, ⟨wh260_3, .str "take" wt260_3, .ref wv260_3⟩, ⟨wh260_4, .str "safe" wt260_4, .ref wv260_4⟩, ⟨wh260_5, .str "takeover" wt260_5, .ref wv260_5⟩, ⟨wh260_6, .str "forget" wt260_6, .ref wv260_6⟩, ⟨wh260_7, .str "begin" wt260_7, .ref wv260_7⟩, ⟨wh260_8, .str "read" wt260_8, .ref wv260_8⟩, ⟨wh260_9, .str "write" wt260_9, .ref wv260_9⟩, ⟨wh260_10, .str "finish" wt260_10, .ref wv260_10⟩, ⟨wh260_11, .str "hand" wt260_11, .ref wv260_11⟩])
    (q263 : (wa260 == sysModules) = false)
    (q264 : K.lookup wv260_11 = some ⟨.type "tuple", td264, .seq #[.str "number" tk264_0, .str "number" tk264_1] tn264, ts264⟩)
    (q265 : K.lookup wv260_10 = some ⟨.type "tuple", td265, .seq #[.str "number" tk265_0] tn265, ts265⟩)
    (q266 : K.lookup wv260_9 = some ⟨.type "tuple", td266, .seq #[.str "number" tk266_0, .str "key" tk266_1] tn266, ts266⟩)
    (q267 : K.lookup wv260_8 = some ⟨.type "tuple", td267, .seq #[.str "number" tk267_0, .str "key" tk267_1, .str "number" tk267_2, .str "leader" tk267_3] tn267, ts267⟩)
    (q268 : K.lookup wv260_7 = some ⟨.type "tuple", td268, .seq #[] tn268, ts268⟩)
    (q269 : K.lookup wv260_6 = some ⟨.type "tuple", td269, .seq #[.str "number" tk269_0, .str "number" tk269_1] tn269, ts269⟩)
    (q270 : K.lookup wv260_5 = some ⟨.type "tuple", td270, .seq #[.str "number" tk270_0, .str "ghosts" tk270_1] tn270, ts270⟩)
    (q271 : K.lookup wv260_4 = some ⟨.type "tuple", td271, .seq #[.str "number" tk271_0] tn271, ts271⟩)
    (q272 : K.lookup wv260_3 = some ⟨.type "tuple", td272, .seq #[.str "number" tk272_0, .str "number" tk272_1] tn272, ts272⟩)
    (q273 : K.lookup wv260_2 = some ⟨.type "tuple", td273, .seq #[.str "number" tk273_0] tn273, ts273⟩)
    (q274 : K.lookup wv260_1 = some ⟨.type "tuple", td274, .seq #[.str "number" tk274_0] tn274, ts274⟩)
    (q275 : K.lookup wv260_0 = some ⟨.type "tuple", td275, .seq #[.str "key" tk275_0] tn275, ts275⟩)
    (q276 : PySem.W.excIn K C2 [.type "ValueError", .type "Exception", .type "BaseException", .type "object"] "ValueError.__new__" = true)
    (q277 : PySem.W.excIn K C3 [.type "ValueError", .type "Exception", .type "BaseException", .type "object"] "ValueError.__new__" = true)
    (q278 : PySem.W.specialIn K (.ref C0) "__getattribute__" = some (some (.builtin "type.__getattribute__")))
    (q279 : PySem.W.readsIn K C0 (.type "type") = true)
    (q280 : PySem.W.findCls K (.ref C0) (.type "type") "__init__" = some (.val (.builtin "ValueError.__init__")))
    (q281 : PySem.W.typeIn K (.ref A_M_BadText_init_) = some (.type "function"))
    : ∃ fd : FuncData, (∀ (s : Shared) (v : Value), BindsTo s fd ⟨[v], []⟩ [("script", v)]) ∧ ∀ base : Heap, K.In base → base.Ns mainGlobals mg → FnOk P w K mg base (L2N.CX P w) 11 fa fd ["script"] (spLaw K) := by
  let G : Gx := ⟨K, fun i => match i with | 0 => C0 | 1 => C1 | 2 => C2 | 3 => C3 | 4 => C4 | _ => 0, fun _ => 0⟩
  have T : Tx G K w mg := {
    b_abs := (PySem.W.mg_none_of X Gm q185),
    b_all := (PySem.W.mg_none_of X Gm q186),
    b_bool := (PySem.W.mg_none_of X Gm q187),
    b_enumerate := (PySem.W.mg_none_of X Gm q188),
    b_int := (PySem.W.mg_none_of X Gm q189),
    b_isinstance := (PySem.W.mg_none_of X Gm q190),
    b_len := (PySem.W.mg_none_of X Gm q191),
    b_list := (PySem.W.mg_none_of X Gm q192),
    b_max := (PySem.W.mg_none_of X Gm q193),
    b_min := (PySem.W.mg_none_of X Gm q194),
    b_range := (PySem.W.mg_none_of X Gm q195),
    b_str := (PySem.W.mg_none_of X Gm q196),
    b_tuple := (PySem.W.mg_none_of X Gm q197),
    b_zip := (PySem.W.mg_none_of X Gm q198),
    c_DIGITS := (globC_str (PySem.W.mg_of X Gm q199)),
    c_GHOST_LIST := (globC_str (PySem.W.mg_of X Gm q200)),
    c_KEY := (globC_str (PySem.W.mg_of X Gm q201)),
    c_LEADER := (globC_str (PySem.W.mg_of X Gm q202)),
    c_LETTERS := (globC_str (PySem.W.mg_of X Gm q203)),
    c_LONGEST := (globC_int (PySem.W.mg_of X Gm q204)),
    c_MOST_DIGITS := (globC_int (PySem.W.mg_of X Gm q205)),
    c_NO_GHOSTS := (globC_str (PySem.W.mg_of X Gm q206)),
    c_NO_LEADER := (globC_str (PySem.W.mg_of X Gm q207)),
    cz_0 := ⟨(List.forall_mem_cons.mpr ⟨(List.forall_mem_cons.mpr ⟨(((exm_own q208 q209 q210 q211) : PySem.W.exmOne K (.ref C2) (.ref C2) = some true)), (List.forall_mem_cons.mpr ⟨(((exm_own q212 q213 q214 q215) : PySem.W.exmOne K (.ref C2) (.ref C3) = some false)), (List.forall_mem_cons.mpr ⟨(((exm_own q216 q217 q218 q219) : PySem.W.exmOne K (.ref C2) (.ref C4) = some false)), (fun _ h => nomatch h)⟩)⟩)⟩), (List.forall_mem_cons.mpr ⟨(List.forall_mem_cons.mpr ⟨(((exm_own q208 q209 q210 q220) : PySem.W.exmOne K (.ref C3) (.ref C2) = some false)), (List.forall_mem_cons.mpr ⟨(((exm_own q212 q213 q214 q221) : PySem.W.exmOne K (.ref C3) (.ref C3) = some true)), (List.forall_mem_cons.mpr ⟨(((exm_own q216 q217 q218 q222) : PySem.W.exmOne K (.ref C3) (.ref C4) = some false)), (fun _ h => nomatch h)⟩)⟩)⟩), (List.forall_mem_cons.mpr ⟨(List.forall_mem_cons.mpr ⟨(((exm_own q208 q209 q210 q223) : PySem.W.exmOne K (.ref C4) (.ref C2) = some false)), (List.forall_mem_cons.mpr ⟨(((exm_own q212 q213 q214 q224) : PySem.W.exmOne K (.ref C4) (.ref C3) = some false)), (List.forall_mem_cons.mpr ⟨(((exm_own q216 q217 q218 q225) : PySem.W.exmOne K (.ref C4) (.ref C4) = some true)), (fun _ h => nomatch h)⟩)⟩)⟩), (fun _ h => nomatch h)⟩)⟩)⟩), (List.forall_mem_cons.mpr ⟨(kit_own q226 q227 q228 q229), (List.forall_mem_cons.mpr ⟨(kit_own q226 q227 q228 q230), (List.forall_mem_cons.mpr ⟨(kit_own q226 q227 q228 q231), (fun _ h => nomatch h)⟩)⟩)⟩), (List.forall_mem_cons.mpr ⟨(kit_anyF (kit_own q213 q214 q221 q215) (kit_anyF (kit_own q217 q218 q225 q219) (kit_anyF (kit_own q232 q233 q234 q235) rfl))), (List.forall_mem_cons.mpr ⟨(kit_anyF (kit_own q209 q210 q211 q220) (kit_anyF (kit_own q217 q218 q225 q222) (kit_anyF (kit_own q232 q233 q234 q236) rfl))), (List.forall_mem_cons.mpr ⟨(kit_anyF (kit_own q209 q210 q211 q223) (kit_anyF (kit_own q213 q214 q221 q224) rfl)), (fun _ h => nomatch h)⟩)⟩)⟩), (List.forall_mem_cons.mpr ⟨(by show 3 ≤ sizeLine; decide), (List.forall_mem_cons.mpr ⟨(by show 3 ≤ sizeLine; decide), (List.forall_mem_cons.mpr ⟨(by show 2 ≤ sizeLine; decide), (fun _ h => nomatch h)⟩)⟩)⟩)⟩,
    eb_BadDeed := q208,
    eb_BadHistory := q212,
    et_BadDeed := q210,
    et_BadHistory := q214,
    ex_BadDeed := ⟨q237, q238, q208, q239, q240, q241, q242, q243⟩,
    ex_BadHistory := ⟨q244, q245, q212, q246, q247, q241, q242, q248⟩,
    ex_BadText := ⟨q249, q250, q216, q251, q252, q241, q242, q253⟩,
    g_BadBook := (PySem.W.mg_of X Gm q1),
    g_BadDeed := (PySem.W.mg_of X Gm q2),
    g_BadHistory := (PySem.W.mg_of X Gm q3),
    g_BadText := (PySem.W.mg_of X Gm q4),
    g_StoreError := (PySem.W.mg_of X Gm q0),
    is := (isOk_none q241 q242),
    kp_BadDeed := q254,
    kp_BadHistory := q255,
    no_BadText_at := q256,
    o_BadText := ⟨⟨_, _, _, _, _, _, _, _, _, _, _, _, _, _, _, q257, (refsVE_own (by decide +kernel))⟩, q258, q216, q218, q259⟩,
    w_ENTRIES := (wdict_mk (es := [⟨wh260_0, .str "put" wt260_0, .ref wv260_0⟩, ⟨wh260_1, .str "halt" wt260_1, .ref wv260_1⟩, ⟨wh260_2, .str "resume" wt260_2, .ref wv260_2⟩, ⟨wh260_3, .str "take" wt260_3, .ref wv260_3⟩, ⟨wh260_4, .str "safe" wt260_4, .ref wv260_4⟩, ⟨wh260_5, .str "takeover" wt260_5, .ref wv260_5⟩, ⟨wh260_6, .str "forget" wt260_6, .ref wv260_6⟩, ⟨wh260_7, .str "begin" wt260_7, .ref wv260_7⟩, ⟨wh260_8, .str "read" wt260_8, .ref wv260_8⟩, ⟨wh260_9, .str "write" wt260_9, .ref wv260_9⟩, ⟨wh260_10, .str "finish" wt260_10, .ref wv260_10⟩, ⟨wh260_11, .str "hand" wt260_11, .ref wv260_11⟩]) (PySem.W.mg_of X Gm q260) q261 q262 q263 (TabOk.cons (v := .ref wv260_0) rfl rfl (fun η T => rep_topT (G := G) (K := K) rfl (us := [.str "key" tk275_0]) (vs := [.str "key"]) q275 (by show 1 ≤ sizeLine; decide) (.cons ⟨tk275_0, rfl⟩ Paired.nil) (fun _ _ => (.cons .str .nil)) η T) (TabOk.cons (v := .ref wv260_1) rfl rfl (fun η T => rep_topT (G := G) (K := K) rfl (us := [.str "number" tk274_0]) (vs := [.str "number"]) q274 (by show 1 ≤ sizeLine; decide) (.cons ⟨tk274_0, rfl⟩ Paired.nil) (fun _ _ => (.cons .str .nil)) η T) (TabOk.cons (v := .ref wv260_2) rfl rfl (fun η T => rep_topT (G := G) (K := K) rfl (us := [.str "number" tk273_0]) (vs := [.str "number"]) q273 (by show 1 ≤ sizeLine; decide) (.cons ⟨tk273_0, rfl⟩ Paired.nil) (fun _ _ => (.cons .str .nil)) η T) (TabOk.cons (v := .ref wv260_3) rfl rfl (fun η T => rep_topT (G := G) (K := K) rfl (us := [.str "number" tk272_0, .str "number" tk272_1]) (vs := [.str "number", .str "number"]) q272 (by show 2 ≤ sizeLine; decide) (.cons ⟨tk272_0, rfl⟩ (.cons ⟨tk272_1, rfl⟩ Paired.nil)) (fun _ _ => (.cons .str (.cons .str .nil))) η T) (TabOk.cons (v := .ref wv260_4) rfl rfl (fun η T => rep_topT (G := G) (K := K) rfl (us := [.str "number" tk271_0]) (vs := [.str "number"]) q271 (by show 1 ≤ sizeLine; decide) (.cons ⟨tk271_0, rfl⟩ Paired.nil) (fun _ _ => (.cons .str .nil)) η T) (TabOk.cons (v := .ref wv260_5) rfl rfl (fun η T => rep_topT (G := G) (K := K) rfl (us := [.str "number" tk270_0, .str "ghosts" tk270_1]) (vs := [.str "number", .str "ghosts"]) q270 (by show 2 ≤ sizeLine; decide) (.cons ⟨tk270_0, rfl⟩ (.cons ⟨tk270_1, rfl⟩ Paired.nil)) (fun _ _ => (.cons .str (.cons .str .nil))) η T) (TabOk.cons (v := .ref wv260_6) rfl rfl (fun η T => rep_topT (G := G) (K := K) rfl (us := [.str "number" tk269_0, .str "number" tk269_1]) (vs := [.str "number", .str "number"]) q269 (by show 2 ≤ sizeLine; decide) (.cons ⟨tk269_0, rfl⟩ (.cons ⟨tk269_1, rfl⟩ Paired.nil)) (fun _ _ => (.cons .str (.cons .str .nil))) η T) (TabOk.cons (v := .ref wv260_7) rfl rfl (fun η T => rep_topT (G := G) (K := K) rfl (us := []) (vs := []) q268 (by show 0 ≤ sizeLine; decide) Paired.nil (fun _ _ => .nil) η T) (TabOk.cons (v := .ref wv260_8) rfl rfl (fun η T => rep_topT (G := G) (K := K) rfl (us := [.str "number" tk267_0, .str "key" tk267_1, .str "number" tk267_2, .str "leader" tk267_3]) (vs := [.str "number", .str "key", .str "number", .str "leader"]) q267 (by show 4 ≤ sizeLine; decide) (.cons ⟨tk267_0, rfl⟩ (.cons ⟨tk267_1, rfl⟩ (.cons ⟨tk267_2, rfl⟩ (.cons ⟨tk267_3, rfl⟩ Paired.nil)))) (fun _ _ => (.cons .str (.cons .str (.cons .str (.cons .str .nil))))) η T) (TabOk.cons (v := .ref wv260_9) rfl rfl (fun η T => rep_topT (G := G) (K := K) rfl (us := [.str "number" tk266_0, .str "key" tk266_1]) (vs := [.str "number", .str "key"]) q266 (by show 2 ≤ sizeLine; decide) (.cons ⟨tk266_0, rfl⟩ (.cons ⟨tk266_1, rfl⟩ Paired.nil)) (fun _ _ => (.cons .str (.cons .str .nil))) η T) (TabOk.cons (v := .ref wv260_10) rfl rfl (fun η T => rep_topT (G := G) (K := K) rfl (us := [.str "number" tk265_0]) (vs := [.str "number"]) q265 (by show 1 ≤ sizeLine; decide) (.cons ⟨tk265_0, rfl⟩ Paired.nil) (fun _ _ => (.cons .str .nil)) η T) (TabOk.cons (v := .ref wv260_11) rfl rfl (fun η T => rep_topT (G := G) (K := K) rfl (us := [.str "number" tk264_0, .str "number" tk264_1]) (vs := [.str "number", .str "number"]) q264 (by show 2 ≤ sizeLine; decide) (.cons ⟨tk264_0, rfl⟩ (.cons ⟨tk264_1, rfl⟩ Paired.nil)) (fun _ _ => (.cons .str (.cons .str .nil))) η T) TabOk.nil))))))))))))),
    x_BadDeed := q276,
    x_BadHistory := q277,
    xf_BadText := ⟨q249, q250, q216, q251⟩ }
  have F_f_law_agree := fun_mk (st := s_f_law_agree) q6 q7 q8
  have B_f_law_agree := F_f_law_agree.binds (ps := ["found", "due"]) fun _ _ _ _ _ _ us hl => match us, hl with | [_, _], _ => rfl
  have F_M_BadText_init_ := fun_mk (st := s_M_BadText_init_) q10 q11 q12
  have B_M_BadText_init_ := F_M_BadText_init_.binds (ps := ["self", "at"]) fun _ _ _ _ _ _ us hl => match us, hl with | [_, _], _ => rfl
  have F_f_is_integer := fun_mk (st := s_f_is_integer) q14 q15 q16
  have B_f_is_integer := F_f_is_integer.binds (ps := ["thing"]) fun _ _ _ _ _ _ us hl => match us, hl with | [_], _ => rfl
  have F_f_is_from := fun_mk (st := s_f_is_from) q18 q19 q20
  have B_f_is_from := F_f_is_from.binds (ps := ["low", "thing"]) fun _ _ _ _ _ _ us hl => match us, hl with | [_, _], _ => rfl
  have F_f_is_ascending_tuple := fun_mk (st := s_f_is_ascending_tuple) q22 q23 q24
  have B_f_is_ascending_tuple := F_f_is_ascending_tuple.binds (ps := ["thing"]) fun _ _ _ _ _ _ us hl => match us, hl with | [_], _ => rfl
  have F_f_is_key := fun_mk (st := s_f_is_key) q26 q27 q28
  have B_f_is_key := F_f_is_key.binds (ps := ["thing"]) fun _ _ _ _ _ _ us hl => match us, hl with | [_], _ => rfl
  have F_f_is_entry := fun_mk (st := s_f_is_entry) q30 q31 q32
  have B_f_is_entry := F_f_is_entry.binds (ps := ["sort", "thing"]) fun _ _ _ _ _ _ us hl => match us, hl with | [_, _], _ => rfl
  have F_f_has_deed_word := fun_mk (st := s_f_has_deed_word) q34 q35 q36
  have B_f_has_deed_word := F_f_has_deed_word.binds (ps := ["thing"]) fun _ _ _ _ _ _ us hl => match us, hl with | [_], _ => rfl
  have F_f_is_deed := fun_mk (st := s_f_is_deed) q38 q39 q40
  have B_f_is_deed := F_f_is_deed.binds (ps := ["thing"]) fun _ _ _ _ _ _ us hl => match us, hl with | [_], _ => rfl
  have F_f_number_of := fun_mk (st := s_f_number_of) q42 q43 q44
  have B_f_number_of := F_f_number_of.binds (ps := ["word"]) fun _ _ _ _ _ _ us hl => match us, hl with | [_], _ => rfl
  have F_f_ghosts_in := fun_mk (st := s_f_ghosts_in) q46 q47 q48
  have B_f_ghosts_in := F_f_ghosts_in.binds (ps := ["word"]) fun _ _ _ _ _ _ us hl => match us, hl with | [_], _ => rfl
  have F_f_entry_in := fun_mk (st := s_f_entry_in) q50 q51 q52
  have B_f_entry_in := F_f_entry_in.binds (ps := ["sort", "word"]) fun _ _ _ _ _ _ us hl => match us, hl with | [_, _], _ => rfl
  have F_f_deed_in := fun_mk (st := s_f_deed_in) q54 q55 q56
  have B_f_deed_in := F_f_deed_in.binds (ps := ["line"]) fun _ _ _ _ _ _ us hl => match us, hl with | [_], _ => rfl
  have F_f_check_text := fun_mk (st := s_f_check_text) q58 q59 q60
  have B_f_check_text := F_f_check_text.binds (ps := ["thing"]) fun _ _ _ _ _ _ us hl => match us, hl with | [_], _ => rfl
  have F_f_read_history := fun_mk (st := s_f_read_history) q62 q63 q64
  have B_f_read_history := F_f_read_history.binds (ps := ["text"]) fun _ _ _ _ _ _ us hl => match us, hl with | [_], _ => rfl
  have F_f_read_deed := fun_mk (st := s_f_read_deed) q66 q67 q68
  have B_f_read_deed := F_f_read_deed.binds (ps := ["text"]) fun _ _ _ _ _ _ us hl => match us, hl with | [_], _ => rfl
  have F_f_entry_text := fun_mk (st := s_f_entry_text) q70 q71 q72
  have B_f_entry_text := F_f_entry_text.binds (ps := ["sort", "thing"]) fun _ _ _ _ _ _ us hl => match us, hl with | [_, _], _ => rfl
  have F_f_deed_line := fun_mk (st := s_f_deed_line) q74 q75 q76
  have B_f_deed_line := F_f_deed_line.binds (ps := ["deed"]) fun _ _ _ _ _ _ us hl => match us, hl with | [_], _ => rfl
  have F_f_history_text := fun_mk (st := s_f_history_text) q78 q79 q80
  have B_f_history_text := F_f_history_text.binds (ps := ["history"]) fun _ _ _ _ _ _ us hl => match us, hl with | [_], _ => rfl
  have F_f_is_history_form := fun_mk (st := s_f_is_history_form) q82 q83 q84
  have B_f_is_history_form := F_f_is_history_form.binds (ps := ["thing"]) fun _ _ _ _ _ _ us hl => match us, hl with | [_], _ => rfl
  have F_f_show_history := fun_mk (st := s_f_show_history) q86 q87 q88
  have B_f_show_history := F_f_show_history.binds (ps := ["history"]) fun _ _ _ _ _ _ us hl => match us, hl with | [_], _ => rfl
  have F_f_show_deed := fun_mk (st := s_f_show_deed) q90 q91 q92
  have B_f_show_deed := F_f_show_deed.binds (ps := ["deed"]) fun _ _ _ _ _ _ us hl => match us, hl with | [_], _ => rfl
  have F_f_law_asked := fun_mk (st := s_f_law_asked) q94 q95 q96
  have B_f_law_asked := F_f_law_asked.binds (ps := ["way", "thing"]) fun _ _ _ _ _ _ us hl => match us, hl with | [_, _], _ => rfl
  have F_f_law_said := fun_mk (st := s_f_law_said) q98 q99 q100
  have B_f_law_said := F_f_law_said.binds (ps := ["way", "thing"]) fun _ _ _ _ _ _ us hl => match us, hl with | [_, _], _ => rfl
  have F_f_law_is_whole := fun_mk (st := s_f_law_is_whole) q102 q103 q104
  have B_f_law_is_whole := F_f_law_is_whole.binds (ps := ["low", "thing"]) fun _ _ _ _ _ _ us hl => match us, hl with | [_, _], _ => rfl
  have F_f_law_is_name := fun_mk (st := s_f_law_is_name) q106 q107 q108
  have B_f_law_is_name := F_f_law_is_name.binds (ps := ["thing"]) fun _ _ _ _ _ _ us hl => match us, hl with | [_], _ => rfl
  have F_f_law_entry_good := fun_mk (st := s_f_law_entry_good) q110 q111 q112
  have B_f_law_entry_good := F_f_law_entry_good.binds (ps := ["sort", "thing"]) fun _ _ _ _ _ _ us hl => match us, hl with | [_, _], _ => rfl
  have F_f_law_sorts := fun_mk (st := s_f_law_sorts) q114 q115 q116
  have B_f_law_sorts := F_f_law_sorts.binds (ps := ["word"]) fun _ _ _ _ _ _ us hl => match us, hl with | [_], _ => rfl
  have F_f_law_deed_words := fun_mk (st := s_f_law_deed_words) q118 q119 q120
  have B_f_law_deed_words := F_f_law_deed_words.binds (ps := []) fun _ _ _ _ _ _ us hl => match us, hl with | [], _ => rfl
  have F_f_law_deed_good := fun_mk (st := s_f_law_deed_good) q122 q123 q124
  have B_f_law_deed_good := F_f_law_deed_good.binds (ps := ["thing"]) fun _ _ _ _ _ _ us hl => match us, hl with | [_], _ => rfl
  have F_f_law_number_of := fun_mk (st := s_f_law_number_of) q126 q127 q128
  have B_f_law_number_of := F_f_law_number_of.binds (ps := ["word"]) fun _ _ _ _ _ _ us hl => match us, hl with | [_], _ => rfl
  have F_f_law_line_deed := fun_mk (st := s_f_law_line_deed) q130 q131 q132
  have B_f_law_line_deed := F_f_law_line_deed.binds (ps := ["line_here"]) fun _ _ _ _ _ _ us hl => match us, hl with | [_], _ => rfl
  have F_f_law_read_history := fun_mk (st := s_f_law_read_history) q134 q135 q136
  have B_f_law_read_history := F_f_law_read_history.binds (ps := ["thing"]) fun _ _ _ _ _ _ us hl => match us, hl with | [_], _ => rfl
  have F_f_law_tap := fun_mk (st := s_f_law_tap) q138 q139 q140
  have B_f_law_tap := F_f_law_tap.binds (ps := ["cask", "span"]) fun _ _ _ _ _ _ us hl => match us, hl with | [_, _], _ => rfl
  have F_f_law_bent_text := fun_mk (st := s_f_law_bent_text) q142 q143 q144
  have B_f_law_bent_text := F_f_law_bent_text.binds (ps := ["cask", "text_here"]) fun _ _ _ _ _ _ us hl => match us, hl with | [_, _], _ => rfl
  have F_f_law_entry_text := fun_mk (st := s_f_law_entry_text) q146 q147 q148
  have B_f_law_entry_text := F_f_law_entry_text.binds (ps := ["sort", "thing"]) fun _ _ _ _ _ _ us hl => match us, hl with | [_, _], _ => rfl
  have F_f_law_deed_text := fun_mk (st := s_f_law_deed_text) q150 q151 q152
  have B_f_law_deed_text := F_f_law_deed_text.binds (ps := ["deed_here"]) fun _ _ _ _ _ _ us hl => match us, hl with | [_], _ => rfl
  have F_f_law_bent_deed := fun_mk (st := s_f_law_bent_deed) q154 q155 q156
  have B_f_law_bent_deed := F_f_law_bent_deed.binds (ps := ["cask", "deed_here"]) fun _ _ _ _ _ _ us hl => match us, hl with | [_, _], _ => rfl
  have F_f_law_history_right := fun_mk (st := s_f_law_history_right) q158 q159 q160
  have B_f_law_history_right := F_f_law_history_right.binds (ps := ["cask", "many", "deeds_here"]) fun _ _ _ _ _ _ us hl => match us, hl with | [_, _, _], _ => rfl
  have F_f_law_any_number := fun_mk (st := s_f_law_any_number) q162 q163 q164
  have B_f_law_any_number := F_f_law_any_number.binds (ps := ["cask"]) fun _ _ _ _ _ _ us hl => match us, hl with | [_], _ => rfl
  have F_f_law_any_deed := fun_mk (st := s_f_law_any_deed) q166 q167 q168
  have B_f_law_any_deed := F_f_law_any_deed.binds (ps := ["cask", "names"]) fun _ _ _ _ _ _ us hl => match us, hl with | [_, _], _ => rfl
  have F_f_law_deed_right := fun_mk (st := s_f_law_deed_right) q170 q171 q172
  have B_f_law_deed_right := F_f_law_deed_right.binds (ps := ["cask", "deed_here"]) fun _ _ _ _ _ _ us hl => match us, hl with | [_, _], _ => rfl
  have F_f_law_names := fun_mk (st := s_f_law_names) q174 q175 q176
  have B_f_law_names := F_f_law_names.binds (ps := ["cask", "many"]) fun _ _ _ _ _ _ us hl => match us, hl with | [_, _], _ => rfl
  have F_f_law_cask := fun_mk (st := s_f_law_cask) q178 q179 q180
  have B_f_law_cask := F_f_law_cask.binds (ps := ["script", "at"]) fun _ _ _ _ _ _ us hl => match us, hl with | [_, _], _ => rfl
  have F_f_law := fun_mk (st := s_f_law) q182 q183 q184
  have B_f_law := F_f_law.binds (ps := ["script"]) fun _ _ _ _ _ _ us hl => match us, hl with | [_], _ => rfl
  refine ⟨PySem.W.fnOf "law" "law" (defArgs s_f_law) (defBody s_f_law) (defScope s_f_law) .none kV_f_law dc_f_law pm_f_law an_f_law cd_f_law ct_f_law, fun s v => .of_eq rfl, fun base hb1 hb2 => (?_ : FnOk P w K mg base (L2N.CX P w) 11 _ _ ["script"] (spD G 1 f_law)).imp (spLaw_imp (G := G) hlaw)⟩
  have h_f_law_agree : Fn G P w K mg base "_law_agree" 8 ["found", "due"] (f_law_agree 8) := ⟨_, _, ok_f_law_agree F_f_law_agree rfl T (PySem.W.mg_of X Gm q5) B_f_law_agree  _, (PySem.W.mg_of X Gm q5), q8, B_f_law_agree⟩
  have h_M_BadText_init_ : FnOk P w K mg base (L2N.CX P w) 1 A_M_BadText_init_ _ ["self", "at"] (spX1 C4 "at") := spX1_ok (m := "a text cannot be read") F_M_BadText_init_ sc_M_BadText_init_ rfl (by decide) T.o_BadText T.no_BadText_at fun cdv A outer s H E => pss_cons (ps_expr (pe_binit (C0 := C0) (by rfl) (PySem.W.mg_of X Gm q0) q278 q279 q280 (pa_cons (pv 0) (pa_cons pe_str pa_nil)))) (pss_one (ps_ost (pv 0) (pv 1)))
  have o_f_is_integer := ok_f_is_integer F_f_is_integer rfl T  (P := P) (w := w) (base := base) (G := G)
  have h_f_is_integer : Fn G P w K mg base "is_integer" 1 ["thing"] f_is_integer := ⟨_, _, o_f_is_integer, (PySem.W.mg_of X Gm q13), q16, B_f_is_integer⟩
  have o_f_is_from := ok_f_is_from F_f_is_from rfl T h_f_is_integer (P := P) (w := w) (base := base) (G := G)
  have h_f_is_from : Fn G P w K mg base "is_from" 2 ["low", "thing"] f_is_from := ⟨_, _, o_f_is_from, (PySem.W.mg_of X Gm q17), q20, B_f_is_from⟩
  have o_f_is_ascending_tuple := ok_f_is_ascending_tuple F_f_is_ascending_tuple rfl T h_f_is_from (P := P) (w := w) (base := base) (G := G)
  have h_f_is_ascending_tuple : Fn G P w K mg base "is_ascending_tuple" 3 ["thing"] f_is_ascending_tuple := ⟨_, _, o_f_is_ascending_tuple, (PySem.W.mg_of X Gm q21), q24, B_f_is_ascending_tuple⟩
  have o_f_is_key := ok_f_is_key F_f_is_key rfl T  (P := P) (w := w) (base := base) (G := G)
  have h_f_is_key : Fn G P w K mg base "is_key" 1 ["thing"] f_is_key := ⟨_, _, o_f_is_key, (PySem.W.mg_of X Gm q25), q28, B_f_is_key⟩
  have o_f_is_entry := ok_f_is_entry F_f_is_entry rfl T h_f_is_ascending_tuple h_f_is_from h_f_is_key (P := P) (w := w) (base := base) (G := G)
  have h_f_is_entry : Fn G P w K mg base "is_entry" 4 ["sort", "thing"] f_is_entry := ⟨_, _, o_f_is_entry, (PySem.W.mg_of X Gm q29), q32, B_f_is_entry⟩
  have o_f_has_deed_word := ok_f_has_deed_word F_f_has_deed_word rfl T  (P := P) (w := w) (base := base) (G := G)
  have h_f_has_deed_word : Fn G P w K mg base "has_deed_word" 1 ["thing"] f_has_deed_word := ⟨_, _, o_f_has_deed_word, (PySem.W.mg_of X Gm q33), q36, B_f_has_deed_word⟩
  have o_f_is_deed := ok_f_is_deed F_f_is_deed rfl T h_f_is_entry h_f_has_deed_word (P := P) (w := w) (base := base) (G := G)
  have h_f_is_deed : Fn G P w K mg base "is_deed" 5 ["thing"] f_is_deed := ⟨_, _, o_f_is_deed, (PySem.W.mg_of X Gm q37), q40, B_f_is_deed⟩
  have o_f_number_of := ok_f_number_of F_f_number_of rfl T  (P := P) (w := w) (base := base) (G := G)
  have h_f_number_of : Fn G P w K mg base "number_of" 1 ["word"] f_number_of := ⟨_, _, o_f_number_of, (PySem.W.mg_of X Gm q41), q44, B_f_number_of⟩
  have o_f_ghosts_in := ok_f_ghosts_in F_f_ghosts_in rfl T h_f_number_of (P := P) (w := w) (base := base) (G := G)
  have h_f_ghosts_in : Fn G P w K mg base "ghosts_in" 2 ["word"] f_ghosts_in := ⟨_, _, o_f_ghosts_in, (PySem.W.mg_of X Gm q45), q48, B_f_ghosts_in⟩
  have o_f_entry_in := ok_f_entry_in F_f_entry_in rfl T h_f_ghosts_in h_f_number_of h_f_is_key (P := P) (w := w) (base := base) (G := G)
  have h_f_entry_in : Fn G P w K mg base "entry_in" 3 ["sort", "word"] f_entry_in := ⟨_, _, o_f_entry_in, (PySem.W.mg_of X Gm q49), q52, B_f_entry_in⟩
  have o_f_deed_in := ok_f_deed_in F_f_deed_in rfl T h_f_is_deed h_f_entry_in (P := P) (w := w) (base := base) (G := G)
  have h_f_deed_in : Fn G P w K mg base "deed_in" 6 ["line"] f_deed_in := ⟨_, _, o_f_deed_in, (PySem.W.mg_of X Gm q53), q56, B_f_deed_in⟩
  have o_f_check_text := ok_f_check_text F_f_check_text rfl T h_M_BadText_init_ B_M_BadText_init_ q9 q281 (P := P) (w := w) (base := base) (G := G)
  have h_f_check_text : Fn G P w K mg base "check_text" 3 ["thing"] f_check_text := ⟨_, _, o_f_check_text, (PySem.W.mg_of X Gm q57), q60, B_f_check_text⟩
  have o_f_read_history := ok_f_read_history F_f_read_history rfl T h_M_BadText_init_ B_M_BadText_init_ q9 q281 h_f_deed_in h_f_number_of h_f_check_text (P := P) (w := w) (base := base) (G := G)
  have h_f_read_history : Fn G P w K mg base "read_history" 7 ["text"] f_read_history := ⟨_, _, o_f_read_history, (PySem.W.mg_of X Gm q61), q64, B_f_read_history⟩
  have kw_f_read_history : FnK G P w K mg base "read_history" 7 ["text"] f_read_history := ⟨_, _, o_f_read_history, (PySem.W.mg_of X Gm q61), q64, fun s ws _ hw => match ws, hw with | [_], _ => .of_eq rfl⟩
  have o_f_read_deed := ok_f_read_deed F_f_read_deed rfl T h_M_BadText_init_ B_M_BadText_init_ q9 q281 h_f_deed_in h_f_check_text (P := P) (w := w) (base := base) (G := G)
  have h_f_read_deed : Fn G P w K mg base "read_deed" 7 ["text"] f_read_deed := ⟨_, _, o_f_read_deed, (PySem.W.mg_of X Gm q65), q68, B_f_read_deed⟩
  have kw_f_read_deed : FnK G P w K mg base "read_deed" 7 ["text"] f_read_deed := ⟨_, _, o_f_read_deed, (PySem.W.mg_of X Gm q65), q68, fun s ws _ hw => match ws, hw with | [_], _ => .of_eq rfl⟩
  have o_f_entry_text := ok_f_entry_text F_f_entry_text rfl T  (P := P) (w := w) (base := base) (G := G)
  have h_f_entry_text : Fn G P w K mg base "entry_text" 1 ["sort", "thing"] f_entry_text := ⟨_, _, o_f_entry_text, (PySem.W.mg_of X Gm q69), q72, B_f_entry_text⟩
  have o_f_deed_line := ok_f_deed_line F_f_deed_line rfl T h_f_entry_text (P := P) (w := w) (base := base) (G := G)
  have h_f_deed_line : Fn G P w K mg base "deed_line" 2 ["deed"] f_deed_line := ⟨_, _, o_f_deed_line, (PySem.W.mg_of X Gm q73), q76, B_f_deed_line⟩
  have o_f_history_text := ok_f_history_text F_f_history_text rfl T h_f_deed_line (P := P) (w := w) (base := base) (G := G)
  have h_f_history_text : Fn G P w K mg base "history_text" 3 ["history"] f_history_text := ⟨_, _, o_f_history_text, (PySem.W.mg_of X Gm q77), q80, B_f_history_text⟩
  have o_f_is_history_form := ok_f_is_history_form F_f_is_history_form rfl T h_f_is_deed h_f_is_from (P := P) (w := w) (base := base) (G := G)
  have h_f_is_history_form : Fn G P w K mg base "is_history_form" 6 ["thing"] f_is_history_form := ⟨_, _, o_f_is_history_form, (PySem.W.mg_of X Gm q81), q84, B_f_is_history_form⟩
  have o_f_show_history := ok_f_show_history F_f_show_history rfl T h_f_history_text h_f_is_history_form (P := P) (w := w) (base := base) (G := G)
  have h_f_show_history : Fn G P w K mg base "show_history" 7 ["history"] f_show_history := ⟨_, _, o_f_show_history, (PySem.W.mg_of X Gm q85), q88, B_f_show_history⟩
  have kw_f_show_history : FnK G P w K mg base "show_history" 7 ["history"] f_show_history := ⟨_, _, o_f_show_history, (PySem.W.mg_of X Gm q85), q88, fun s ws _ hw => match ws, hw with | [_], _ => .of_eq rfl⟩
  have o_f_show_deed := ok_f_show_deed F_f_show_deed rfl T h_f_deed_line h_f_is_deed (P := P) (w := w) (base := base) (G := G)
  have h_f_show_deed : Fn G P w K mg base "show_deed" 6 ["deed"] f_show_deed := ⟨_, _, o_f_show_deed, (PySem.W.mg_of X Gm q89), q92, B_f_show_deed⟩
  have kw_f_show_deed : FnK G P w K mg base "show_deed" 6 ["deed"] f_show_deed := ⟨_, _, o_f_show_deed, (PySem.W.mg_of X Gm q89), q92, fun s ws _ hw => match ws, hw with | [_], _ => .of_eq rfl⟩
  have o_f_law_asked := ok_f_law_asked F_f_law_asked rfl T h_f_read_history h_f_read_deed h_f_show_history h_f_show_deed kw_f_read_deed kw_f_read_history kw_f_show_deed kw_f_show_history (P := P) (w := w) (base := base) (G := G)
  have h_f_law_asked : Fn G P w K mg base "_law_asked" 8 ["way", "thing"] f_law_asked := ⟨_, _, o_f_law_asked, (PySem.W.mg_of X Gm q93), q96, B_f_law_asked⟩
  have o_f_law_said := ok_f_law_said F_f_law_said rfl T h_f_law_asked (P := P) (w := w) (base := base) (G := G)
  have h_f_law_said : Fn G P w K mg base "_law_said" 9 ["way", "thing"] f_law_said := ⟨_, _, o_f_law_said, (PySem.W.mg_of X Gm q97), q100, B_f_law_said⟩
  have o_f_law_is_whole := ok_f_law_is_whole F_f_law_is_whole rfl T  (P := P) (w := w) (base := base) (G := G)
  have h_f_law_is_whole : Fn G P w K mg base "_law_is_whole" 1 ["low", "thing"] f_law_is_whole := ⟨_, _, o_f_law_is_whole, (PySem.W.mg_of X Gm q101), q104, B_f_law_is_whole⟩
  have o_f_law_is_name := ok_f_law_is_name F_f_law_is_name rfl T  (P := P) (w := w) (base := base) (G := G)
  have h_f_law_is_name : Fn G P w K mg base "_law_is_name" 1 ["thing"] f_law_is_name := ⟨_, _, o_f_law_is_name, (PySem.W.mg_of X Gm q105), q108, B_f_law_is_name⟩
  have o_f_law_entry_good := ok_f_law_entry_good F_f_law_entry_good rfl T h_f_law_is_whole h_f_law_is_name (P := P) (w := w) (base := base) (G := G)
  have h_f_law_entry_good : Fn G P w K mg base "_law_entry_good" 2 ["sort", "thing"] f_law_entry_good := ⟨_, _, o_f_law_entry_good, (PySem.W.mg_of X Gm q109), q112, B_f_law_entry_good⟩
  have o_f_law_sorts := ok_f_law_sorts F_f_law_sorts rfl T  (P := P) (w := w) (base := base) (G := G)
  have h_f_law_sorts : Fn G P w K mg base "_law_sorts" 1 ["word"] f_law_sorts := ⟨_, _, o_f_law_sorts, (PySem.W.mg_of X Gm q113), q116, B_f_law_sorts⟩
  have o_f_law_deed_words := ok_f_law_deed_words F_f_law_deed_words rfl T  (P := P) (w := w) (base := base) (G := G)
  have h_f_law_deed_words : Fn G P w K mg base "_law_deed_words" 1 [] f_law_deed_words := ⟨_, _, o_f_law_deed_words, (PySem.W.mg_of X Gm q117), q120, B_f_law_deed_words⟩
  have o_f_law_deed_good := ok_f_law_deed_good F_f_law_deed_good rfl T h_f_law_entry_good h_f_law_sorts h_f_law_deed_words (P := P) (w := w) (base := base) (G := G)
  have h_f_law_deed_good : Fn G P w K mg base "_law_deed_good" 3 ["thing"] f_law_deed_good := ⟨_, _, o_f_law_deed_good, (PySem.W.mg_of X Gm q121), q124, B_f_law_deed_good⟩
  have o_f_law_number_of := ok_f_law_number_of F_f_law_number_of rfl T  (P := P) (w := w) (base := base) (G := G)
  have h_f_law_number_of : Fn G P w K mg base "_law_number_of" 1 ["word"] f_law_number_of := ⟨_, _, o_f_law_number_of, (PySem.W.mg_of X Gm q125), q128, B_f_law_number_of⟩
  have o_f_law_line_deed := ok_f_law_line_deed F_f_law_line_deed rfl T h_f_law_deed_good h_f_law_number_of h_f_law_sorts h_f_law_deed_words (P := P) (w := w) (base := base) (G := G)
  have h_f_law_line_deed : Fn G P w K mg base "_law_line_deed" 4 ["line_here"] f_law_line_deed := ⟨_, _, o_f_law_line_deed, (PySem.W.mg_of X Gm q129), q132, B_f_law_line_deed⟩
  have o_f_law_read_history := ok_f_law_read_history F_f_law_read_history rfl T h_f_law_line_deed h_f_law_number_of (P := P) (w := w) (base := base) (G := G)
  have h_f_law_read_history : Fn G P w K mg base "_law_read_history" 5 ["thing"] f_law_read_history := ⟨_, _, o_f_law_read_history, (PySem.W.mg_of X Gm q133), q136, B_f_law_read_history⟩
  have o_f_law_tap := ok_f_law_tap F_f_law_tap rfl T  (P := P) (w := w) (base := base) (G := G)
  have h_f_law_tap : Fn G P w K mg base "_law_tap" 1 ["cask", "span"] f_law_tap := ⟨_, _, o_f_law_tap, (PySem.W.mg_of X Gm q137), q140, B_f_law_tap⟩
  have o_f_law_bent_text := ok_f_law_bent_text F_f_law_bent_text rfl T h_f_law_tap (P := P) (w := w) (base := base) (G := G)
  have h_f_law_bent_text : Fn G P w K mg base "_law_bent_text" 2 ["cask", "text_here"] f_law_bent_text := ⟨_, _, o_f_law_bent_text, (PySem.W.mg_of X Gm q141), q144, B_f_law_bent_text⟩
  have o_f_law_entry_text := ok_f_law_entry_text F_f_law_entry_text rfl T  (P := P) (w := w) (base := base) (G := G)
  have h_f_law_entry_text : Fn G P w K mg base "_law_entry_text" 1 ["sort", "thing"] f_law_entry_text := ⟨_, _, o_f_law_entry_text, (PySem.W.mg_of X Gm q145), q148, B_f_law_entry_text⟩
  have o_f_law_deed_text := ok_f_law_deed_text F_f_law_deed_text rfl T h_f_law_entry_text h_f_law_sorts (P := P) (w := w) (base := base) (G := G)
  have h_f_law_deed_text : Fn G P w K mg base "_law_deed_text" 2 ["deed_here"] f_law_deed_text := ⟨_, _, o_f_law_deed_text, (PySem.W.mg_of X Gm q149), q152, B_f_law_deed_text⟩
  have o_f_law_bent_deed := ok_f_law_bent_deed F_f_law_bent_deed rfl T h_f_law_tap (P := P) (w := w) (base := base) (G := G)
  have h_f_law_bent_deed : Fn G P w K mg base "_law_bent_deed" 2 ["cask", "deed_here"] f_law_bent_deed := ⟨_, _, o_f_law_bent_deed, (PySem.W.mg_of X Gm q153), q156, B_f_law_bent_deed⟩
  have o_f_law_history_right := ok_f_law_history_right F_f_law_history_right rfl T h_f_law_agree h_f_law_said h_f_law_read_history h_f_law_bent_text h_f_law_deed_text h_f_law_deed_good h_f_law_bent_deed h_f_law_tap (P := P) (w := w) (base := base) (G := G)
  have h_f_law_history_right : Fn G P w K mg base "_law_history_right" 10 ["cask", "many", "deeds_here"] f_law_history_right := ⟨_, _, o_f_law_history_right, (PySem.W.mg_of X Gm q157), q160, B_f_law_history_right⟩
  have o_f_law_any_number := ok_f_law_any_number F_f_law_any_number rfl T h_f_law_tap (P := P) (w := w) (base := base) (G := G)
  have h_f_law_any_number : Fn G P w K mg base "_law_any_number" 2 ["cask"] f_law_any_number := ⟨_, _, o_f_law_any_number, (PySem.W.mg_of X Gm q161), q164, B_f_law_any_number⟩
  have o_f_law_any_deed := ok_f_law_any_deed F_f_law_any_deed rfl T h_f_law_sorts h_f_law_tap h_f_law_any_number h_f_law_deed_words (P := P) (w := w) (base := base) (G := G)
  have h_f_law_any_deed : Fn G P w K mg base "_law_any_deed" 3 ["cask", "names"] f_law_any_deed := ⟨_, _, o_f_law_any_deed, (PySem.W.mg_of X Gm q165), q168, B_f_law_any_deed⟩
  have o_f_law_deed_right := ok_f_law_deed_right F_f_law_deed_right rfl T h_f_law_agree h_f_law_said h_f_law_line_deed h_f_law_bent_text h_f_law_deed_good h_f_law_deed_text h_f_law_bent_deed (P := P) (w := w) (base := base) (G := G)
  have h_f_law_deed_right : Fn G P w K mg base "_law_deed_right" 10 ["cask", "deed_here"] f_law_deed_right := ⟨_, _, o_f_law_deed_right, (PySem.W.mg_of X Gm q169), q172, B_f_law_deed_right⟩
  have o_f_law_names := ok_f_law_names F_f_law_names rfl T h_f_law_tap (P := P) (w := w) (base := base) (G := G)
  have h_f_law_names : Fn G P w K mg base "_law_names" 2 ["cask", "many"] f_law_names := ⟨_, _, o_f_law_names, (PySem.W.mg_of X Gm q173), q176, B_f_law_names⟩
  have o_f_law_cask := ok_f_law_cask F_f_law_cask rfl T  (P := P) (w := w) (base := base) (G := G)
  have h_f_law_cask : Fn G P w K mg base "_law_cask" 1 ["script", "at"] f_law_cask := ⟨_, _, o_f_law_cask, (PySem.W.mg_of X Gm q177), q180, B_f_law_cask⟩
  have hl := ok_f_law F_f_law rfl T h_f_law_agree h_f_law_said h_f_law_history_right h_f_law_any_number h_f_law_tap h_f_law_any_deed h_f_law_deed_right h_f_law_names h_f_law_cask (P := P) (w := w) (base := base) (G := G)
  have e := hfa.symm.trans (PySem.W.mg_of X Gm q181)
  cases e
  exact hl
theorem walk {l : PySem.W.OpenLaw} {q : Program} {loose : List Str} {XP : (Str → Option Value) → Heap → Prop} {YP : World → Heap → Prop} {d : DefRec} {K : Params → PySem.W.Frag} (hn : l.most = some 63) (hdf : d.params.defaults = []) (hY : ∀ (w : World) (h : Heap), YP w h → (K w.params).In h)
    (F : ∀ (w : World) (mg : Str → Option Value) (fa : Addr) (h : Heap), (K w.params).In h → h.Ns mainGlobals mg → mg d.name = some (.ref fa) → ∃ fd : FuncData, (∀ (s : Shared) (u : Value), BindsTo s fd ⟨[u], []⟩ [("script", u)]) ∧ ∀ base : Heap, (K w.params).In base → base.Ns mainGlobals mg → FnOk l.prog w (K w.params) mg base (L2N.CX l.prog w) 11 fa fd ["script"] (spLaw (K w.params))) :
    PySem.W.WalkO q loose XP YP l.row.toRowW d [] (fun f vs => PySem.call f vs) :=
  L2.walk_of (n := 63) (k := 11) (x := "script") (CX := fun w => L2N.CX l.prog w) (sp := fun w => spLaw (K w.params)) hn (by decide) hdf ⟨rfl, by decide, by decide⟩ hY F (fun _ _ a ns hl _ hS => ⟨a, ns, rfl, hS, hl, fun v _ e => e⟩) fun _ _ _ _ _ z => by obtain ⟨_, _, _, _, _, _, _, _, _, _, _, _, z⟩ := z; exact z
end K51
namespace Tok
open PySem L2
/-! ## evaluation by simp -/
variable {ρ : Env} {S : Sto} {m n mo mv mi ma mb : Den} {na : DenA} {t u : DenT} {a b : DenS}
def fin : R Fl → R D
  | .ok (.rt d) S => .ok d S
  | .ok (.nx _) S => .ok .non S
  | .ok _ _ => .bad
  | .exn c fs S => .exn c fs S
  | .bad => .bad
@[simp] theorem fin_rt {d : D} : fin (.ok (.rt d) S) = .ok d S := rfl
@[simp] theorem fin_nx : fin (.ok (.nx ρ) S) = .ok .non S := rfl
@[simp] theorem fin_exn {c : Nat} {fs : List (Str × D)} : fin (.exn c fs S) = .exn c fs S := rfl
@[simp] theorem fin_bad : fin .bad = .bad := rfl
theorem dFn_eq (k : Nat) (body : DenS) (ds : List D) (S : Sto) : dFn k body ds S = fin (body (startD k ds) S) := by
  unfold dFn
  cases h : body (startD k ds) S with
  | bad => rfl
  | exn => rfl
  | ok f S => cases f <;> rfl
def look (o : Option (Option D)) (S : Sto) : R D := match o with
  | some (some d) => .ok d S
  | _ => .bad
@[simp] theorem look_some {d : D} : look (some (some d)) S = .ok d S := rfl
@[simp] theorem e_dVar {i : Nat} : dVar i ρ S = look ρ[i]? S := by unfold dVar look; rfl
@[simp] theorem e_dC {d : D} : dC d ρ S = .ok d S := rfl
@[simp] theorem e_dOp1 {f : P1} : dOp1 f m ρ S = (m ρ S).bind fun x S1 => R.ofO (f S1 x) S1 := rfl
@[simp] theorem e_dOp2 {f : P2} : dOp2 f m n ρ S = (m ρ S).bind fun x S1 => (n ρ S1).bind fun y S2 => R.ofO (f S2 x y) S2 := rfl
@[simp] theorem e_dOpN {f : PN} : dOpN f na ρ S = (na ρ S).bind fun x S1 => R.ofO (f S1 x) S1 := rfl
@[simp] theorem asB_ok {c : Bool} : asB (.ok (.bl c) S) = .ok c S := rfl
@[simp] theorem asB_bad : asB .bad = .bad := rfl
@[simp] theorem e_dTest : dTest m ρ S = asB (m ρ S) := rfl
@[simp] theorem e_dNotT : dNotT t ρ S = (t ρ S).bind fun b S1 => .ok (!b) S1 := rfl
@[simp] theorem e_dAndT : dAndT t u ρ S = (t ρ S).bind fun b S1 => if b then u ρ S1 else .ok false S1 := rfl
@[simp] theorem e_dOrT : dOrT t u ρ S = (t ρ S).bind fun b S1 => if b then .ok true S1 else u ρ S1 := rfl
@[simp] theorem e_dIfE : dIfE t m n ρ S = (t ρ S).bind fun b S1 => if b then m ρ S1 else n ρ S1 := rfl
@[simp] theorem e_dNot : dNot m ρ S = (dTest m ρ S).bind fun b S1 => .ok (.bl (!b)) S1 := rfl
@[simp] theorem e_dAnd : dAnd m n ρ S = (dTest m ρ S).bind fun b S1 => if b then n ρ S1 else .ok (.bl false) S1 := rfl
@[simp] theorem e_dOr : dOr m n ρ S = (dTest m ρ S).bind fun b S1 => if b then .ok (.bl true) S1 else n ρ S1 := rfl
@[simp] theorem e_aNil : aNil ρ S = .ok [] S := rfl
@[simp] theorem e_aCons : aCons m na ρ S = (m ρ S).bind fun x S1 => (na ρ S1).bind fun xs S2 => .ok (x :: xs) S2 := rfl
@[simp] theorem e_sNext : sNext ρ S = .ok (.nx ρ) S := rfl
@[simp] theorem andThen_nx : andThen (.ok (.nx ρ) S) b = b ρ S := rfl
@[simp] theorem andThen_rt {d : D} : andThen (.ok (.rt d) S) b = .ok (.rt d) S := rfl
@[simp] theorem andThen_exn {c : Nat} {fs : List (Str × D)} : andThen (.exn c fs S) b = .exn c fs S := rfl
@[simp] theorem andThen_bad : andThen .bad b = .bad := rfl
@[simp] theorem e_sSeq : sSeq a b ρ S = andThen (a ρ S) b := rfl
@[simp] theorem e_sRet : sRet m ρ S = (m ρ S).bind fun d S1 => .ok (.rt d) S1 := rfl
@[simp] theorem e_sDrop : sDrop m ρ S = (m ρ S).bind fun _ S1 => .ok (.nx ρ) S1 := rfl
@[simp] theorem e_sIf : sIf t a b ρ S = (t ρ S).bind fun c S1 => if c then a ρ S1 else b ρ S1 := rfl
def putT (o : Option Env) (S : Sto) : R Fl := match o with
  | some ρ => .ok (.nx ρ) S
  | none => .bad
@[simp] theorem putT_some : putT (some ρ) S = .ok (.nx ρ) S := rfl
@[simp] theorem e_sAsg {g : Tgt} : sAsg m g ρ S = (m ρ S).bind fun d S1 => putT (g d ρ) S1 := rfl
@[simp] theorem e_tgName {i : Nat} {d : D} : tgName i d ρ = some (ρ.set i (some d)) := rfl
@[simp] theorem e_tgNil : tgNil [] ρ = some ρ := rfl
@[simp] theorem e_tgCons {g : Tgt} {gs : Tgts} {d : D} {ds : List D} : tgCons g gs (d :: ds) ρ = (g d ρ).bind fun ρ1 => gs ds ρ1 := rfl
@[simp] theorem e_dCall {f : DF} : dCall f na ρ S = (na ρ S).bind f := rfl
@[simp] theorem e_dTup : dTup na ρ S = (na ρ S).bind fun xs S1 => sized xs (.ok (.tup xs) S1) := rfl
@[simp] theorem e_dLst : dLst na ρ S = (na ρ S).bind fun xs S1 => sized xs (.ok (.lst xs) S1) := rfl
@[simp] theorem e_dLstS : dLstS na ρ S = (na ρ S).bind fun xs S1 => sized xs (.ok (.ref S1.length) (S1 ++ [.lst xs])) := rfl
@[simp] theorem e_oNone : oNone ρ S = .ok none S := rfl
@[simp] theorem e_sRaise {c : Nat} : sRaise c ρ S = .exn c [] S := rfl
@[simp] theorem e_sRaise1 {c : Nat} {fl : Str} : sRaise1 c fl m ρ S = (m ρ S).bind fun d S1 => .exn c [(fl, d)] S1 := rfl
theorem sized_of {xs : List D} {r : R D} (h : xs.length ≤ 1000) : sized xs r = r := if_pos (Nat.le_trans h (by decide))
def starA (x : D) (S1 : Sto) (na : DenA) (ρ : Env) : R (List D) := match x with
  | .tup xs => (na ρ S1).bind fun ys S2 => .ok (xs ++ ys) S2
  | .lst xs => (na ρ S1).bind fun ys S2 => .ok (xs ++ ys) S2
  | _ => .bad
@[simp] theorem starA_tup {xs : List D} : starA (.tup xs) S na ρ = (na ρ S).bind fun ys S2 => .ok (xs ++ ys) S2 := rfl
@[simp] theorem starA_lst {xs : List D} : starA (.lst xs) S na ρ = (na ρ S).bind fun ys S2 => .ok (xs ++ ys) S2 := rfl
@[simp] theorem e_aStar : aStar m na ρ S = (m ρ S).bind fun x S1 => starA x S1 na ρ := by unfold aStar starA; rfl
theorem start_eq (k : Nat) (ds : List D) : startD k ds = ds.map some ++ List.replicate (k - ds.length) none := rfl
@[simp] theorem bind_ite {α β : Type} {c : Prop} [Decidable c] {x y : R α} {k : α → Sto → R β} : (if c then x else y).bind k = if c then x.bind k else y.bind k := by split <;> rfl
@[simp] theorem bindN_ok {α β : Type} {x : α} {k : α → Sto → R β} : (R.ok x S).bindN k = k x S := rfl
@[simp] theorem bindN_bad {α β : Type} {k : α → Sto → R β} : (R.bad : R α).bindN k = .bad := rfl
@[simp] theorem bindN_ite {α β : Type} {c : Prop} [Decidable c] {x y : R α} {k : α → Sto → R β} : (if c then x else y).bindN k = if c then x.bindN k else y.bindN k := by split <;> rfl
@[simp] theorem e_tYesD : tYesD ρ S = .ok true S := rfl
@[simp] theorem lcD_nil {g : Tgt} {tt : DenT} {te : Den} : lcD g tt te [] ρ S = .ok [] S := rfl
def lcOne (o : Option Env) (tt : DenT) (te : Den) (rest : Sto → R (List D)) (S : Sto) : R (List D) := match o with
  | none => .bad
  | some ρ1 => (tt ρ1 S).bindN fun b S1 => if b then (te ρ1 S1).bindN fun y S2 => (rest S2).bind fun ys S3 => .ok (y :: ys) S3 else rest S1
@[simp] theorem lcOne_some {ρ1 : Env} {tt : DenT} {te : Den} {rest : Sto → R (List D)} : lcOne (some ρ1) tt te rest S = (tt ρ1 S).bindN fun b S1 => if b then (te ρ1 S1).bindN fun y S2 => (rest S2).bind fun ys S3 => .ok (y :: ys) S3 else rest S1 := rfl
@[simp] theorem lcD_cons {g : Tgt} {tt : DenT} {te : Den} {d : D} {ds : List D} : lcD g tt te (d :: ds) ρ S = lcOne (g d ρ) tt te (lcD g tt te ds ρ) S := rfl
theorem e_dLc {mi : DenI} {g : Tgt} {tt : DenT} {te : Den} {vs : List Nat} : dLc mi g tt te vs ρ S = (mi ρ S).bind fun ds S1 => if ds.length ≤ sizeLine then (lcD g tt te ds (wipeD ρ vs) S1).bind fun ys S2 => .ok (.lst ys) S2 else .bad := rfl
theorem lc_map {i : Nat} {te : Den} {h : D → D} : ∀ (ds : List D), (∀ d ∈ ds, te (ρ.set i (some d)) S = .ok (h d) S) → lcD (tgName i) tYesD te ds ρ S = .ok (ds.map h) S
  | [], _ => rfl
  | d :: ds, k => by
    rw [lcD_cons, e_tgName, lcOne_some, e_tYesD, bindN_ok, if_pos rfl, k d List.mem_cons_self, bindN_ok, lc_map ds fun x hx => k x (List.mem_cons_of_mem _ hx)]
    rfl
theorem lc_filt {i : Nat} {tt : DenT} {te : Den} {p : D → Bool} {h : D → D} : ∀ (ds : List D), (∀ d ∈ ds, tt (ρ.set i (some d)) S = .ok (p d) S) → (∀ d ∈ ds, p d = true → te (ρ.set i (some d)) S = .ok (h d) S) → lcD (tgName i) tt te ds ρ S = .ok ((ds.filter p).map h) S
  | [], _, _ => rfl
  | d :: ds, k1, k2 => by
    have ih := lc_filt ds (fun x hx => k1 x (List.mem_cons_of_mem _ hx)) (fun x hx => k2 x (List.mem_cons_of_mem _ hx))
    rw [lcD_cons, e_tgName, lcOne_some, k1 d List.mem_cons_self, bindN_ok]
    cases e : p d with
    | true => rw [if_pos rfl, k2 d List.mem_cons_self e, bindN_ok, ih, List.filter_cons_of_pos e]; rfl
    | false => rw [if_neg Bool.false_ne_true, ih, List.filter_cons_of_neg (by rw [e]; exact Bool.false_ne_true)]
def seqR (d : D) (S : Sto) : R (List D) := match d with
  | .lst ds => .ok ds S
  | .tup ds => .ok ds S
  | _ => .bad
@[simp] theorem seqR_lst {ds : List D} : seqR (.lst ds) S = .ok ds S := rfl
@[simp] theorem seqR_tup {ds : List D} : seqR (.tup ds) S = .ok ds S := rfl
@[simp] theorem e_iAny : iAny m ρ S = (m ρ S).bind fun d S1 => seqR d S1 := rfl
def rngR (ds : List D) (S : Sto) : R (List D) := match ds with
  | [.int j] => if -(2 ^ 62) ≤ j ∧ j < 2 ^ 62 then .ok (rngD 0 j.toNat) S else .bad
  | _ => .bad
@[simp] theorem e_iRange1 : iRange1 na ρ S = (na ρ S).bind fun ds S1 => rngR ds S1 := rfl
theorem rngR_nat {n : Nat} (h : n < 2 ^ 62) : rngR [.int n] S = .ok (rngD 0 n) S := by
  unfold rngR
  dsimp only
  rw [if_pos ⟨by omega, by omega⟩]
  rfl
@[simp] theorem e_sFor {mi : DenI} {g : Tgt} : sFor mi g a ρ S = (mi ρ S).bind fun ds S1 => loopD g a ds ρ S1 := rfl
@[simp] theorem loop_nil {g : Tgt} : loopD g a [] ρ S = .ok (.nx ρ) S := rfl
def loopK (g : Tgt) (a : DenS) (ds : List D) : R Fl → R Fl
  | .ok (.nx ρ) S => loopD g a ds ρ S
  | .ok (.ct ρ) S => loopD g a ds ρ S
  | .ok (.bk ρ) S => .ok (.nx ρ) S
  | .ok (.rt d) S => .ok (.rt d) S
  | .exn c fs S => .exn c fs S
  | .bad => .bad
def loopO (g : Tgt) (a : DenS) (ds : List D) (o : Option Env) (S : Sto) : R Fl := match o with
  | none => .bad
  | some ρ1 => loopK g a ds (a ρ1 S)
@[simp] theorem loopO_some {g : Tgt} {ds : List D} : loopO g a ds (some ρ) S = loopK g a ds (a ρ S) := rfl
@[simp] theorem loopK_nx {g : Tgt} {ds : List D} : loopK g a ds (.ok (.nx ρ) S) = loopD g a ds ρ S := rfl
@[simp] theorem loopK_rt {g : Tgt} {ds : List D} {d : D} : loopK g a ds (.ok (.rt d) S) = .ok (.rt d) S := rfl
@[simp] theorem loopK_exn {g : Tgt} {ds : List D} {c : Nat} {fs : List (Str × D)} : loopK g a ds (.exn c fs S) = .exn c fs S := rfl
@[simp] theorem loop_cons {g : Tgt} {d : D} {ds : List D} : loopD g a (d :: ds) ρ S = loopO g a ds (g d ρ) S := by
  rw [loopD]
  cases h : g d ρ with
  | none => rfl
  | some ρ1 =>
    show (a ρ1 S).bind _ = loopK g a ds (a ρ1 S)
    cases h2 : a ρ1 S with
    | bad => rfl
    | exn => rfl
    | ok f S => cases f <;> rfl
def strMR (f : PM) (o : D) (S1 : Sto) (r : R (List D)) : R D := match o with
  | .str z => r.bind fun ds S2 => R.ofO (f z ds) S2
  | _ => .bad
@[simp] theorem strMR_str {f : PM} {z : Str} {r : R (List D)} : strMR f (.str z) S r = r.bind fun ds S2 => R.ofO (f z ds) S2 := rfl
@[simp] theorem e_dStrM {f : PM} : dStrM f mo na ρ S = (mo ρ S).bind fun o S1 => strMR f o S1 (na ρ S1) := rfl
def optR (d : D) (S : Sto) : R (Option Int) := match d with
  | .int i => .ok (some i) S
  | _ => .bad
end Tok
namespace Tok
open PySem L2
variable {ρ : Env} {S : Sto} {m n mx : Den} {ml mh : DenO}
@[simp] theorem optR_int {i : Int} : optR (.int i) S = .ok (some i) S := rfl
@[simp] theorem e_oSome : oSome m ρ S = (m ρ S).bind fun d S1 => optR d S1 := by unfold oSome optR; rfl
@[simp] theorem e_dSl : dSl mx ml mh ρ S = (mx ρ S).bind fun x S1 => (ml ρ S1).bind fun l S2 => (mh ρ S2).bind fun h S3 => R.ofO (slD x l h) S3 := rfl
theorem start0 (k : Nat) (ds : List D) : startD k ds = ds.map some ++ List.replicate (k - ds.length) none := rfl
end Tok
namespace Tok
@[simp] theorem eqB_ii {a b : Int} : eqB (.int a) (.int b) = some (decide (a = b)) := rfl
@[simp] theorem eqB_ss {a b : PySem.Str} : eqB (.str a) (.str b) = some (decide (a = b)) := rfl
@[simp] theorem eqB_bb {a b : Bool} : eqB (.bl a) (.bl b) = some (decide (a = b)) := rfl
@[simp] theorem eqB_nn : eqB .non .non = some true := rfl
end Tok
namespace Tok
open PySem L2
variable {ρ : Env} {S : Sto} {m n mx mv mo : Den} {na : DenA}
def setFR (o : Option (Nat × List (Str × D))) (c : Nat) (fl : Str) (v : D) (ρ : Env) (S : Sto) : R Fl := match o with
  | some (l, fs) => if fs.length < 1000 then .ok (.nx ρ) (S.set l (.ins c (putD fl v fs))) else .bad
  | none => .bad
@[simp] theorem setFR_some {l c : Nat} {fs : List (Str × D)} {fl : Str} {v : D} : setFR (some (l, fs)) c fl v ρ S = if fs.length < 1000 then .ok (.nx ρ) (S.set l (.ins c (putD fl v fs))) else .bad := rfl
@[simp] theorem e_sSetF {c : Nat} {fl : Str} : sSetF c fl mv mo ρ S = (mv ρ S).bind fun v S1 => (mo ρ S1).bind fun o S2 => setFR (insOf S2 c o) c fl v ρ S2 := rfl
def makeR (l : Nat) : R D → R D
  | .ok .non S => .ok (.ref l) S
  | .ok _ _ => .bad
  | .exn c fs S => .exn c fs S
  | .bad => .bad
@[simp] theorem makeR_ok {l : Nat} : makeR l (.ok .non S) = .ok (.ref l) S := rfl
@[simp] theorem e_dMake {c : Nat} {f : DF} : dMake c f na ρ S = (na ρ S).bind fun ds S1 => makeR S1.length (f (.ref S1.length :: ds) (S1 ++ [.ins c []])) := by
  unfold dMake makeR
  congr 1
  funext ds S1
  cases f (.ref S1.length :: ds) (S1 ++ [.ins c []]) with
  | ok d S2 => cases d <;> rfl
  | exn => rfl
  | bad => rfl
theorem insOf_last {c : Nat} {fs : List (Str × D)} : insOf (S ++ [.ins c fs]) c (.ref S.length) = some (S.length, fs) := by
  unfold insOf
  simp
theorem set_last {x y : SO} : (S ++ [x]).set S.length y = S ++ [y] := by simp
def enumR (ds : List D) (S : Sto) : R (List D) := match ds with
  | [.lst xs] => .ok (enumD 0 xs) S
  | _ => .bad
@[simp] theorem e_iEnumD : iEnumD na ρ S = (na ρ S).bind fun ds S1 => enumR ds S1 := by unfold iEnumD enumR; rfl
@[simp] theorem enumR_lst {xs : List D} : enumR [.lst xs] S = .ok (enumD 0 xs) S := rfl
end Tok
namespace Tok
open PySem L2
variable {ρ : Env} {S : Sto} {m n mx mv mo : Den} {na : DenA}
def tryAtR (ie i jf jg c : Nat) (fl : Str) (ρ : Env) : R D → R Fl
  | .ok d S1 => .ok (.nx (ρ.set i (some d))) S1
  | .exn c' fs S1 => if c' = c then (match fs.lookup fl with
    | some v => .ok (.nx (((ρ.set jf (some v)).set jg (some (.bl true))).set ie none)) S1
    | none => .bad) else .bad
  | .bad => .bad
@[simp] theorem tryAtR_ok {ie i jf jg c : Nat} {fl : Str} {d : D} : tryAtR ie i jf jg c fl ρ (.ok d S) = .ok (.nx (ρ.set i (some d))) S := rfl
theorem tryAtR_exn {ie i jf jg c : Nat} {fl : Str} {v : D} : tryAtR ie i jf jg c fl ρ (.exn c [(fl, v)] S) = .ok (.nx (((ρ.set jf (some v)).set jg (some (.bl true))).set ie none)) S := by
  unfold tryAtR
  simp
theorem e_sTryAt {ie i jf jg c : Nat} {fl : Str} (h : ie < ρ.length) : sTryAt ie i jf jg c fl m ρ S = tryAtR ie i jf jg c fl ρ (m ρ S) := by
  unfold sTryAt tryAtR
  rw [if_pos h]
  try rfl
def ownR (o : Option D) (S : Sto) : R (List D) := match o with
  | some (.tup ds) => .ok ds S
  | _ => .bad
@[simp] theorem ownR_tup {ds : List D} : ownR (some (.tup ds)) S = .ok ds S := rfl
theorem e_iOwnD {c : Nat} {fl : Str} : iOwnD c fl m ρ S = (m ρ S).bind fun o S1 => ownR ((insOf S1 c o).bind fun q => q.2.lookup fl) S1 := by
  unfold iOwnD
  congr 1
  funext o S1
  cases insOf S1 c o with
  | none => rfl
  | some q => rfl
end Tok
namespace Tok
open PySem L2
variable {ρ : Env} {S : Sto} {m n mx mv mo : Den} {na : DenA}
def tryNoR (ie jf c : Nat) (ρ : Env) : R D → R Fl
  | .ok _ S1 => .ok (.nx ρ) S1
  | .exn c' fs S1 => if c' = c ∧ fs = [] then (match ρ[jf]? with
    | some (some (.int k)) => .ok (.nx ((ρ.set jf (some (.int (k + 1)))).set ie none)) S1
    | _ => .bad) else .bad
  | .bad => .bad
theorem tryNoR_exn {ie jf c : Nat} {k : Int} (h : ρ[jf]? = some (some (.int k))) : tryNoR ie jf c ρ (.exn c [] S) = .ok (.nx ((ρ.set jf (some (.int (k + 1)))).set ie none)) S := by
  unfold tryNoR
  simp [h]
theorem e_sTryNo {ie jf c : Nat} (h : ie < ρ.length) : sTryNo ie jf c m ρ S = tryNoR ie jf c ρ (m ρ S) := by
  unfold sTryNo tryNoR
  rw [if_pos h]
  try rfl
end Tok
namespace Tok
open PySem L2
variable {ρ : Env} {S : Sto} {m n mx mv mo : Den} {na : DenA} {ms : List Den}
def jsR (d : D) (acc : Str) (ms : List Den) (ρ : Env) (S : Sto) : R D := match d with
  | .str y => if (acc ++ y).length ≤ sizeLine then dJs ms (acc ++ y) ρ S else .bad
  | _ => .bad
theorem e_dJs_nil {acc : Str} : dJs [] acc ρ S = .ok (.str acc) S := rfl
theorem e_dJs_cons {acc : Str} : dJs (m :: ms) acc ρ S = (m ρ S).bind fun d S1 => jsR d acc ms ρ S1 := rfl
theorem jsR_str {y acc : Str} (h : (acc ++ y).length ≤ 1000) : jsR (.str y) acc ms ρ S = dJs ms (acc ++ y) ρ S := by
  unfold jsR
  dsimp only
  rw [if_pos (Nat.le_trans h (by decide))]
def listOwnR (o : Option D) (S : Sto) : R D := match o with
  | some (.tup ds) => if ds.length < sizeLine then .ok (.lst ds) S else .bad
  | _ => .bad
theorem listOwnR_tup {ds : List D} (h : ds.length ≤ 1000) : listOwnR (some (.tup ds)) S = .ok (.lst ds) S := by
  unfold listOwnR
  dsimp only
  rw [if_pos (Nat.lt_of_le_of_lt h (by decide))]
theorem e_dListOwn {c : Nat} {fl : Str} : dListOwn c fl m ρ S = (m ρ S).bind fun o S1 => listOwnR ((insOf S1 c o).bind fun q => q.2.lookup fl) S1 := by
  unfold dListOwn
  congr 1
  funext o S1
  cases insOf S1 c o with
  | none => rfl
  | some q => rfl
end Tok
namespace Tok
open PySem L2
variable {ρ : Env} {S : Sto} {m n mx mv mo mi : Den} {na : DenA}
def setIxR (o i v : D) (ρ : Env) (S : Sto) : R Fl := match o, i with
  | .ref l, .int i => match S[l]? with
    | some (.lst xs) => match ixN xs.length i with
      | some j => .ok (.nx ρ) (S.set l (.lst (xs.set j v)))
      | none => .bad
    | _ => .bad
  | _, _ => .bad
theorem e_sSetIx : sSetIx mv mo mi ρ S = (mv ρ S).bind fun v S1 => (mo ρ S1).bind fun o S2 => (mi ρ S2).bind fun i S3 => setIxR o i v ρ S3 := rfl
theorem setIxR_ok {l j : Nat} {i : Int} {v : D} {xs : List D} (h : S[l]? = some (.lst xs)) (hj : ixN xs.length i = some j) : setIxR (.ref l) (.int i) v ρ S = .ok (.nx ρ) (S.set l (.lst (xs.set j v))) := by
  unfold setIxR
  dsimp only
  rw [h]
  dsimp only
  rw [hj]
theorem pow_ok {i : Int} {n : Nat} (hn : n ≤ 1000) (hi : i.natAbs < 2 ^ 1000) : powD S (.int i) (.int (n : Int)) = some (.int (i ^ n)) := by
  unfold powD
  dsimp only
  rw [if_pos ⟨by omega, by omega, hi⟩]
  simp
end Tok
namespace Tok
open PySem L2
variable {ρ : Env} {S : Sto} {m n mx mv mo mi me : Den} {na : DenA}
def app2 (o : D) (d : D) (S2 : Sto) : R D := match lstOf S2 o with
  | some (l, xs) => if xs.length < sizeLine then .ok .non (S2.set l (.lst (xs ++ [d]))) else .bad
  | none => .bad
def app1 (o : D) (S1 : Sto) (r : R D) : R D := match lstOf S1 o with
  | some _ => r.bind fun d S2 => app2 o d S2
  | none => .bad
theorem e_dAppend : dAppend mo me ρ S = (mo ρ S).bind fun o S1 => app1 o S1 (me ρ S1) := rfl
theorem lstOf_at {l : Nat} {xs : List D} (h : S[l]? = some (.lst xs)) : lstOf S (.ref l) = some (l, xs) := by unfold lstOf; simp [h]
theorem app1_ok {l : Nat} {xs : List D} {r : R D} (h : S[l]? = some (.lst xs)) : app1 (.ref l) S r = r.bind fun d S2 => app2 (.ref l) d S2 := by
  unfold app1
  rw [lstOf_at h]
theorem app2_ok {l : Nat} {xs : List D} {d : D} (h : S[l]? = some (.lst xs)) (hz : xs.length ≤ 1000) : app2 (.ref l) d S = .ok .non (S.set l (.lst (xs ++ [d]))) := by
  unfold app2
  rw [lstOf_at h]
  dsimp only
  rw [if_pos (Nat.lt_of_le_of_lt hz (by decide))]
def parR (i j : Nat) (ds : List D) (ρ : Env) (S : Sto) : R Fl := match ds with
  | [d, e] => .ok (.nx ((ρ.set i (some d)).set j (some e))) S
  | _ => .bad
@[simp] theorem parR_two {i j : Nat} {d e : D} : parR i j [d, e] ρ S = .ok (.nx ((ρ.set i (some d)).set j (some e))) S := rfl
@[simp] theorem e_sPar {i j : Nat} : sPar i j na ρ S = (na ρ S).bind fun ds S1 => parR i j ds ρ S1 := rfl
end Tok
namespace Tok
open PySem L2
variable {ρ : Env} {S : Sto} {mo : Den} {na : DenA}
def methR (o : Option (Nat × List (Str × D))) (mn : Str) (r : R (List D)) (f : DF) (od : D) : R D := match o with
  | some (_, fs) => if fs.lookup mn = none then r.bind fun ds S2 => f (od :: ds) S2 else .bad
  | none => .bad
theorem e_dMeth {c : Nat} {mn : Str} {f : DF} : dMeth c mn f mo na ρ S = (mo ρ S).bind fun o S1 => methR (insOf S1 c o) mn (na ρ S1) f o := rfl
theorem methR_ok {l : Nat} {fs : List (Str × D)} {mn : Str} {r : R (List D)} {f : DF} {od : D} (h : fs.lookup mn = none) : methR (some (l, fs)) mn r f od = r.bind fun ds S2 => f (od :: ds) S2 := by
  unfold methR
  dsimp only
  rw [if_pos h]
end Tok
namespace K51
open PySem L2 Tok
/-! ## lists, places -/
theorem atI_nat {α : Type} {xs : List α} {k : Nat} (h : k < xs.length) : atI xs (k : Int) = some xs[k] := by
  unfold atI ixN
  rw [if_pos (by omega), if_pos (by omega)]
  simp [h]
theorem atI_2 {a b c : D} {xs : List D} : atI (a :: b :: c :: xs) 2 = some c := atI_nat (k := 2) (by simp)
theorem atI_3 {a b c d : D} {xs : List D} : atI (a :: b :: c :: d :: xs) 3 = some d := atI_nat (k := 3) (by simp)
theorem rng_mem {n : Nat} {d : D} (h : d ∈ rngD 0 n) : ∃ k : Nat, k < n ∧ d = .int k := by
  unfold rngD at h
  obtain ⟨k, hk, rfl⟩ := List.mem_map.mp h
  exact ⟨k, List.mem_range.mp hk, by simp⟩
theorem rng_len (n : Nat) : (rngD 0 n).length = n := by simp [rngD]
theorem small {n : Nat} (h : n ≤ 1000000) : n ≤ sizeLine := Nat.le_trans h (by decide)
theorem strs_map (ws : List Str) : strsOf (ws.map D.str) = some ws := by
  induction ws with
  | nil => rfl
  | cons a r ih => simp [strsOf, ih]
/-! ## == [] -/
/-- data of few levels -/
def Flt (k : Nat) (d : D) : Prop := ∃ p, toPy d = some p ∧ p.canLay0 = true ∧ p.depth ≤ k
theorem Flt.mono {k n : Nat} {d : D} (h : Flt k d) (hn : k ≤ n) : Flt n d := by
  obtain ⟨p, a, b, c⟩ := h
  exact ⟨p, a, b, Nat.le_trans c hn⟩
theorem flts {k : Nat} : ∀ {xs : List D}, (∀ x ∈ xs, Flt k x) → ∃ ps, toPys xs = some ps ∧ PyData.canLayAll0 ps = true ∧ PyData.depthAll ps ≤ k ∧ ps.length = xs.length
  | [], _ => ⟨[], rfl, rfl, by simp [PyData.depthAll], rfl⟩
  | x :: xs, h => by
    obtain ⟨p, a, b, c⟩ := h x List.mem_cons_self
    obtain ⟨ps, a2, b2, c2, d2⟩ := flts (xs := xs) fun y hy => h y (List.mem_cons_of_mem _ hy)
    refine ⟨p :: ps, by simp [toPys, a, a2], by simp [PyData.canLayAll0, b, b2], ?_, by simp [d2]⟩
    simp [PyData.depthAll]
    omega
theorem flt_lst {k : Nat} {xs : List D} (h : ∀ x ∈ xs, Flt k x) : Flt (k + 1) (.lst xs) := by
  obtain ⟨ps, a, b, c, _⟩ := flts h
  exact ⟨.list ps, by simp [toPy, a], by simp [PyData.canLay0, b], by simp [PyData.depth]; omega⟩
theorem flt_tup {k : Nat} {xs : List D} (h : ∀ x ∈ xs, Flt k x) : Flt (k + 1) (.tup xs) := by
  obtain ⟨ps, a, b, c, _⟩ := flts h
  exact ⟨.tuple ps, by simp [toPy, a], by simp [PyData.canLay0, b], by simp [PyData.depth]; omega⟩
theorem flt_non {k : Nat} : Flt k .non := ⟨.none, rfl, rfl, by simp [PyData.depth]⟩
theorem flt_bl {k : Nat} {b : Bool} : Flt k (.bl b) := ⟨.bool b, rfl, rfl, by simp [PyData.depth]⟩
theorem flt_int {k : Nat} {i : Int} : Flt k (.int i) := ⟨.int i, rfl, rfl, by simp [PyData.depth]⟩
end K51
namespace K51
open PySem L2 Tok
/-! ## keys, numbers -/
theorem bls_map {α : Type} (p : α → Bool) (xs : List α) : blsOf (xs.map fun x => D.bl (p x)) = some (xs.map p) := by
  induction xs with
  | nil => rfl
  | cons a r ih => simp [blsOf, ih]
theorem all_map {α : Type} (S : Sto) (p : α → Bool) (xs : List α) : allD S [.lst (xs.map fun x => D.bl (p x))] = some (.bl (xs.all p)) := by
  unfold allD
  dsimp only
  rw [bls_map]
  simp
def letL : List Nat := (("abcdefghijklmnopqrstuvwxyz" : Str)).cps.toList
def digL : List Nat := (("0123456789" : Str)).cps.toList
def isName (s : Str) : Bool := decide (0 < s.length) && (decide (s.length ≤ 8) && s.cps.toList.all fun c => decide (c ∈ letL))
theorem signs_len (s : Str) : (signs s).length = s.length := by simp [signs]; rfl
theorem big6 {n : Nat} (h : n ≤ 1000000) : n ≤ sizeLine := Nat.le_trans h (by decide)
theorem in_sign (S : Sto) (c : Nat) (z : Str) : inB S (.str ⟨#[c]⟩) (.str z) = some (decide (c ∈ z.cps.toList)) := rfl
/-- all signs of a text in another -/
theorem lc_signs {ρ : Tok.Env} {S : Sto} {i : Nat} {te : Den} {z : Str} {p : Nat → Bool} (h : ∀ c, te (ρ.set i (some (.str ⟨#[c]⟩))) S = .ok (.bl (p c)) S) : lcD (tgName i) tYesD te (signs z) ρ S = .ok (z.cps.toList.map fun c => D.bl (p c)) S := by
  have e := lc_map (S := S) (ρ := ρ) (i := i) (te := te) (h := fun d => match d with | .str s => .bl (p ((s.cps.toList).headD 0)) | _ => .non) (signs z) (fun d hd => by
    obtain ⟨c, _, rfl⟩ := List.mem_map.mp hd
    rw [h]
    simp)
  rw [e]
  simp [signs, Function.comp_def]
theorem lc_signsF {ρ : Tok.Env} {S : Sto} {i : Nat} {tt : DenT} {te : Den} {z : Str} {p : Nat → Bool} (h : ∀ c, tt (ρ.set i (some (.str ⟨#[c]⟩))) S = .ok (p c) S) (h2 : ∀ c, te (ρ.set i (some (.str ⟨#[c]⟩))) S = .ok (.str ⟨#[c]⟩) S) : lcD (tgName i) tt te (signs z) ρ S = .ok ((z.cps.toList.filter p).map fun c => D.str ⟨#[c]⟩) S := by
  have e := lc_filt (S := S) (ρ := ρ) (i := i) (tt := tt) (te := te) (p := fun d => match d with | .str s => p ((s.cps.toList).headD 0) | _ => false) (h := id) (signs z) (fun d hd => by
    obtain ⟨c, _, rfl⟩ := List.mem_map.mp hd
    rw [h]
    simp) (fun d hd _ => by
    obtain ⟨c, _, rfl⟩ := List.mem_map.mp hd
    rw [h2]
    rfl)
  rw [e, List.map_id]
  simp [signs, List.filter_map, Function.comp_def]
def chainR (f' : P2) (y : D) (z : D) (S3 : Sto) (r : R D) : R D := match z with
  | .bl true => r.bind fun w S4 => R.ofO (f' S4 y w) S4
  | .bl false => .ok (.bl false) S3
  | _ => .bad
theorem e_dChain {f f' : P2} {ma mb mc : Den} {ρ : Tok.Env} {S : Sto} : dChain f f' ma mb mc ρ S = (ma ρ S).bind fun x S1 => (mb ρ S1).bind fun y S2 => (R.ofO (f S2 x y) S2).bind fun z S3 => chainR f' y z S3 (mc ρ S3) := rfl
theorem fil_nil {α : Type} (p : α → Bool) (f : α → D) (xs : List α) : ((xs.filter p).map f).isEmpty = xs.all fun x => !p x := by
  induction xs with
  | nil => rfl
  | cons a r ih => by_cases h : p a = true <;> simp [h, ih]
theorem fil_sz {α : Type} (p : α → Bool) (xs : List α) : (xs.filter p).isEmpty = xs.all fun x => !p x := by
  induction xs with
  | nil => rfl
  | cons a r ih => by_cases h : p a = true <;> simp [h, ih]
theorem is_key_str {s : Str} (hs : s.length ≤ 1000000) (S : Sto) : f_is_key [.str s] S = .ok (.bl (isName s)) S := by
  have lc : lcD (tgName 1) tYesD (dOp2 inD (dVar 1) (dC c_LETTERS)) (signs s) [some (.str s), none] S = .ok (s.cps.toList.map fun c => D.bl (decide (c ∈ letL))) S :=
    lc_signs (p := fun c => decide (c ∈ letL)) fun c => by simp [inD, c_LETTERS, in_sign, letL]
  have hl : (signs s).length ≤ sizeLine := by rw [signs_len]; exact big6 hs
  have h1 : s.length ≤ sizeLine := big6 hs
  have al := all_map S (fun c => decide (c ∈ letL)) s.cps.toList
  by_cases c1 : 0 < s.length
  · by_cases c2 : s.length ≤ 8
    · have c2' : (s.length : Int) ≤ 8 := by omega
      have c1' : (0 : Int) < s.length := by omega
      simp only [f_is_key, dFn_eq, start_eq]
      simp -implicitDefEqProofs [-lcD_cons, -lcD_nil, isiD, tyD, okTy, isT, e_dChain, lenD, h1, ltD, leD, cmpI, c_LONGEST, c1', c2', chainR, e_dLc, iStrD, hl, wipeD, lc, al, isName, c1, c2]
    · have c2' : ¬ (s.length : Int) ≤ 8 := by omega
      have c1' : (0 : Int) < s.length := by omega
      simp only [f_is_key, dFn_eq, start_eq]
      simp -implicitDefEqProofs [-lcD_cons, -lcD_nil, isiD, tyD, okTy, isT, e_dChain, lenD, h1, ltD, leD, cmpI, c_LONGEST, c1', c2', chainR, isName, c1, c2]
  · have c1' : ¬ (0 : Int) < s.length := by omega
    simp only [f_is_key, dFn_eq, start_eq]
    simp -implicitDefEqProofs [-lcD_cons, -lcD_nil, isiD, tyD, okTy, isT, e_dChain, lenD, h1, ltD, leD, cmpI, c_LONGEST, c1', chainR, isName, c1]
theorem law_is_name_str {s : Str} (hs : s.length ≤ 1000000) (S : Sto) : f_law_is_name [.str s] S = .ok (.bl (isName s)) S := by
  have lc : lcD (tgName 2) (dTest (dOp2 notInD (dVar 2) (dVar 1))) (dVar 2) (signs s) [some (.str s), some (.str "abcdefghijklmnopqrstuvwxyz"), none] S = .ok ((s.cps.toList.filter fun c => !decide (c ∈ letL)).map fun c => D.str ⟨#[c]⟩) S :=
    lc_signsF (p := fun c => !decide (c ∈ letL)) (fun c => by simp [notInD, in_sign, letL]) (fun c => by simp)
  have hl : (signs s).length ≤ sizeLine := by rw [signs_len]; exact big6 hs
  have h1 : s.length ≤ sizeLine := big6 hs
  have al := fil_nil (fun c => !decide (c ∈ letL)) (fun c => D.str ⟨#[c]⟩) s.cps.toList
  by_cases c1 : 0 < s.length
  · by_cases c2 : s.length ≤ 8
    · have c2' : (s.length : Int) < 9 := by omega
      have c1' : (0 : Int) < s.length := by omega
      simp only [f_law_is_name, dFn_eq, start_eq]
      simp -implicitDefEqProofs [-lcD_cons, -lcD_nil, isiD, tyD, okTy, isT, e_dChain, lenD, h1, ltD, leD, cmpI, c1', c2', chainR, e_dLc, iStrD, hl, wipeD, lc, isName, c1, c2, eqE, empOf, sized_of, -List.isEmpty_map, al]
    · have c2' : ¬ (s.length : Int) < 9 := by omega
      have c1' : (0 : Int) < s.length := by omega
      simp only [f_law_is_name, dFn_eq, start_eq]
      simp -implicitDefEqProofs [-lcD_cons, -lcD_nil, isiD, tyD, okTy, isT, e_dChain, lenD, h1, ltD, leD, cmpI, c1', c2', chainR, isName, c1, c2]
  · have c1' : ¬ (0 : Int) < s.length := by omega
    simp only [f_law_is_name, dFn_eq, start_eq]
    simp -implicitDefEqProofs [-lcD_cons, -lcD_nil, isiD, tyD, okTy, isT, e_dChain, lenD, h1, ltD, leD, cmpI, c1', chainR, isName, c1]
end K51
namespace K51
open PySem L2 Tok
def digs (w : Str) : Bool := w.cps.toList.all fun c => decide (c ∈ digL)
def zOk (w : Str) : Bool := decide (w = ("0" : Str)) || !decide (w.cps.toList.headD 0 = 48)
def numV (w : Str) : Option Int := if decide (w = ("" : Str)) || (decide (30 < w.length) || !digs w) then none else if zOk w then some ((NumText.digitsVal w.cps.toList : Nat) : Int) else none
def numD (w : Str) : D := match numV w with
  | some i => .int i
  | none => .non
theorem dig_eq : digL = [48, 49, 50, 51, 52, 53, 54, 55, 56, 57] := by decide +kernel
theorem digs_all {w : Str} (h : digs w = true) : NumText.AllDigits w.cps.toList := fun c hc => by
  have := List.all_eq_true.mp h c hc
  simp [dig_eq] at this
  omega
theorem ne_emp {w : Str} (h : ¬ w = ("" : Str)) : w.cps.toList ≠ [] := fun e => h (Str.ext' (by rw [← Array.toList_inj, e]; rfl))
theorem head_at {w : Str} (h : ¬ w = ("" : Str)) : atI w.cps.toList 0 = some (w.cps.toList.headD 0) := by
  have := ne_emp h
  cases e : w.cps.toList with
  | nil => exact absurd e this
  | cons a r => simp [atI, ixN]
theorem sign0 (c : Nat) : ((⟨#[c]⟩ : Str) = ("0" : Str)) ↔ c = 48 := by
  have e : ("0" : Str) = ⟨#[48]⟩ := by decide +kernel
  rw [e]
  constructor
  · intro h; injection h with h; injection h with h; injection h
  · intro h; subst h; rfl
theorem int_of {w : Str} (h0 : ¬ w = ("" : Str)) (h1 : w.length ≤ 30) (h2 : digs w = true) (S : Sto) : intD S [.str w] = some (.int ((NumText.digitsVal w.cps.toList : Nat) : Int)) := by
  unfold intD
  dsimp only
  rw [if_pos (by omega), intText_digits (digs_all h2) (ne_emp h0) (by omega)]
  rfl
@[simp] theorem eqE_ss {a b : Str} {S : Sto} : eqE S (.str a) (.str b) = some (.bl (decide (a = b))) := rfl
@[simp] theorem neE_ss {a b : Str} {S : Sto} : neE S (.str a) (.str b) = some (.bl (!decide (a = b))) := rfl
@[simp] theorem eqE_ii {a b : Int} {S : Sto} : eqE S (.int a) (.int b) = some (.bl (decide (a = b))) := rfl
@[simp] theorem neE_ii {a b : Int} {S : Sto} : neE S (.int a) (.int b) = some (.bl (!decide (a = b))) := rfl
@[simp] theorem eqE_bb {a b : Bool} {S : Sto} : eqE S (.bl a) (.bl b) = some (.bl (decide (a = b))) := rfl
@[simp] theorem neE_bb {a b : Bool} {S : Sto} : neE S (.bl a) (.bl b) = some (.bl (!decide (a = b))) := rfl
@[simp] theorem eqE_l0 {xs : List D} {S : Sto} : eqE S (.lst xs) (.lst []) = some (.bl xs.isEmpty) := rfl
@[simp] theorem neE_l0 {xs : List D} {S : Sto} : neE S (.lst xs) (.lst []) = some (.bl (!xs.isEmpty)) := rfl
@[simp] theorem eqE_t0 {xs : List D} {S : Sto} : eqE S (.tup xs) (.tup []) = some (.bl xs.isEmpty) := rfl
@[simp] theorem neE_t0 {xs : List D} {S : Sto} : neE S (.tup xs) (.tup []) = some (.bl (!xs.isEmpty)) := rfl
theorem number_of {w : Str} (hs : w.length ≤ 1000000) (S : Sto) : f_number_of [.str w] S = .ok (numD w) S := by
  have lc : lcD (tgName 1) tYesD (dOp2 inD (dVar 1) (dC c_DIGITS)) (signs w) [some (.str w), none] S = .ok (w.cps.toList.map fun c => D.bl (decide (c ∈ digL))) S :=
    lc_signs (p := fun c => decide (c ∈ digL)) fun c => by simp [inD, c_DIGITS, in_sign, digL]
  have hl : (signs w).length ≤ sizeLine := by rw [signs_len]; exact big6 hs
  have h1 : w.length ≤ sizeLine := big6 hs
  have al := all_map S (fun c => decide (c ∈ digL)) w.cps.toList
  have ed : (w.cps.toList.all fun c => decide (c ∈ digL)) = digs w := rfl
  rw [ed] at al
  by_cases c0 : w = ("" : Str)
  · have en : numD w = .non := by simp [numD, numV, c0]
    rw [en, c0]
    simp only [f_number_of, dFn_eq, start_eq]
    simp -implicitDefEqProofs [-lcD_cons, -lcD_nil]
  by_cases c1 : 30 < w.length
  · have en : numD w = .non := by simp [numD, numV, c1]
    rw [en]
    have c1' : (30 : Int) < w.length := by omega
    simp only [f_number_of, dFn_eq, start_eq]
    simp -implicitDefEqProofs [-lcD_cons, -lcD_nil, c0, lenD, h1, gtD, cmpI, c_MOST_DIGITS, c1']
  have c1' : ¬ (30 : Int) < w.length := by omega
  cases c2 : digs w with
  | false =>
    have en : numD w = .non := by simp [numD, numV, c2]
    rw [en]
    rw [c2] at al
    simp only [f_number_of, dFn_eq, start_eq]
    simp -implicitDefEqProofs [-lcD_cons, -lcD_nil, c0, lenD, h1, gtD, cmpI, c_MOST_DIGITS, c1', e_dLc, iStrD, hl, wipeD, lc, al]
  | true =>
    rw [c2] at al
    have io := int_of c0 (by omega) c2 S
    have ix : ixD S (.str w) (.int 0) = some (.str ⟨#[w.cps.toList.headD 0]⟩) := by
      show (if w.length ≤ sizeLine then (atI w.cps.toList 0).map fun c => D.str ⟨#[c]⟩ else none) = _
      rw [if_pos h1, head_at c0]; rfl
    have en : numD w = if zOk w = true then .int ((NumText.digitsVal w.cps.toList : Nat) : Int) else .non := by
      simp only [numD, numV, c0, c1, c2]
      cases zOk w <;> simp
    have ez : zOk w = (decide (w = ("0" : Str)) || !decide (w.cps.toList.headD 0 = 48)) := rfl
    rw [en, ez]
    generalize w.cps.toList.headD 0 = hd at *
    generalize NumText.digitsVal w.cps.toList = dv at *
    have sg := sign0 hd
    simp only [f_number_of, dFn_eq, start_eq]
    rcases Classical.propComplete (w = ("0" : Str)) with z1 | z1 <;> rcases Classical.propComplete (hd = 48) with z2 | z2 <;>
      simp -implicitDefEqProofs [-lcD_cons, -lcD_nil, c0, lenD, h1, gtD, cmpI, c_MOST_DIGITS, c1', e_dLc, iStrD, hl, wipeD, lc, al, ix, io, z1, z2, sg]
end K51
namespace K51
open PySem L2 Tok
theorem atI_0 {a : D} {xs : List D} : atI (a :: xs) 0 = some a := atI_nat (k := 0) (by simp)
theorem atI_1 {a b : D} {xs : List D} : atI (a :: b :: xs) 1 = some b := atI_nat (k := 1) (by simp)
theorem law_number_of {w : Str} (hs : w.length ≤ 1000000) (S : Sto) : f_law_number_of [.str w] S = .ok (numD w) S := by
  have lc : lcD (tgName 1) (dTest (dOp2 notInD (dVar 1) (dC (.str "0123456789")))) (dVar 1) (signs w) [some (.str w), none] S = .ok ((w.cps.toList.filter fun c => !decide (c ∈ digL)).map fun c => D.str ⟨#[c]⟩) S :=
    lc_signsF (p := fun c => !decide (c ∈ digL)) (fun c => by simp [notInD, in_sign, digL]) (fun c => by simp)
  have hl : (signs w).length ≤ sizeLine := by rw [signs_len]; exact big6 hs
  have h1 : w.length ≤ sizeLine := big6 hs
  have al := fil_nil (fun c => !decide (c ∈ digL)) (fun c => D.str ⟨#[c]⟩) w.cps.toList
  have ed : (w.cps.toList.all fun c => !!decide (c ∈ digL)) = digs w := by simp [digs]
  rw [ed] at al
  generalize ((w.cps.toList.filter fun c => !decide (c ∈ digL)).map fun c => D.str ⟨#[c]⟩) = fl at *
  by_cases c0 : w = ("" : Str)
  · have en : numD w = .non := by simp [numD, numV, c0]
    rw [en, c0]
    simp only [f_law_number_of, dFn_eq, start_eq]
    simp -implicitDefEqProofs [-lcD_cons, -lcD_nil]
  by_cases c1 : 30 < w.length
  · have en : numD w = .non := by simp [numD, numV, c1]
    rw [en]
    have c1' : (30 : Int) < w.length := by omega
    simp only [f_law_number_of, dFn_eq, start_eq]
    simp -implicitDefEqProofs [-lcD_cons, -lcD_nil, c0, lenD, h1, gtD, cmpI, c1']
  have c1' : ¬ (30 : Int) < w.length := by omega
  cases c2 : digs w with
  | false =>
    have en : numD w = .non := by simp [numD, numV, c2]
    rw [en]
    rw [c2] at al
    simp only [f_law_number_of, dFn_eq, start_eq]
    simp -implicitDefEqProofs [-lcD_cons, -lcD_nil, -List.isEmpty_eq_false_iff, -List.isEmpty_iff, c0, lenD, h1, gtD, cmpI, c1', e_dLc, iStrD, hl, wipeD, lc, al, sized_of]
  | true =>
    rw [c2] at al
    have io := int_of c0 (by omega) c2 S
    have ix : ixD S (.str w) (.int 0) = some (.str ⟨#[w.cps.toList.headD 0]⟩) := by
      show (if w.length ≤ sizeLine then (atI w.cps.toList 0).map fun c => D.str ⟨#[c]⟩ else none) = _
      rw [if_pos h1, head_at c0]; rfl
    have en : numD w = if zOk w = true then .int ((NumText.digitsVal w.cps.toList : Nat) : Int) else .non := by
      simp only [numD, numV, c0, c1, c2]
      cases zOk w <;> simp
    have ez : zOk w = (decide (w = ("0" : Str)) || !decide (w.cps.toList.headD 0 = 48)) := rfl
    rw [en, ez]
    generalize w.cps.toList.headD 0 = hd at *
    generalize NumText.digitsVal w.cps.toList = dv at *
    have sg := sign0 hd
    simp only [f_law_number_of, dFn_eq, start_eq]
    rcases Classical.propComplete (w = ("0" : Str)) with z1 | z1 <;> rcases Classical.propComplete (hd = 48) with z2 | z2 <;>
      simp -implicitDefEqProofs [-lcD_cons, -lcD_nil, -List.isEmpty_iff, c0, lenD, h1, gtD, cmpI, c1', e_dLc, iStrD, hl, wipeD, lc, al, ix, io, z1, z2, sg, sized_of]
/-! ## values of some levels -/
def okV : Nat → D → Prop
  | _, .non => True
  | _, .bl _ => True
  | _, .int _ => True
  | _, .str s => s.length ≤ 1000000
  | n + 1, .tup xs => xs.length ≤ 1000000 ∧ ∀ x ∈ xs, okV n x
  | n + 1, .lst xs => xs.length ≤ 1000000 ∧ ∀ x ∈ xs, okV n x
  | _, _ => False
def fromB (low : Int) : D → Bool
  | .int i => decide (low ≤ i)
  | _ => false
theorem is_from {n : Nat} {low : Int} {d : D} (h : okV n d) (S : Sto) : f_is_from [.int low, d] S = .ok (.bl (fromB low d)) S := by
  cases d <;> (try (cases n <;> simp only [okV] at h)) <;> simp only [f_is_from, f_is_integer, dFn_eq, start_eq] <;> simp -implicitDefEqProofs [dFn_eq, start_eq, isiD, tyD, okTy, isT, fromB, geD, cmpI]
theorem is_whole {n : Nat} {low : Int} {d : D} (h : okV n d) (S : Sto) : f_law_is_whole [.int low, d] S = .ok (.bl (fromB low d)) S := by
  cases d <;> (try (cases n <;> simp only [okV] at h)) <;> simp only [f_law_is_whole, dFn_eq, start_eq] <;> simp -implicitDefEqProofs [isiD, tyD, okTy, isT, fromB, geD, cmpI]
def nameB : D → Bool
  | .str s => isName s
  | _ => false
theorem is_key {n : Nat} {d : D} (h : okV n d) (S : Sto) : f_is_key [d] S = .ok (.bl (nameB d)) S := by
  cases d with
  | str s => exact is_key_str (by cases n <;> exact h) S
  | _ => (try (cases n <;> simp only [okV] at h)) <;> simp only [f_is_key, dFn_eq, start_eq] <;> simp -implicitDefEqProofs [isiD, tyD, okTy, isT, nameB]
theorem law_is_name {n : Nat} {d : D} (h : okV n d) (S : Sto) : f_law_is_name [d] S = .ok (.bl (nameB d)) S := by
  cases d with
  | str s => exact law_is_name_str (by cases n <;> exact h) S
  | _ => (try (cases n <;> simp only [okV] at h)) <;> simp only [f_law_is_name, dFn_eq, start_eq] <;> simp -implicitDefEqProofs [isiD, tyD, okTy, isT, nameB]
end K51
namespace K51
open PySem L2 Tok
/-! ## entries of deeds -/
theorem cut_to {α : Type} {xs : List α} {k : Nat} : cutL xs none (some (k : Int)) = xs.take k := by
  unfold cutL
  rw [HT.sIx_nat, HT.sIx_none]
  simp only [List.drop_zero, Nat.sub_zero]
  by_cases h : k ≤ xs.length
  · rw [Nat.min_eq_left h]
  · rw [Nat.min_eq_right (by omega), List.take_of_length_le (by omega), List.take_of_length_le (by omega)]
theorem cut_from {α : Type} {xs : List α} {k : Nat} : cutL xs (some (k : Int)) none = xs.drop k := by
  unfold cutL
  rw [HT.sIx_nat, HT.sIx_none]
  by_cases h : k ≤ xs.length
  · rw [Nat.min_eq_left h, List.take_of_length_le (by simp)]
  · rw [Nat.min_eq_right (by omega), List.drop_of_length_le (by omega), List.drop_of_length_le (by omega)]
    simp
theorem cut_1 {α : Type} {xs : List α} : cutL xs (some 1) none = xs.drop 1 := cut_from (k := 1)
def zipR (ds : List D) (S : Sto) : R (List D) := match ds with
  | [x, y] => match treeOf x, treeOf y with
    | some (_, xs), some (_, ys) => .ok (zipD xs ys) S
    | _, _ => .bad
  | _ => .bad
theorem e_iZipT {na : DenA} {ρ : Tok.Env} {S : Sto} : iZipT na ρ S = (na ρ S).bind fun ds S1 => zipR ds S1 := by unfold iZipT zipR; rfl
theorem zipR_tt {xs ys : List D} {S : Sto} : zipR [.tup xs, .tup ys] S = .ok (zipD xs ys) S := rfl
theorem zipR_tl {xs ys : List D} {S : Sto} : zipR [.tup xs, .lst ys] S = .ok (zipD xs ys) S := rfl
theorem zipD_length : ∀ (xs ys : List D), (zipD xs ys).length = min xs.length ys.length
  | [], ys => by simp [zipD]
  | _ :: _, [] => by simp [zipD]
  | x :: xs, y :: ys => by simp [zipD, zipD_length xs ys]
theorem lc_zip {i j : Nat} {te : Den} {ρ : Tok.Env} {S : Sto} {h : D → D → D} : ∀ (xs ys : List D), (∀ x ∈ xs, ∀ y ∈ ys, te ((ρ.set i (some x)).set j (some y)) S = .ok (h x y) S) →
    lcD (tgTup 2 (tgCons (tgName i) (tgCons (tgName j) tgNil))) tYesD te (zipD xs ys) ρ S = .ok (List.zipWith h xs ys) S
  | [], ys, _ => by simp [zipD]
  | _ :: _, [], _ => by simp [zipD]
  | x :: xs, y :: ys, k => by
    have ih := lc_zip xs ys fun a ha b hb => k a (List.mem_cons_of_mem _ ha) b (List.mem_cons_of_mem _ hb)
    have e := k x List.mem_cons_self y List.mem_cons_self
    unfold zipD
    simp -implicitDefEqProofs [tgTup, e, ih]
theorem bls_zip (f : D → D → Bool) : ∀ (xs ys : List D), blsOf (List.zipWith (fun x y => D.bl (f x y)) xs ys) = some (List.zipWith f xs ys)
  | [], _ => by simp [blsOf]
  | _ :: _, [] => by simp [blsOf]
  | x :: xs, y :: ys => by simp [blsOf, bls_zip f xs ys]
theorem all_zip (S : Sto) (f : D → D → Bool) (xs ys : List D) : allD S [.lst (List.zipWith (fun x y => D.bl (f x y)) xs ys)] = some (.bl ((List.zipWith f xs ys).all id)) := by
  unfold allD
  dsimp only
  rw [bls_zip]
  rfl
def ltB : D → D → Bool
  | .int a, .int b => decide (a < b)
  | _, _ => false
def ascL (xs : List D) : Bool := (List.zipWith ltB xs (xs.drop 1)).all id
def ascB : D → Bool
  | .tup xs => xs.all (fromB 0) && ascL xs
  | _ => false
theorem from_int {low : Int} {x : D} (h : fromB low x = true) : ∃ i, x = .int i ∧ low ≤ i := by
  cases x <;> simp [fromB] at h
  exact ⟨_, rfl, h⟩
theorem is_asc {n : Nat} {d : D} (h : okV n d) (S : Sto) : f_is_ascending_tuple [d] S = .ok (.bl (ascB d)) S := by
  cases d with
  | tup xs =>
    cases n with
    | zero => exact (show False from h).elim
    | succ n =>
      obtain ⟨hl, hx⟩ := h
      have lc : lcD (tgName 1) tYesD (dCall f_is_from (aCons (dC (.int 0)) (aCons (dVar 1) aNil))) xs [some (.tup xs), none, none] S = .ok (xs.map fun x => D.bl (fromB 0 x)) S :=
        lc_map (h := fun x => D.bl (fromB 0 x)) xs fun x hm => by simp -implicitDefEqProofs [is_from (hx x hm)]
      have al := all_map S (fromB 0) xs
      have z1 : xs.length ≤ sizeLine := small hl
      cases c : xs.all (fromB 0) with
      | false =>
        rw [c] at al
        have e : ascB (.tup xs) = false := by simp [ascB, c]
        rw [e]
        simp only [f_is_ascending_tuple, dFn_eq, start_eq]
        simp -implicitDefEqProofs [-lcD_cons, -lcD_nil, isiD, tyD, okTy, isT, e_dLc, z1, wipeD, lc, al]
      | true =>
        rw [c] at al
        have hi : ∀ x ∈ xs, ∃ i, x = .int i := fun x hm => by
          obtain ⟨i, e, _⟩ := from_int (List.all_eq_true.mp c x hm)
          exact ⟨i, e⟩
        have lz : lcD (tgTup 2 (tgCons (tgName 1) (tgCons (tgName 2) tgNil))) tYesD (dOp2 ltD (dVar 1) (dVar 2)) (zipD xs (xs.drop 1)) [some (.tup xs), none, none] S = .ok (List.zipWith (fun x y => D.bl (ltB x y)) xs (xs.drop 1)) S :=
          lc_zip (h := fun x y => D.bl (ltB x y)) xs (xs.drop 1) fun x hm y hm' => by
            obtain ⟨a, rfl⟩ := hi x hm
            obtain ⟨b, rfl⟩ := hi y (List.mem_of_mem_drop hm')
            simp [ltD, cmpI, ltB]
        have zl : (zipD xs (xs.drop 1)).length ≤ sizeLine := by rw [zipD_length]; exact small (by omega)
        have az := all_zip S ltB xs (xs.drop 1)
        have e : ascB (.tup xs) = (List.zipWith ltB xs (xs.drop 1)).all id := by simp [ascB, c, ascL]
        have hz : ∀ S, zipR [.tup xs, .tup (xs.drop 1)] S = .ok (zipD xs (xs.drop 1)) S := fun _ => rfl
        rw [e]
        generalize (List.zipWith (fun x y => D.bl (ltB x y)) xs (xs.drop 1)) = zz at *
        generalize (List.zipWith ltB xs (xs.drop 1)).all id = bb at *
        generalize (zipD xs (xs.drop 1)) = zd at *
        simp only [f_is_ascending_tuple, dFn_eq, start_eq]
        simp -implicitDefEqProofs [-lcD_cons, -lcD_nil, -List.drop_one, isiD, tyD, okTy, isT, e_dLc, z1, wipeD, lc, al, e_iZipT, slD, cut_1, hz, zl, lz, az]
  | _ => (try (cases n <;> simp only [okV] at h)) <;> simp only [f_is_ascending_tuple, dFn_eq, start_eq] <;> simp -implicitDefEqProofs [isiD, tyD, okTy, isT, ascB]
def lawAsc : DenT := dTest (dOp2 geD (dOp2 ixD (dVar 1) (dOp2 subD (dVar 3) (dC (.int 1)))) (dOp2 ixD (dVar 1) (dVar 3)))
def rngR2 (ds : List D) (S : Sto) : R (List D) := match ds with
  | [.int i, .int j] => if -(2 ^ 62) ≤ i ∧ i < 2 ^ 62 ∧ -(2 ^ 62) ≤ j ∧ j < 2 ^ 62 then .ok (rngD i (j - i).toNat) S else .bad
  | _ => .bad
theorem e_iRange2 {na : DenA} {ρ : Tok.Env} {S : Sto} : iRange2 na ρ S = (na ρ S).bind fun ds S1 => rngR2 ds S1 := rfl
theorem ascL_rng (xs : List D) (hi : ∀ x ∈ xs, ∃ i, x = .int i) : ascL xs = (List.range (xs.length - 1)).all fun k => ltB (xs.getD k .non) (xs.getD (k + 1) .non) := by
  unfold ascL
  have e : List.zipWith ltB xs (xs.drop 1) = (List.range (xs.length - 1)).map fun k => ltB (xs.getD k .non) (xs.getD (k + 1) .non) := by
    apply List.ext_getElem
    · simp
    · intro k h1 h2
      simp at h1 h2
      have a1 : k < xs.length := by omega
      have a2 : k + 1 < xs.length := by omega
      have a3 : 1 + k < xs.length := by omega
      have e3 : 1 + k = k + 1 := by omega
      simp [List.getElem?_eq_getElem a1, List.getElem?_eq_getElem a2]
  rw [e]
  simp [List.all_map, Function.comp_def]
theorem law_asc_lc {xs : List D} (hi : ∀ x ∈ xs, ∃ i, x = .int i) (o0 o2 : Option D) (S : Sto) : ∃ ys, lcD (tgName 3) lawAsc (dVar 3) (rngD 1 (xs.length - 1)) [o0, some (.tup xs), o2, none] S = .ok ys S ∧ ys.isEmpty = ascL xs := by
  have pt : ∀ k : Nat, k < xs.length - 1 → lawAsc [o0, some (.tup xs), o2, some (.int (1 + (k : Int)))] S = .ok (!ltB (xs.getD k .non) (xs.getD (k + 1) .non)) S := fun k hk => by
    have a1 : k < xs.length := by omega
    have a2 : k + 1 < xs.length := by omega
    obtain ⟨a, ea⟩ := hi xs[k] (List.getElem_mem a1)
    obtain ⟨b, eb⟩ := hi xs[k + 1] (List.getElem_mem a2)
    have i1 : atI xs (1 + (k : Int) - 1) = some (.int a) := by
      have : (1 + (k : Int) - 1) = (k : Int) := by omega
      rw [this, atI_nat a1, ea]
    have i2 : atI xs (1 + (k : Int)) = some (.int b) := by
      have : (1 + (k : Int)) = ((k + 1 : Nat) : Int) := by omega
      rw [this, atI_nat a2, eb]
    have g1 : xs.getD k .non = .int a := by simp [List.getElem?_eq_getElem a1, ea]
    have g2 : xs.getD (k + 1) .non = .int b := by simp [List.getElem?_eq_getElem a2, eb]
    rw [g1, g2]
    simp -implicitDefEqProofs [lawAsc, ixD, subD, i1, i2, geD, cmpI, ltB]
    by_cases q : a < b
    · rw [decide_eq_true q, decide_eq_false (by omega)]; rfl
    · rw [decide_eq_false q, decide_eq_true (by omega)]; rfl
  have e := lc_filt (S := S) (ρ := [o0, some (.tup xs), o2, none]) (i := 3) (tt := lawAsc) (te := dVar 3) (p := fun d => match d with | .int i => !ltB (xs.getD (i - 1).toNat .non) (xs.getD ((i - 1).toNat + 1) .non) | _ => false) (h := id) (rngD 1 (xs.length - 1)) (fun d hd => by
    unfold rngD at hd
    obtain ⟨k, hk, rfl⟩ := List.mem_map.mp hd
    have hk := List.mem_range.mp hk
    have : ((1 + (k : Int) - 1)).toNat = k := by omega
    rw [show ([o0, some (D.tup xs), o2, none] : Tok.Env).set 3 (some (.int (1 + (k : Int)))) = [o0, some (.tup xs), o2, some (.int (1 + (k : Int)))] from rfl, pt k hk]
    simp only [this]) (fun d hd _ => by simp)
  refine ⟨_, e, ?_⟩
  rw [List.map_id, fil_sz, ascL_rng xs hi]
  unfold rngD
  rw [List.all_map]
  apply List.all_congr rfl
  intro k
  have : ((1 + (k : Int) - 1)).toNat = k := by omega
  have t2 : (1 + (k : Int)).toNat - 1 = k := by omega
  simp [Function.comp_def, this, t2]
end K51
namespace K51
open PySem L2 Tok
/-! ## entries, deeds -/
def isNonB : D → Bool
  | .non => true
  | _ => false
theorem isN (S : Sto) (r : D) : isND S r .non = some (.bl (isNonB r)) := by cases r <;> rfl
def entryB (s : Str) (d : D) : Bool := if s = "key" then nameB d else if s = "leader" then isNonB d || fromB 0 d else if s = "ghosts" then ascB d else fromB 0 d
theorem is_entry {n : Nat} {d : D} (h : okV n d) (s : Str) (S : Sto) : f_is_entry [.str s, d] S = .ok (.bl (entryB s d)) S := by
  have e1 := is_key h
  have e2 := is_from (low := 0) h
  have e3 := is_asc h
  unfold entryB
  rcases Classical.propComplete (s = ("key" : Str)) with z1 | z1 <;> rcases Classical.propComplete (s = ("leader" : Str)) with z2 | z2 <;> rcases Classical.propComplete (s = ("ghosts" : Str)) with z3 | z3 <;>
    simp only [f_is_entry, dFn_eq, start_eq] <;> simp -implicitDefEqProofs [c_KEY, c_LEADER, c_GHOST_LIST, z1, z2, z3, e1, e2, e3, isN] <;> cases isNonB d <;> simp
def lawS (s : Str) : Str := if s = "key" then "name" else s
def sortsAll : List Str := ["key", "number", "leader", "ghosts"]
theorem law_asc {n : Nat} {d : D} (h : okV n d) (S : Sto) : f_law_entry_good [.str "ghosts", d] S = .ok (.bl (ascB d)) S := by
  cases d with
  | tup xs =>
    cases n with
    | zero => exact (show False from h).elim
    | succ n =>
      obtain ⟨hl, hx⟩ := h
      have lc : lcD (tgName 2) (dNotT (dTest (dCall f_law_is_whole (aCons (dC (.int 0)) (aCons (dVar 2) aNil))))) (dVar 2) xs [some (.str "ghosts"), some (.tup xs), none, none] S = .ok ((xs.filter fun x => !fromB 0 x).map id) S :=
        lc_filt (p := fun x => !fromB 0 x) (h := id) xs (fun x hm => by simp -implicitDefEqProofs [is_whole (hx x hm)]) (fun x hm _ => by simp)
      rw [List.map_id] at lc
      have al := fil_sz (fun x => !fromB 0 x) xs
      have ea : (xs.all fun x => !!fromB 0 x) = xs.all (fromB 0) := by simp
      rw [ea] at al
      have z1 : xs.length ≤ sizeLine := small hl
      generalize (xs.filter fun x => !fromB 0 x) = fl at *
      have ng1 : ¬ (("ghosts" : Str) = "name") := by decide +kernel
      have ng2 : ¬ (("ghosts" : Str) = "leader") := by decide +kernel
      have ng3 : ¬ (("ghosts" : Str) = "number") := by decide +kernel
      cases c : xs.all (fromB 0) with
      | false =>
        rw [c] at al
        have e : ascB (.tup xs) = false := by simp [ascB, c]
        rw [e]
        simp only [f_law_entry_good, dFn_eq, start_eq]
        simp -implicitDefEqProofs [-lcD_cons, -lcD_nil, -List.isEmpty_iff, -List.isEmpty_eq_false_iff, ng1, ng2, ng3, isiD, tyD, okTy, isT, e_dLc, z1, wipeD, lc, al, sized_of]
      | true =>
        rw [c] at al
        have hi : ∀ x ∈ xs, ∃ i, x = .int i := fun x hm => by
          obtain ⟨i, e, _⟩ := from_int (List.all_eq_true.mp c x hm)
          exact ⟨i, e⟩
        obtain ⟨ys, l3, e3⟩ := law_asc_lc hi (some (.str "ghosts")) none S
        unfold lawAsc at l3
        have e : ascB (.tup xs) = ascL xs := by simp [ascB, c]
        rw [e]
        have hr : rngR2 [.int 1, .int (xs.length : Int)] S = .ok (rngD 1 (xs.length - 1)) S := by
          unfold rngR2
          dsimp only
          rw [if_pos ⟨by decide, by decide, by omega, by omega⟩]
          have : ((xs.length : Int) - 1).toNat = xs.length - 1 := by omega
          rw [this]
        have zr : (rngD 1 (xs.length - 1)).length ≤ sizeLine := by
          have : (rngD 1 (xs.length - 1)).length = xs.length - 1 := by simp [rngD]
          rw [this]; exact small (by omega)
        generalize rngD 1 (xs.length - 1) = rd at *
        simp only [f_law_entry_good, dFn_eq, start_eq]
        simp -implicitDefEqProofs [-lcD_cons, -lcD_nil, -List.isEmpty_iff, ng1, ng2, ng3, isiD, tyD, okTy, isT, e_dLc, z1, wipeD, lc, al, sized_of, e_iRange2, lenD, hr, zr, l3, e3]
  | _ => (try (cases n <;> simp only [okV] at h)) <;> simp only [f_law_entry_good, dFn_eq, start_eq] <;> simp -implicitDefEqProofs [isiD, tyD, okTy, isT, ascB, show ¬ (("ghosts" : Str) = "name") by decide +kernel, show ¬ (("ghosts" : Str) = "leader") by decide +kernel, show ¬ (("ghosts" : Str) = "number") by decide +kernel]
theorem law_entry {n : Nat} {d : D} (h : okV n d) {s : Str} (hs : s ∈ sortsAll) (S : Sto) : f_law_entry_good [.str (lawS s), d] S = .ok (.bl (entryB s d)) S := by
  have e1 := law_is_name h
  have e2 := is_whole (low := 0) h
  have e3 := law_asc h S
  simp only [sortsAll, List.mem_cons, List.not_mem_nil, or_false] at hs
  rcases hs with rfl | rfl | rfl | rfl
  · have l : lawS "key" = "name" := by decide +kernel
    have l2 : entryB "key" d = nameB d := rfl
    rw [l, l2]
    simp only [f_law_entry_good, dFn_eq, start_eq]
    simp -implicitDefEqProofs [e1]
  · have l : lawS "number" = "number" := by decide +kernel
    have l2 : entryB "number" d = fromB 0 d := rfl
    rw [l, l2]
    simp only [f_law_entry_good, dFn_eq, start_eq]
    simp -implicitDefEqProofs [e2, show ¬ (("number" : Str) = "name") by decide +kernel, show ¬ (("number" : Str) = "leader") by decide +kernel]
  · have l : lawS "leader" = "leader" := by decide +kernel
    have l2 : entryB "leader" d = (isNonB d || fromB 0 d) := rfl
    rw [l, l2]
    simp only [f_law_entry_good, dFn_eq, start_eq]
    simp -implicitDefEqProofs [e2, isN, show ¬ (("leader" : Str) = "name") by decide +kernel]
    cases isNonB d <;> simp
  · have l : lawS "ghosts" = "ghosts" := by decide +kernel
    have l2 : entryB "ghosts" d = ascB d := rfl
    rw [l, l2, e3]
end K51
namespace K51
open PySem L2 Tok
/-! ## deeds -/
def sortTab : List (Str × List Str) := [("put", ["key"]), ("halt", ["number"]), ("resume", ["number"]), ("take", ["number", "number"]), ("safe", ["number"]), ("takeover", ["number", "ghosts"]), ("forget", ["number", "number"]), ("begin", []), ("read", ["number", "key", "number", "leader"]), ("write", ["number", "key"]), ("finish", ["number"]), ("hand", ["number", "number"])]
def tupS (ss : List Str) : D := .tup (ss.map .str)
theorem tab_eq : tab_ENTRIES = sortTab.map fun p => (p.1, tupS p.2) := rfl
theorem lookup_mapS {β γ : Type} (f : β → γ) (w : Str) : ∀ l : List (Str × β), (l.map fun p => (p.1, f p.2)).lookup w = (l.lookup w).map f
  | [] => rfl
  | p :: l => by
    rw [List.map_cons, List.lookup_cons, List.lookup_cons, lookup_mapS f w l]
    split <;> rfl
theorem tab_at (w : Str) : tab_ENTRIES.lookup w = (sortTab.lookup w).map tupS := by rw [tab_eq, lookup_mapS]
def wordsL : List Str := sortTab.map (·.1)
theorem lookup_mem {β : Type} {w : Str} {b : β} : ∀ {l : List (Str × β)}, l.lookup w = some b → (w, b) ∈ l
  | [], h => by cases h
  | p :: l, h => by
    rw [List.lookup_cons] at h
    split at h
    · rename_i e
      have e : w = p.1 := by simpa using e
      cases h
      rw [e]
      exact List.mem_cons_self
    · exact List.mem_cons_of_mem _ (lookup_mem h)
theorem lookup_none {β : Type} {w : Str} : ∀ {l : List (Str × β)}, l.lookup w = none → w ∉ l.map (·.1)
  | [], _, h => by cases h
  | p :: l, h, hm => by
    rw [List.lookup_cons] at h
    split at h
    · cases h
    · rename_i e
      have e : ¬ w = p.1 := by simpa using e
      rcases List.mem_cons.mp hm with r | r
      · exact e r
      · exact lookup_none h r
theorem tab_words {w : Str} {ss : List Str} (h : sortTab.lookup w = some ss) : w ∈ wordsL := List.mem_map.mpr ⟨_, lookup_mem h, rfl⟩
theorem tab_sorts : ∀ p ∈ sortTab, p.2.length ≤ 4 ∧ ∀ s ∈ p.2, s ∈ sortsAll := by decide +kernel
theorem law_sorts {w : Str} {ss : List Str} (h : sortTab.lookup w = some ss) (S : Sto) : f_law_sorts [.str w] S = .ok (tupS (ss.map lawS)) S := by
  have m := lookup_mem h
  clear h
  simp only [sortTab, List.mem_cons, List.not_mem_nil, or_false, Prod.mk.injEq] at m
  rcases m with ⟨rfl, rfl⟩ | ⟨rfl, rfl⟩ | ⟨rfl, rfl⟩ | ⟨rfl, rfl⟩ | ⟨rfl, rfl⟩ | ⟨rfl, rfl⟩ | ⟨rfl, rfl⟩ | ⟨rfl, rfl⟩ | ⟨rfl, rfl⟩ | ⟨rfl, rfl⟩ | ⟨rfl, rfl⟩ | ⟨rfl, rfl⟩ <;> rfl
theorem law_words (S : Sto) : f_law_deed_words [] S = .ok (.lst (wordsL.map .str)) S := by rfl
def entryD (x y : D) : Bool := match x with
  | .str s => entryB s y
  | _ => false
def deedB : D → Bool
  | .tup (.str w :: ps) => match sortTab.lookup w with
    | some ss => decide (ps.length = ss.length) && (List.zipWith entryB ss ps).all id
    | none => false
  | _ => false
theorem zip_ent (ss : List Str) (ps : List D) : List.zipWith entryD (ss.map .str) ps = List.zipWith entryB ss ps := by
  rw [List.zipWith_map_left]
  rfl
theorem isi_tt {S : Sto} {xs : List D} : isiD OWN .tup S (.tup xs) = some (.bl true) := rfl
theorem isi_ss {S : Sto} {s : Str} : isiD OWN .str S (.str s) = some (.bl true) := rfl
theorem has_word {n : Nat} {d : D} (h : okV n d) (S : Sto) : ∃ b, f_has_deed_word [d] S = .ok (.bl b) S ∧
    (b = true → ∃ w ps ss, d = .tup (.str w :: ps) ∧ sortTab.lookup w = some ss ∧ ps.length = ss.length) ∧ (b = false → deedB d = false) := by
  have other : ∀ d : D, isiD OWN .tup S d = some (.bl false) → deedB d = false → ∃ b, f_has_deed_word [d] S = .ok (.bl b) S ∧
    (b = true → ∃ w ps ss, d = .tup (.str w :: ps) ∧ sortTab.lookup w = some ss ∧ ps.length = ss.length) ∧ (b = false → deedB d = false) := fun d e e2 => by
      refine ⟨false, ?_, fun z => Bool.noConfusion z, fun _ => e2⟩
      simp only [f_has_deed_word, dFn_eq, start_eq]
      simp -implicitDefEqProofs [e]
  cases d with
  | tup xs =>
    cases n with
    | zero => exact (show False from h).elim
    | succ n =>
      obtain ⟨hl, hx⟩ := h
      cases xs with
      | nil =>
        refine ⟨false, ?_, fun z => Bool.noConfusion z, fun _ => rfl⟩
        simp only [f_has_deed_word, dFn_eq, start_eq]
        simp -implicitDefEqProofs [isiD, tyD, okTy, isT, lenD]
      | cons x ps =>
        have nz : ¬ ((ps.length : Int) + 1 = 0) := by omega
        by_cases hs : ∃ w, x = .str w
        · obtain ⟨w, rfl⟩ := hs
          have ta := tab_at w
          cases hw : sortTab.lookup w with
          | none =>
            rw [hw] at ta
            refine ⟨false, ?_, fun z => Bool.noConfusion z, fun _ => by simp [deedB, hw]⟩
            simp only [f_has_deed_word, dFn_eq, start_eq]
            simp -implicitDefEqProofs [isiD, tyD, okTy, isT, lenD, nz, ixD, atI_0, inW, ta]
          | some ss =>
            rw [hw] at ta
            refine ⟨decide (ps.length = ss.length), ?_, fun z => ⟨w, ps, ss, rfl, hw, by simpa using z⟩, fun z => by simp [deedB, hw] at z ⊢; intro q; exact absurd q z⟩
            have e : (((ps.length : Int) + 1 = 1 + (ss.length : Int))) ↔ ps.length = ss.length := by omega
            simp only [f_has_deed_word, dFn_eq, start_eq]
            simp -implicitDefEqProofs [isiD, tyD, okTy, isT, lenD, nz, ixD, atI_0, inW, ixW, ta, tupS, addE, addD, e]
        · refine ⟨false, ?_, fun z => Bool.noConfusion z, fun _ => by
            unfold deedB
            split
            · rename_i w ps' e
              injection e with e
              injection e with e
              exact absurd ⟨_, e⟩ hs
            · rfl⟩
          have hx0 := hx x List.mem_cons_self
          have ie : isiD OWN .str S x = some (.bl false) := by
            cases x with
            | str s => exact absurd ⟨_, rfl⟩ hs
            | _ => (try (cases n <;> simp only [okV] at hx0)) <;> simp [isiD, tyD, okTy, isT]
          simp only [f_has_deed_word, dFn_eq, start_eq]
          simp -implicitDefEqProofs [isi_tt, lenD, nz, ixD, atI_0, ie]
  | non => exact other _ rfl rfl
  | bl b => exact other _ rfl rfl
  | int i => exact other _ rfl rfl
  | str s => exact other _ rfl rfl
  | lst xs => exact other _ rfl rfl
  | _ => (cases n <;> simp only [okV] at h)
theorem is_deed {n : Nat} {d : D} (h : okV n d) (S : Sto) : f_is_deed [d] S = .ok (.bl (deedB d)) S := by
  obtain ⟨b, e, t, f⟩ := has_word h S
  cases b with
  | false =>
    rw [f rfl]
    simp only [f_is_deed, dFn_eq, start_eq]
    simp -implicitDefEqProofs [e]
  | true =>
    obtain ⟨w, ps, ss, rfl, hw, hl⟩ := t rfl
    cases n with
    | zero => exact (show False from h).elim
    | succ n =>
      obtain ⟨hlen, hx⟩ := h
      have ta := tab_at w
      rw [hw] at ta
      have lz : lcD (tgTup 2 (tgCons (tgName 1) (tgCons (tgName 2) tgNil))) tYesD (dCall f_is_entry (aCons (dVar 1) (aCons (dVar 2) aNil))) (zipD (ss.map .str) ps) [some (.tup (.str w :: ps)), none, none] S = .ok (List.zipWith (fun x y => D.bl (entryD x y)) (ss.map .str) ps) S :=
        lc_zip (h := fun x y => D.bl (entryD x y)) _ _ fun x hm y hm' => by
          obtain ⟨s, _, rfl⟩ := List.mem_map.mp hm
          simp -implicitDefEqProofs [is_entry (hx y (List.mem_cons_of_mem _ hm')), entryD]
      have az := all_zip S entryD (ss.map .str) ps
      have zl : (zipD (ss.map .str) ps).length ≤ sizeLine := by rw [zipD_length]; simp at hlen; exact small (by omega)
      have hz : ∀ S, zipR [tupS ss, .tup ps] S = .ok (zipD (ss.map .str) ps) S := fun _ => rfl
      have ed : deedB (.tup (.str w :: ps)) = (List.zipWith entryD (ss.map .str) ps).all id := by simp only [deedB, hw, hl, zip_ent]; simp
      rw [ed]
      generalize List.zipWith (fun x y => D.bl (entryD x y)) (ss.map .str) ps = zz at *
      generalize (List.zipWith entryD (ss.map .str) ps).all id = bb at *
      generalize zipD (ss.map .str) ps = zd at *
      simp only [f_is_deed, dFn_eq, start_eq]
      simp -implicitDefEqProofs [-lcD_cons, -lcD_nil, e, ixD, atI_0, ixW, ta, e_dLc, e_iZipT, slD, cut_1, hz, zl, wipeD, lz, az]
theorem law_deed {n : Nat} {d : D} (h : okV n d) (S : Sto) : f_law_deed_good [d] S = .ok (.bl (deedB d)) S := by
  have other : ∀ d : D, isiD OWN .tup S d = some (.bl false) → deedB d = false → f_law_deed_good [d] S = .ok (.bl (deedB d)) S := fun d e e2 => by
    rw [e2]
    simp only [f_law_deed_good, dFn_eq, start_eq]
    simp -implicitDefEqProofs [e]
  cases d with
  | tup xs =>
    cases n with
    | zero => exact (show False from h).elim
    | succ n =>
      obtain ⟨hlen, hx⟩ := h
      cases xs with
      | nil =>
        have e2 : deedB (.tup []) = false := rfl
        rw [e2]
        simp only [f_law_deed_good, dFn_eq, start_eq]
        simp -implicitDefEqProofs [isiD, tyD, okTy, isT, sized_of]
      | cons x ps =>
        by_cases hs : ∃ w, x = .str w
        · obtain ⟨w, rfl⟩ := hs
          have inw : inB S (.str w) (.lst (wordsL.map .str)) = some (decide (w ∈ wordsL)) := by
            simp only [inB, seqOf, Option.bind_some, strs_map, Option.map_some]
          cases hw : sortTab.lookup w with
          | none =>
            have nm : w ∉ wordsL := lookup_none hw
            have e2 : deedB (.tup (.str w :: ps)) = false := by simp [deedB, hw]
            rw [e2]
            simp only [f_law_deed_good, dFn_eq, start_eq]
            simp -implicitDefEqProofs [isiD, tyD, okTy, isT, sized_of, ixD, atI_0, notInD, law_words, inw, nm]
          | some ss =>
            have nm : w ∈ wordsL := tab_words hw
            have ls := law_sorts hw
            have sl : ss.length ≤ 4 ∧ ∀ s ∈ ss, s ∈ sortsAll := tab_sorts _ (lookup_mem hw)
            by_cases hl : ps.length = ss.length
            · have ed : deedB (.tup (.str w :: ps)) = (List.zipWith entryB ss ps).all id := by simp only [deedB, hw, hl]; simp
              rw [ed]
              have pt : ∀ k : Nat, k < ss.length → dNotT (dTest (dCall f_law_entry_good (aCons (dOp2 ixD (dVar 1) (dVar 2)) (aCons (dOp2 ixD (dVar 0) (dOp2 addE (dVar 2) (dC (.int 1)))) aNil)))) [some (.tup (.str w :: ps)), some (tupS (ss.map lawS)), some (.int (k : Int))] S = .ok (!entryB (ss.getD k "") (ps.getD k .non)) S := fun k hk => by
                have kp : k < ps.length := by omega
                have a1 : atI (ss.map (D.str ∘ lawS)) (k : Int) = some (.str (lawS ss[k])) := by rw [atI_nat (by simpa using hk)]; simp
                have a2 : atI (D.str w :: ps) ((k : Int) + 1) = some ps[k] := by
                  have : ((k : Int) + 1) = ((k + 1 : Nat) : Int) := by omega
                  rw [this, atI_nat (by simp; omega)]
                  simp
                have g1 : ss.getD k "" = ss[k] := by simp [List.getElem?_eq_getElem hk]
                have g2 : ps.getD k .non = ps[k] := by simp [List.getElem?_eq_getElem kp]
                have le := law_entry (hx ps[k] (List.mem_cons_of_mem _ (List.getElem_mem kp))) (s := ss[k]) (sl.2 _ (List.getElem_mem hk))
                rw [g1, g2]
                simp -implicitDefEqProofs [ixD, tupS, a1, addE, addD, a2, le]
              have lc := lc_filt (S := S) (ρ := [some (.tup (.str w :: ps)), some (tupS (ss.map lawS)), none]) (i := 2) (tt := dNotT (dTest (dCall f_law_entry_good (aCons (dOp2 ixD (dVar 1) (dVar 2)) (aCons (dOp2 ixD (dVar 0) (dOp2 addE (dVar 2) (dC (.int 1)))) aNil))))) (te := dVar 2)
                (p := fun d => match d with | .int i => !entryB (ss.getD i.toNat "") (ps.getD i.toNat .non) | _ => false) (h := id) (rngD 0 ss.length) (fun d hd => by
                  obtain ⟨k, hk, rfl⟩ := rng_mem hd
                  rw [show ([some (.tup (.str w :: ps)), some (tupS (ss.map lawS)), none] : Tok.Env).set 2 (some (.int (k : Int))) = [some (.tup (.str w :: ps)), some (tupS (ss.map lawS)), some (.int (k : Int))] from rfl, pt k hk]
                  simp) (fun d hd _ => by simp)
              rw [List.map_id] at lc
              have em : (((rngD 0 ss.length).filter fun d => match d with | .int i => !entryB (ss.getD i.toNat "") (ps.getD i.toNat .non) | _ => false)).isEmpty = (List.zipWith entryB ss ps).all id := by
                rw [fil_sz]
                have e : List.zipWith entryB ss ps = (List.range ss.length).map fun k => entryB (ss.getD k "") (ps.getD k .non) := by
                  apply List.ext_getElem
                  · simp; omega
                  · intro k h1 h2
                    simp at h1 h2
                    have h3 := Nat.lt_min.mp h1
                    simp [List.getElem?_eq_getElem h3.1, List.getElem?_eq_getElem h3.2]
                rw [e]
                unfold rngD
                rw [List.all_map, List.all_map]
                apply List.all_congr rfl
                intro k
                simp [Function.comp_def]
              generalize ((rngD 0 ss.length).filter fun d => match d with | .int i => !entryB (ss.getD i.toNat "") (ps.getD i.toNat .non) | _ => false) = fl at *
              have hr : rngR [.int (ss.length : Int)] S = .ok (rngD 0 ss.length) S := rngR_nat (by omega)
              have zr : (rngD 0 ss.length).length ≤ sizeLine := by rw [rng_len]; exact small (by omega)
              have lw : ∀ S, lenD S [tupS (ss.map lawS)] = some (.int (ss.length : Int)) := fun S => by simp [lenD, tupS]
              have e1 : (((ss.length : Int) + 1 = 1 + (ss.length : Int))) := by omega
              have lp : ∀ S, lenD S [.tup (.str w :: ps)] = some (.int ((ss.length : Int) + 1)) := fun S => by simp [lenD, hl]
              generalize (List.zipWith entryB ss ps).all id = bb at *
              generalize rngD 0 ss.length = rd at *
              simp only [f_law_deed_good, dFn_eq, start_eq]
              simp -implicitDefEqProofs [-lcD_cons, -lcD_nil, -List.isEmpty_iff, isiD, tyD, okTy, isT, sized_of, ixD, atI_0, notInD, law_words, inw, nm, ls, lw, lp, addE, addD, e1, e_dLc, hr, zr, wipeD, lc, em]
            · have ed : deedB (.tup (.str w :: ps)) = false := by simp [deedB, hw, hl]
              rw [ed]
              have e1 : ¬ (((ps.length : Int) + 1 = 1 + (ss.length : Int))) := by omega
              simp only [f_law_deed_good, dFn_eq, start_eq]
              simp -implicitDefEqProofs [isiD, tyD, okTy, isT, sized_of, ixD, atI_0, notInD, law_words, inw, nm, ls, lenD, tupS, addE, addD, e1]
        · have ed : deedB (.tup (x :: ps)) = false := by
            unfold deedB
            split
            · rename_i w ps' e
              injection e with e
              injection e with e
              exact absurd ⟨_, e⟩ hs
            · rfl
          rw [ed]
          have hx0 := hx x List.mem_cons_self
          have ie : isiD OWN .str S x = some (.bl false) := by
            cases x with
            | str s => exact absurd ⟨_, rfl⟩ hs
            | _ => (try (cases n <;> simp only [okV] at hx0)) <;> simp [isiD, tyD, okTy, isT]
          simp only [f_law_deed_good, dFn_eq, start_eq]
          simp -implicitDefEqProofs [isi_tt, lenD, ixD, atI_0, sized_of, ie]
  | non => exact other _ rfl rfl
  | bl b => exact other _ rfl rfl
  | int i => exact other _ rfl rfl
  | str s => exact other _ rfl rfl
  | lst xs => exact other _ rfl rfl
  | _ => (cases n <;> simp only [okV] at h)
end K51
namespace K51
open PySem L2 Tok
/-! ## texts of deeds -/
def spc : Str := " "
def cma : Str := ","
def nl : Str := "\n"
theorem spc_len : spc.length = 1 := by decide +kernel
theorem cma_len : cma.length = 1 := by decide +kernel
theorem nl_len : nl.length = 1 := by decide +kernel
def numS (n : Nat) : Str := Str.ofString (toString (n : Int))
def smI (x : D) : Prop := ∃ n : Nat, x = .int n ∧ n < 10 ^ 30
def strT : D → Str
  | .int i => Str.ofString (toString i)
  | .str s => s
  | _ => ""
theorem numS_len {n : Nat} (h : n < 10 ^ 30) : (numS n).length ≤ 30 := by
  have := TL.numL_len (n := n) (k := 30) (by decide) h
  have e : (numS n).length = (TL.numL n).length := by
    show (TL.tl (Str.ofString (toString ((n : Nat) : Int)))).length = _
    rw [TL.tl_num]
  omega
theorem str_num {n : Nat} (h : n < 10 ^ 30) (S : Sto) : strE S [.int (n : Int)] = some (.str (numS n)) := by
  show strD S [.int (n : Int)] = _
  unfold strD
  dsimp only
  have h2 : (10 : Nat) ^ 30 ≤ 2 ^ 1000 := Nat.le_trans (show (10 : Nat) ^ 30 ≤ 2 ^ 100 by decide +kernel) (Nat.pow_le_pow_right (by decide) (by decide))
  rw [if_pos (by show n < 2 ^ 1000; omega)]
  rfl
def goodE (s : Str) (d : D) : Prop := (s = "key" ∧ ∃ z, d = .str z ∧ isName z = true) ∨ (s = "number" ∧ smI d) ∨ (s = "leader" ∧ (d = .non ∨ smI d)) ∨ (s = "ghosts" ∧ ∃ xs, d = .tup xs ∧ xs.length ≤ 10 ∧ (∀ x ∈ xs, smI x) ∧ ascL xs = true)
def ghostT (xs : List D) : Str := if xs.isEmpty = true then "-" else Txt.join cma (xs.map strT)
def entryT (s : Str) (d : D) : Str := match d with
  | .non => "none"
  | .tup xs => ghostT xs
  | d => strT d
theorem join_ok {b : Str} (hb : b.length = 1) {ys : List Str} (h : (ys.map (·.length)).sum + ys.length ≤ 1000000) : joinD b [.lst (ys.map .str)] = some (.str (Txt.join b ys)) := by
  unfold joinD joinL
  dsimp only
  rw [strs_map]
  simp only [Option.bind_some]
  rw [if_pos (by rw [hb]; omega)]
theorem sum_le {ys : List Str} {B : Nat} (h : ∀ y ∈ ys, y.length ≤ B) : (ys.map (·.length)).sum ≤ ys.length * B := by
  induction ys with
  | nil => simp
  | cons a r ih =>
    have h1 := h a List.mem_cons_self
    have h2 := ih fun y hy => h y (List.mem_cons_of_mem _ hy)
    simp only [List.map_cons, List.sum_cons, List.length_cons, Nat.add_mul]
    omega
theorem join_len {b : Str} (hb : b.length = 1) {ys : List Str} {B : Nat} (h : ∀ y ∈ ys, y.length ≤ B) : (Txt.join b ys).length ≤ ys.length * (B + 1) := by
  rw [TL.join_eq]
  have : ∀ ys : List Str, (∀ y ∈ ys, y.length ≤ B) → (Str.join b ys).length ≤ ys.length * (B + 1) := by
    intro ys
    induction ys with
    | nil => intro _; simp [Str.join, Str.length, Str.empty]
    | cons a r ih =>
      intro h
      have h1 := h a List.mem_cons_self
      cases r with
      | nil => simp [Str.join]; omega
      | cons c r =>
        have h2 := ih fun y hy => h y (List.mem_cons_of_mem _ hy)
        have e : (Str.join b (a :: c :: r)).length = a.length + b.length + (Str.join b (c :: r)).length := by
          show (a ++ b ++ Str.join b (c :: r)).length = _
          simp [Str.length_append]
        rw [e, hb]
        simp only [List.length_cons, Nat.add_mul] at h2 ⊢
        omega
  exact this ys h
theorem ghost_text {xs : List D} (hl : xs.length ≤ 10) (hx : ∀ x ∈ xs, smI x) (a b : Option D) (S : Sto) :
    lcD (tgName 2) tYesD (dOpN strE (aCons (dVar 2) aNil)) xs [a, b, none] S = .ok ((xs.map strT).map .str) S ∧ joinD "," [.lst ((xs.map strT).map .str)] = some (.str (Txt.join cma (xs.map strT))) ∧ (ghostT xs).length ≤ 310 := by
  have lc : lcD (tgName 2) tYesD (dOpN strE (aCons (dVar 2) aNil)) xs [a, b, none] S = .ok ((xs.map strT).map .str) S := by
    have := lc_map (S := S) (ρ := [a, b, none]) (i := 2) (te := dOpN strE (aCons (dVar 2) aNil)) (h := fun x => .str (strT x)) xs (fun x hm => by
      obtain ⟨n, rfl, hn⟩ := hx x hm
      have sn := str_num hn
      simp -implicitDefEqProofs [sn, strT, numS])
    rw [this, List.map_map]
    rfl
  have hb : ∀ y ∈ xs.map strT, y.length ≤ 30 := fun y hy => by
    obtain ⟨x, hm, rfl⟩ := List.mem_map.mp hy
    obtain ⟨n, rfl, hn⟩ := hx x hm
    exact numS_len hn
  have hs := sum_le hb
  have jn := join_ok cma_len (ys := xs.map strT) (by simp at hs ⊢; omega)
  have jl := join_len cma_len hb
  refine ⟨lc, jn, ?_⟩
  unfold ghostT
  split
  · decide +kernel
  · simp at jl
    omega
theorem entry_text {s : Str} {d : D} (h : goodE s d) (S : Sto) : f_entry_text [.str s, d] S = .ok (.str (entryT s d)) S ∧ f_law_entry_text [.str (lawS s), d] S = .ok (.str (entryT s d)) S ∧ (entryT s d).length ≤ 310 := by
  have nlk : ¬ (("key" : Str) = "leader") := by decide +kernel
  have ngk : ¬ (("key" : Str) = "ghosts") := by decide +kernel
  have nnl : ¬ (("name" : Str) = "leader") := by decide +kernel
  have nng : ¬ (("name" : Str) = "ghosts") := by decide +kernel
  have nul : ¬ (("number" : Str) = "leader") := by decide +kernel
  have nug : ¬ (("number" : Str) = "ghosts") := by decide +kernel
  have nlg : ¬ (("leader" : Str) = "ghosts") := by decide +kernel
  have ngl : ¬ (("ghosts" : Str) = "leader") := by decide +kernel
  have l1 : lawS "key" = "name" := by decide +kernel
  have l2 : lawS "number" = "number" := by decide +kernel
  have l3 : lawS "leader" = "leader" := by decide +kernel
  have l4 : lawS "ghosts" = "ghosts" := by decide +kernel
  rcases h with ⟨rfl, z, rfl, hz⟩ | ⟨rfl, n, rfl, hn⟩ | ⟨rfl, rfl | ⟨n, rfl, hn⟩⟩ | ⟨rfl, xs, rfl, hl, hx, ha⟩
  · rw [l1]
    refine ⟨?_, ?_, ?_⟩
    · simp only [f_entry_text, dFn_eq, start_eq]
      simp -implicitDefEqProofs [c_LEADER, c_GHOST_LIST, nlk, ngk, strE, entryT, strT]
    · simp only [f_law_entry_text, dFn_eq, start_eq]
      simp -implicitDefEqProofs [nnl, nng, strE, entryT, strT]
    · simp [isName] at hz
      show z.length ≤ 310
      omega
  · rw [l2]
    have sn := str_num hn
    refine ⟨?_, ?_, Nat.le_trans (numS_len hn) (by decide)⟩
    · simp only [f_entry_text, dFn_eq, start_eq]
      simp -implicitDefEqProofs [c_LEADER, c_GHOST_LIST, nul, nug, sn, entryT, strT, numS]
    · simp only [f_law_entry_text, dFn_eq, start_eq]
      simp -implicitDefEqProofs [nul, nug, sn, entryT, strT, numS]
  · rw [l3]
    refine ⟨?_, ?_, by decide +kernel⟩
    · simp only [f_entry_text, dFn_eq, start_eq]
      simp -implicitDefEqProofs [c_LEADER, isN, isNonB, c_NO_LEADER, entryT]
    · simp only [f_law_entry_text, dFn_eq, start_eq]
      simp -implicitDefEqProofs [isN, isNonB, entryT]
  · rw [l3]
    have sn := str_num hn
    refine ⟨?_, ?_, Nat.le_trans (numS_len hn) (by decide)⟩
    · simp only [f_entry_text, dFn_eq, start_eq]
      simp -implicitDefEqProofs [c_LEADER, c_GHOST_LIST, isN, isNonB, nlg, sn, entryT, strT, numS]
    · simp only [f_law_entry_text, dFn_eq, start_eq]
      simp -implicitDefEqProofs [isN, isNonB, nlg, sn, entryT, strT, numS]
  · rw [l4]
    obtain ⟨lc, jn, gl⟩ := ghost_text hl hx (some (.str "ghosts")) (some (.tup xs)) S
    have z1 : xs.length ≤ sizeLine := small (by omega)
    have ee : entryT "ghosts" (.tup xs) = ghostT xs := rfl
    rw [ee]
    unfold ghostT at gl ⊢
    generalize (xs.map strT).map D.str = ts at *
    generalize Txt.join cma (xs.map strT) = jt at *
    refine ⟨?_, ?_, gl⟩
    · simp only [f_entry_text, dFn_eq, start_eq]
      cases c : xs.isEmpty <;> simp -implicitDefEqProofs [-lcD_cons, -lcD_nil, -List.isEmpty_iff, -List.isEmpty_eq_false_iff, c_LEADER, c_GHOST_LIST, ngl, c, sized_of, e_dLc, z1, wipeD, lc, jn, c_NO_GHOSTS]
    · simp only [f_law_entry_text, dFn_eq, start_eq]
      cases c : xs.isEmpty <;> simp -implicitDefEqProofs [-lcD_cons, -lcD_nil, -List.isEmpty_iff, -List.isEmpty_eq_false_iff, ngl, c, sized_of, e_dLc, z1, wipeD, lc, jn]
end K51
namespace K51
open PySem L2 Tok
def goodAll : List Str → List D → Prop
  | [], [] => True
  | s :: ss, p :: ps => goodE s p ∧ goodAll ss ps
  | _, _ => False
theorem goodAll.len : ∀ {ss : List Str} {ps : List D}, goodAll ss ps → ps.length = ss.length
  | [], [], _ => rfl
  | _ :: _, _ :: _, h => by simp [goodAll.len h.2]
  | [], _ :: _, h => h.elim
  | _ :: _, [], h => h.elim
theorem goodAll.get : ∀ {ss : List Str} {ps : List D} {k : Nat}, goodAll ss ps → (h1 : k < ss.length) → (h2 : k < ps.length) → goodE ss[k] ps[k]
  | _ :: _, _ :: _, 0, h, _, _ => h.1
  | _ :: _, _ :: _, k + 1, h, h1, h2 => goodAll.get (k := k) h.2 (by simpa using h1) (by simpa using h2)
  | [], _, _, _, h1, _ => by simp at h1
  | _ :: _, [], _, h, _, _ => h.elim
def goodD (d : D) : Prop := ∃ w ss ps, d = .tup (.str w :: ps) ∧ sortTab.lookup w = some ss ∧ goodAll ss ps
def deedT : D → Str
  | .tup (.str w :: ps) => match sortTab.lookup w with
    | some ss => Txt.join spc (w :: List.zipWith entryT ss ps)
    | none => ""
  | _ => ""
theorem word_len : ∀ p ∈ sortTab, p.1.length ≤ 10 := by decide +kernel
def entryTD (x y : D) : D := match x with
  | .str s => .str (entryT s y)
  | _ => .non
theorem lc_zipG {i j : Nat} {te : Den} {ρ : Tok.Env} {S : Sto} {h : Str → D → D} : ∀ (ss : List Str) (ps : List D), goodAll ss ps → (∀ s p, goodE s p → te ((ρ.set i (some (.str s))).set j (some p)) S = .ok (h s p) S) →
    lcD (tgTup 2 (tgCons (tgName i) (tgCons (tgName j) tgNil))) tYesD te (zipD (ss.map .str) ps) ρ S = .ok (List.zipWith h ss ps) S
  | [], [], _, _ => by simp [zipD]
  | s :: ss, p :: ps, g, k => by
    have ih := lc_zipG ss ps g.2 k
    have e := k s p g.1
    show lcD _ _ _ (.tup [.str s, p] :: zipD (ss.map .str) ps) _ _ = _
    simp -implicitDefEqProofs [tgTup, e, ih]
  | [], _ :: _, g, _ => g.elim
  | _ :: _, [], g, _ => g.elim
theorem texts_len : ∀ {ss : List Str} {ps : List D}, goodAll ss ps → ∀ y ∈ List.zipWith entryT ss ps, y.length ≤ 310
  | [], [], _, y, h => by simp at h
  | s :: ss, p :: ps, g, y, h => by
    rw [List.zipWith_cons_cons] at h
    rcases List.mem_cons.mp h with rfl | h
    · exact (entry_text g.1 []).2.2
    · exact texts_len g.2 y h
  | [], _ :: _, g, _, _ => g.elim
  | _ :: _, [], g, _, _ => g.elim
theorem deed_join {w : Str} {ss : List Str} {ps : List D} (hw : sortTab.lookup w = some ss) (g : goodAll ss ps) :
    joinD " " [.lst ((w :: List.zipWith entryT ss ps).map .str)] = some (.str (deedT (.tup (.str w :: ps)))) ∧ (deedT (.tup (.str w :: ps))).length ≤ 2000 := by
  have hl : ss.length ≤ 4 := (tab_sorts _ (lookup_mem hw)).1
  have h1 : w.length ≤ 10 := word_len _ (lookup_mem hw)
  have h2 : ∀ y ∈ w :: List.zipWith entryT ss ps, y.length ≤ 310 := fun y hy => by
    rcases List.mem_cons.mp hy with rfl | hy
    · omega
    · exact texts_len g y hy
  have e : deedT (.tup (.str w :: ps)) = Txt.join spc (w :: List.zipWith entryT ss ps) := by simp [deedT, hw]
  have hs := sum_le h2
  have hn : (w :: List.zipWith entryT ss ps).length ≤ 5 := by simp; omega
  have s2 : (w :: List.zipWith entryT ss ps).length * 310 ≤ 5 * 310 := Nat.mul_le_mul_right _ hn
  rw [e]
  refine ⟨join_ok spc_len (by omega), ?_⟩
  have jl := join_len spc_len h2
  have s3 : (w :: List.zipWith entryT ss ps).length * (310 + 1) ≤ 5 * 311 := Nat.mul_le_mul_right _ hn
  omega
theorem deed_line {d : D} (h : goodD d) (S : Sto) : f_deed_line [d] S = .ok (.str (deedT d)) S := by
  obtain ⟨w, ss, ps, rfl, hw, g⟩ := h
  have ta := tab_at w
  rw [hw] at ta
  have lz : lcD (tgTup 2 (tgCons (tgName 2) (tgCons (tgName 3) tgNil))) tYesD (dCall f_entry_text (aCons (dVar 2) (aCons (dVar 3) aNil))) (zipD (ss.map .str) ps) [some (.tup (.str w :: ps)), some (tupS ss), none, none] S = .ok (List.zipWith (fun s p => D.str (entryT s p)) ss ps) S :=
    lc_zipG (h := fun s p => D.str (entryT s p)) ss ps g fun s p gp => by simp -implicitDefEqProofs [(entry_text gp _).1]
  have em : List.zipWith (fun s p => D.str (entryT s p)) ss ps = (List.zipWith entryT ss ps).map .str := by rw [List.map_zipWith]
  rw [em] at lz
  obtain ⟨jd, _⟩ := deed_join hw g
  have hl : ss.length ≤ 4 := (tab_sorts _ (lookup_mem hw)).1
  have zl : (zipD (ss.map .str) ps).length ≤ sizeLine := by rw [zipD_length]; simp; exact small (by omega)
  have hz : ∀ S, zipR [tupS ss, .tup ps] S = .ok (zipD (ss.map .str) ps) S := fun _ => rfl
  have sz : ((List.zipWith entryT ss ps).map D.str).length ≤ 1000 := by simp; omega
  rw [List.map_cons] at jd
  have sz2 : (D.str w :: (List.zipWith entryT ss ps).map D.str).length ≤ 1000 := by rw [List.length_cons]; simp at sz ⊢; omega
  generalize (List.zipWith entryT ss ps).map D.str = zz at *
  generalize zipD (ss.map .str) ps = zd at *
  simp only [f_deed_line, dFn_eq, start_eq]
  simp -implicitDefEqProofs [-lcD_cons, -lcD_nil, ixD, atI_0, ixW, ta, e_dLc, e_iZipT, slD, cut_1, hz, zl, wipeD, lz, sized_of sz2, jd]
theorem law_deed_text {d : D} (h : goodD d) (S : Sto) : f_law_deed_text [d] S = .ok (.str (deedT d)) S := by
  obtain ⟨w, ss, ps, rfl, hw, g⟩ := h
  have ls := law_sorts hw
  have gl := g.len
  have hl : ss.length ≤ 4 := (tab_sorts _ (lookup_mem hw)).1
  have lc := lc_map (S := S) (ρ := [some (.tup (.str w :: ps)), some (tupS (ss.map lawS)), none]) (i := 2) (te := dCall f_law_entry_text (aCons (dOp2 ixD (dVar 1) (dVar 2)) (aCons (dOp2 ixD (dVar 0) (dOp2 addE (dVar 2) (dC (.int 1)))) aNil)))
    (h := fun d => match d with | .int i => .str (entryT (ss.getD i.toNat "") (ps.getD i.toNat .non)) | _ => .non) (rngD 0 ss.length) (fun d hd => by
      obtain ⟨k, hk, rfl⟩ := rng_mem hd
      have kp : k < ps.length := by omega
      have a1 : atI (ss.map (D.str ∘ lawS)) (k : Int) = some (.str (lawS ss[k])) := by rw [atI_nat (by simpa using hk)]; simp
      have a2 : atI (D.str w :: ps) ((k : Int) + 1) = some ps[k] := by
        have : ((k : Int) + 1) = ((k + 1 : Nat) : Int) := by omega
        rw [this, atI_nat (by simp; omega)]
        simp
      have g1 : ss.getD k "" = ss[k] := by simp [List.getElem?_eq_getElem hk]
      have g2 : ps.getD k .non = ps[k] := by simp [List.getElem?_eq_getElem kp]
      have le := fun S => (entry_text (g.get hk kp) S).2.1
      simp -implicitDefEqProofs [ixD, tupS, a1, addE, addD, a2, le, List.getElem?_eq_getElem hk, List.getElem?_eq_getElem kp])
  have em : (rngD 0 ss.length).map (fun d => match d with | .int i => D.str (entryT (ss.getD i.toNat "") (ps.getD i.toNat .non)) | _ => .non) = (List.zipWith entryT ss ps).map .str := by
    apply List.ext_getElem
    · simp [rngD]; omega
    · intro k h1 h2
      simp [rngD] at h1 h2
      have h3 : k < ps.length := by omega
      simp [rngD, List.getElem?_eq_getElem h1, List.getElem?_eq_getElem h3]
  rw [em] at lc
  obtain ⟨jd, _⟩ := deed_join hw g
  rw [List.map_cons] at jd
  have hr : rngR [.int (ss.length : Int)] S = .ok (rngD 0 ss.length) S := rngR_nat (by omega)
  have zr : (rngD 0 ss.length).length ≤ sizeLine := by rw [rng_len]; exact small (by omega)
  have lw : ∀ S, lenD S [tupS (ss.map lawS)] = some (.int (ss.length : Int)) := fun S => by simp [lenD, tupS]
  have ad : ∀ S, addE S (.lst [.str w]) (.lst ((List.zipWith entryT ss ps).map .str)) = some (.lst (.str w :: (List.zipWith entryT ss ps).map .str)) := fun S => by
    show (if _ then _ else _) = _
    rw [if_pos (by simp; exact small (by omega))]
    rfl
  generalize (List.zipWith entryT ss ps).map D.str = zz at *
  generalize rngD 0 ss.length = rd at *
  simp only [f_law_deed_text, dFn_eq, start_eq]
  simp -implicitDefEqProofs [-lcD_cons, -lcD_nil, ixD, atI_0, ls, e_dLc, hr, zr, lw, wipeD, lc, sized_of, ad, jd]
theorem show_deed_good {d : D} (h : goodD d) {n : Nat} (ho : okV n d) (hb : deedB d = true) (S : Sto) : f_show_deed [d] S = .ok (.str (deedT d)) S := by
  have e := is_deed ho
  rw [hb] at e
  simp only [f_show_deed, dFn_eq, start_eq]
  simp -implicitDefEqProofs [e, deed_line h]
theorem show_deed_bad {d : D} {n : Nat} (ho : okV n d) (hb : deedB d = false) (S : Sto) : f_show_deed [d] S = .exn 2 [] S := by
  have e := is_deed ho
  rw [hb] at e
  simp only [f_show_deed, dFn_eq, start_eq]
  simp -implicitDefEqProofs [e]
/-! small values -/
def smV : Nat → D → Prop
  | _, .non => True
  | _, .bl _ => True
  | _, .int i => i.natAbs < 10 ^ 30
  | _, .str s => s.length ≤ 1000
  | n + 1, .tup xs => xs.length ≤ 10 ∧ ∀ x ∈ xs, smV n x
  | n + 1, .lst xs => xs.length ≤ 10 ∧ ∀ x ∈ xs, smV n x
  | _, _ => False
theorem sm_ok : ∀ (n : Nat) (d : D), smV n d → okV n d
  | n, .non, _ => by cases n <;> trivial
  | n, .bl _, _ => by cases n <;> trivial
  | n, .int _, _ => by cases n <;> trivial
  | n, .str s, h => by cases n <;> (have h : s.length ≤ 1000 := h; show s.length ≤ 1000000; omega)
  | n + 1, .tup xs, h => ⟨by have := h.1; omega, fun x hx => sm_ok n x (h.2 x hx)⟩
  | n + 1, .lst xs, h => ⟨by have := h.1; omega, fun x hx => sm_ok n x (h.2 x hx)⟩
  | 0, .tup _, h => h
  | 0, .lst _, h => h
  | 0, .scr _, h => h
  | 0, .dct _ _, h => h
  | 0, .ref _, h => h
  | 0, .fn _, h => h
  | _ + 1, .scr _, h => h
  | _ + 1, .dct _ _, h => h
  | _ + 1, .ref _, h => h
  | _ + 1, .fn _, h => h
theorem good_entry {n : Nat} {s : Str} {d : D} (hs : s ∈ sortsAll) (h : smV n d) (e : entryB s d = true) : goodE s d := by
  have num : ∀ {n : Nat} {d : D}, smV n d → fromB 0 d = true → smI d := fun {n d} h e => by
    obtain ⟨i, rfl, h0⟩ := from_int e
    have h : i.natAbs < 10 ^ 30 := by cases n <;> exact h
    exact ⟨i.natAbs, by congr 1; omega, h⟩
  simp only [sortsAll, List.mem_cons, List.not_mem_nil, or_false] at hs
  rcases hs with rfl | rfl | rfl | rfl
  · have e : nameB d = true := e
    cases d <;> simp [nameB] at e
    exact .inl ⟨rfl, _, rfl, e⟩
  · exact .inr (.inl ⟨rfl, num h e⟩)
  · have e : (isNonB d || fromB 0 d) = true := e
    refine .inr (.inr (.inl ⟨rfl, ?_⟩))
    cases hn : isNonB d with
    | true => cases d <;> simp [isNonB] at hn; exact .inl rfl
    | false => rw [hn] at e; exact .inr (num h (by simpa using e))
  · have e : ascB d = true := e
    cases d with
    | tup xs =>
      cases n with
      | zero => exact (show False from h).elim
      | succ n =>
        simp only [ascB, Bool.and_eq_true] at e
        exact .inr (.inr (.inr ⟨rfl, xs, rfl, h.1, fun x hx => num (h.2 x hx) (List.all_eq_true.mp e.1 x hx), e.2⟩))
    | _ => simp [ascB] at e
theorem good_all {n : Nat} : ∀ {ss : List Str} {ps : List D}, ps.length = ss.length → (∀ s ∈ ss, s ∈ sortsAll) → (∀ p ∈ ps, smV n p) → (List.zipWith entryB ss ps).all id = true → goodAll ss ps
  | [], [], _, _, _, _ => trivial
  | s :: ss, p :: ps, hl, hs, hp, e => by
    rw [List.zipWith_cons_cons, List.all_cons, Bool.and_eq_true] at e
    exact ⟨good_entry (hs s List.mem_cons_self) (hp p List.mem_cons_self) e.1, good_all (by simpa using hl) (fun a ha => hs a (List.mem_cons_of_mem _ ha)) (fun a ha => hp a (List.mem_cons_of_mem _ ha)) e.2⟩
  | [], _ :: _, hl, _, _, _ => by simp at hl
  | _ :: _, [], hl, _, _, _ => by simp at hl
theorem good_of {n : Nat} {d : D} (h : smV n d) (e : deedB d = true) : goodD d := by
  unfold deedB at e
  split at e
  · rename_i w ps
    cases n with
    | zero => exact (show False from h).elim
    | succ n =>
      cases hw : sortTab.lookup w with
      | none => rw [hw] at e; cases e
      | some ss =>
        rw [hw] at e
        simp only [Bool.and_eq_true, decide_eq_true_eq] at e
        exact ⟨w, ss, ps, rfl, hw, good_all e.1 (tab_sorts _ (lookup_mem hw)).2 (fun p hp => h.2 p (List.mem_cons_of_mem _ hp)) e.2⟩
  · cases e
theorem good_is : ∀ {ss : List Str} {ps : List D}, goodAll ss ps → (List.zipWith entryB ss ps).all id = true
  | [], [], _ => rfl
  | s :: ss, p :: ps, g => by
    rw [List.zipWith_cons_cons, List.all_cons, Bool.and_eq_true]
    refine ⟨?_, good_is g.2⟩
    rcases g.1 with ⟨rfl, z, rfl, hz⟩ | ⟨rfl, n, rfl, hn⟩ | ⟨rfl, rfl | ⟨n, rfl, hn⟩⟩ | ⟨rfl, xs, rfl, hl, hx, ha⟩
    · exact hz
    · show decide ((0 : Int) ≤ (n : Int)) = true; simp
    · rfl
    · show (isNonB (.int (n : Int)) || decide ((0 : Int) ≤ (n : Int))) = true; simp
    · show (xs.all (fromB 0) && ascL xs) = true
      rw [ha, Bool.and_true]
      exact List.all_eq_true.mpr fun x hm => by obtain ⟨n, rfl, _⟩ := hx x hm; simp [fromB]
  | [], _ :: _, g => g.elim
  | _ :: _, [], g => g.elim
theorem good_deed {d : D} (h : goodD d) : deedB d = true := by
  obtain ⟨w, ss, ps, rfl, hw, g⟩ := h
  simp only [deedB, hw, g.len, good_is g]
  simp
theorem good_ok {d : D} (h : goodD d) : okV 3 d := by
  obtain ⟨w, ss, ps, rfl, hw, g⟩ := h
  have hl : ss.length ≤ 4 := (tab_sorts _ (lookup_mem hw)).1
  have gl := g.len
  have all : ∀ {ss : List Str} {ps : List D}, goodAll ss ps → ∀ p ∈ ps, okV 2 p := by
    intro ss
    induction ss with
    | nil => intro ps g p hp; cases ps with
      | nil => cases hp
      | cons _ _ => exact g.elim
    | cons s ss ih => intro ps g p hp; cases ps with
      | nil => cases hp
      | cons q qs =>
        rcases List.mem_cons.mp hp with rfl | hp
        · rcases g.1 with ⟨_, z, rfl, hz⟩ | ⟨_, n, rfl, hn⟩ | ⟨_, rfl | ⟨n, rfl, hn⟩⟩ | ⟨_, xs, rfl, hl, hx, ha⟩
          · simp [isName] at hz
            show z.length ≤ 1000000
            omega
          · trivial
          · trivial
          · trivial
          · exact ⟨by omega, fun x hm => by obtain ⟨n, rfl, _⟩ := hx x hm; trivial⟩
        · exact ih g.2 p hp
  have h1 : w.length ≤ 10 := word_len _ (lookup_mem hw)
  refine ⟨by simp; omega, fun x hx => ?_⟩
  rcases List.mem_cons.mp hx with rfl | hx
  · show w.length ≤ 1000000
    omega
  · exact all g x hx
end K51
namespace K51
open PySem L2 Tok
/-! ## lines are read -/
theorem split_ok {z b : Str} (hb : b.length = 1) (hz : z.length ≤ 1000000) : splitD z [.str b] = some (.lst ((Txt.split z b).map .str)) := by
  unfold splitD
  dsimp only
  rw [if_pos ⟨by rw [hb]; rfl, by rw [sizeLine_eq]; omega⟩]
theorem split_n {z b : Str} (hb : b.length = 1) : (Txt.split z b).length ≤ z.length + 1 := by
  have := PyProof.Rows.split_weight z b (by omega)
  omega
def lineMax : Nat := 900000
def ghostI (w : Str) : D := if w = "-" then .tup [] else .tup ((Txt.split w cma).map numD)
theorem lc_nums {ρ : Tok.Env} {S : Sto} {i : Nat} {te : Den} : ∀ (ws : List Str), (∀ w ∈ ws, te (ρ.set i (some (.str w))) S = .ok (numD w) S) → lcD (tgName i) tYesD te (ws.map .str) ρ S = .ok (ws.map numD) S := fun ws h => by
  have e := lc_map (S := S) (ρ := ρ) (i := i) (te := te) (h := fun d => match d with | .str s => numD s | _ => .non) (ws.map .str) (fun d hd => by
    obtain ⟨w, hw, rfl⟩ := List.mem_map.mp hd
    exact h w hw)
  rw [e, List.map_map]
  rfl
theorem ghosts_in {w : Str} (h : w.length ≤ lineMax) (S : Sto) : f_ghosts_in [.str w] S = .ok (ghostI w) S := by
  have h' : w.length ≤ 1000000 := Nat.le_trans h (by decide)
  have es : splitD w [.str ","] = some (.lst ((Txt.split w cma).map .str)) := split_ok cma_len h'
  have lc : lcD (tgName 1) tYesD (dCall f_number_of (aCons (dVar 1) aNil)) ((Txt.split w cma).map .str) [some (.str w), none] S = .ok ((Txt.split w cma).map numD) S :=
    lc_nums _ fun p hp => by
      have := number_of (w := p) (Nat.le_trans (PyProof.Rows.part_short hp) h')
      simp -implicitDefEqProofs [this]
  have zl : ((Txt.split w cma).map D.str).length ≤ sizeLine := by
    have := split_n (z := w) cma_len
    have h2 : w.length ≤ 900000 := h
    rw [List.length_map]; exact big6 (by omega)
  unfold ghostI
  generalize (Txt.split w cma).map D.str = ps at *
  generalize (Txt.split w cma).map numD = qs at *
  rcases Classical.propComplete (w = ("-" : Str)) with z | z
  · rw [if_pos (of_eq_true z)]
    simp only [f_ghosts_in, dFn_eq, start_eq]
    simp -implicitDefEqProofs [c_NO_GHOSTS, z, sized_of]
  · rw [if_neg (of_eq_false z)]
    simp only [f_ghosts_in, dFn_eq, start_eq]
    simp -implicitDefEqProofs [-lcD_cons, -lcD_nil, c_NO_GHOSTS, z, sized_of, es, e_dLc, zl, wipeD, lc, tupleD]
def leadI (w : Str) : D := match numV w with
  | some i => .int i
  | none => if w = "none" then .non else .str ""
def entryI (s w : Str) : D := if s = "key" then (if isName w = true then .str w else .int 0) else if s = "leader" then leadI w else if s = "ghosts" then ghostI w else numD w
theorem entry_in {w : Str} (h : w.length ≤ lineMax) (s : Str) (S : Sto) : f_entry_in [.str s, .str w] S = .ok (entryI s w) S := by
  have h' : w.length ≤ 1000000 := Nat.le_trans h (by decide)
  have e1 := is_key_str h'
  have e2 := number_of h'
  have e3 := ghosts_in h
  unfold entryI
  rcases Classical.propComplete (s = ("key" : Str)) with z1 | z1
  · rw [if_pos (of_eq_true z1)]
    simp only [f_entry_in, dFn_eq, start_eq]
    cases c : isName w <;> simp -implicitDefEqProofs [c_KEY, z1, e1, c]
  rw [if_neg (of_eq_false z1)]
  rcases Classical.propComplete (s = ("leader" : Str)) with z2 | z2
  · rw [if_pos (of_eq_true z2)]
    unfold leadI
    cases nv : numV w with
    | none =>
      have nd : numD w = .non := by simp [numD, nv]
      rw [nd] at e2
      rcases Classical.propComplete (w = ("none" : Str)) with z3 | z3
      · simp only [if_pos (of_eq_true z3)]
        simp only [f_entry_in, dFn_eq, start_eq]
        simp -implicitDefEqProofs [c_KEY, c_LEADER, z1, z2, e2, isN, isNonB, c_NO_LEADER, z3]
      · simp only [if_neg (of_eq_false z3)]
        simp only [f_entry_in, dFn_eq, start_eq]
        simp -implicitDefEqProofs [c_KEY, c_LEADER, z1, z2, e2, isN, isNonB, c_NO_LEADER, z3]
    | some i =>
      have nd : numD w = .int i := by simp [numD, nv]
      rw [nd] at e2
      simp only [f_entry_in, dFn_eq, start_eq]
      simp -implicitDefEqProofs [c_KEY, c_LEADER, z1, z2, e2, isN, isNonB]
  rw [if_neg (of_eq_false z2)]
  rcases Classical.propComplete (s = ("ghosts" : Str)) with z3 | z3
  · rw [if_pos (of_eq_true z3)]
    simp only [f_entry_in, dFn_eq, start_eq]
    simp -implicitDefEqProofs [c_KEY, c_LEADER, c_GHOST_LIST, z1, z2, z3, e3]
  · rw [if_neg (of_eq_false z3)]
    simp only [f_entry_in, dFn_eq, start_eq]
    simp -implicitDefEqProofs [c_KEY, c_LEADER, c_GHOST_LIST, z1, z2, z3, e2]
theorem ok_num {n : Nat} (w : Str) : okV n (numD w) := by
  unfold numD
  split <;> (cases n <;> trivial)
theorem ok_entryI {w : Str} (h : w.length ≤ lineMax) (s : Str) : okV 1 (entryI s w) := by
  unfold entryI
  split
  · split
    · exact Nat.le_trans h (by decide)
    · trivial
  · split
    · unfold leadI
      split
      · trivial
      · split
        · trivial
        · show ("" : Str).length ≤ 1000000; decide +kernel
    · split
      · unfold ghostI
        split
        · exact ⟨by simp, fun x hx => by cases hx⟩
        · refine ⟨?_, fun x hx => ?_⟩
          · rw [List.length_map]
            have := split_n (z := w) cma_len
            have h2 : w.length ≤ 900000 := h
            omega
          · obtain ⟨p, _, rfl⟩ := List.mem_map.mp hx
            exact ok_num p
      · exact ok_num w
def tupI (w : Str) (ss r : List Str) : D := .tup (.str w :: List.zipWith entryI ss r)
def lineW : List Str → D
  | w :: r => match sortTab.lookup w with
    | some ss => if r.length = ss.length then (if deedB (tupI w ss r) = true then tupI w ss r else .non) else .non
    | none => .non
  | [] => .non
theorem lineW_none {w : Str} {r : List Str} (h : sortTab.lookup w = none) : lineW (w :: r) = .non := by simp [lineW, h]
theorem lineW_some {w : Str} {r ss : List Str} (h : sortTab.lookup w = some ss) : lineW (w :: r) = if r.length = ss.length then (if deedB (tupI w ss r) = true then tupI w ss r else .non) else .non := by simp [lineW, h]
def lineD (z : Str) : D := lineW (Txt.split z spc)
theorem lc_zipS {i j : Nat} {te : Den} {ρ : Tok.Env} {S : Sto} {h : Str → Str → D} : ∀ (ss r : List Str), (∀ s ∈ ss, ∀ p ∈ r, te ((ρ.set i (some (.str s))).set j (some (.str p))) S = .ok (h s p) S) →
    lcD (tgTup 2 (tgCons (tgName i) (tgCons (tgName j) tgNil))) tYesD te (zipD (ss.map .str) (r.map .str)) ρ S = .ok (List.zipWith h ss r) S
  | [], r, _ => by simp [zipD]
  | _ :: _, [], _ => by simp [zipD]
  | s :: ss, p :: r, k => by
    have ih := lc_zipS ss r fun a ha b hb => k a (List.mem_cons_of_mem _ ha) b (List.mem_cons_of_mem _ hb)
    have e := k s List.mem_cons_self p List.mem_cons_self
    show lcD _ _ _ (.tup [.str s, .str p] :: zipD (ss.map .str) (r.map .str)) _ _ = _
    simp -implicitDefEqProofs [tgTup, e, ih]
theorem split_cons (z b : Str) : ∃ w r, Txt.split z b = w :: r := by
  cases e : Txt.split z b with
  | nil => have := PyProof.Rows.split_pos z b; rw [e] at this; simp at this
  | cons w r => exact ⟨w, r, rfl⟩
theorem ok_tupI {w : Str} {ss r : List Str} (hw : w.length ≤ lineMax) (hs : ss.length ≤ 4) (hr : ∀ p ∈ r, p.length ≤ lineMax) : okV 2 (tupI w ss r) := by
  refine ⟨by simp; omega, fun x hx => ?_⟩
  rcases List.mem_cons.mp hx with rfl | hx
  · exact Nat.le_trans hw (by decide)
  · have : ∀ (ss r : List Str), (∀ p ∈ r, p.length ≤ lineMax) → ∀ x ∈ List.zipWith entryI ss r, okV 1 x := by
      intro ss
      induction ss with
      | nil => intro r _ x hx; simp at hx
      | cons s ss ih => intro r hr x hx; cases r with
        | nil => simp at hx
        | cons p r =>
          rw [List.zipWith_cons_cons] at hx
          rcases List.mem_cons.mp hx with rfl | hx
          · exact ok_entryI (hr p List.mem_cons_self) s
          · exact ih r (fun q hq => hr q (List.mem_cons_of_mem _ hq)) x hx
    exact this ss r hr x hx
theorem deed_in {z : Str} (h : z.length ≤ lineMax) (S : Sto) : f_deed_in [.str z] S = .ok (lineD z) S := by
  have h' : z.length ≤ 1000000 := Nat.le_trans h (by decide)
  have es : splitD z [.str " "] = some (.lst ((Txt.split z spc).map .str)) := split_ok spc_len h'
  obtain ⟨w, r, ew⟩ := split_cons z spc
  have hp : ∀ p ∈ w :: r, p.length ≤ lineMax := fun p hp => Nat.le_trans (PyProof.Rows.part_short (by rw [ew]; exact hp)) h
  have hn := split_n (z := z) spc_len
  unfold lineD
  rw [ew] at es hn ⊢
  have ta := tab_at w
  cases hw : sortTab.lookup w with
  | none =>
    rw [hw] at ta
    rw [lineW_none hw]
    simp only [f_deed_in, dFn_eq, start_eq]
    simp -implicitDefEqProofs [es, tgStar, notInW, ta]
  | some ss =>
    rw [hw] at ta
    have sl : ss.length ≤ 4 := (tab_sorts _ (lookup_mem hw)).1
    rw [lineW_some hw]
    by_cases hl : r.length = ss.length
    · simp only [if_pos hl]
      have lz : ∀ o : Option D, lcD (tgTup 2 (tgCons (tgName 4) (tgCons (tgName 5) tgNil))) tYesD (dCall f_entry_in (aCons (dVar 4) (aCons (dVar 5) aNil))) (zipD (ss.map .str) (r.map .str)) [some (.str z), some (.str w), some (.lst (r.map .str)), o, none, none] S = .ok (List.zipWith entryI ss r) S := fun o =>
        lc_zipS (h := entryI) ss r fun s _ p hm => by
          have := entry_in (hp p (List.mem_cons_of_mem _ hm)) s
          simp -implicitDefEqProofs [this]
      have zl : (zipD (ss.map .str) (r.map .str)).length ≤ sizeLine := by rw [zipD_length]; simp; exact small (by omega)
      have hz : ∀ S, zipR [tupS ss, .lst (r.map .str)] S = .ok (zipD (ss.map .str) (r.map .str)) S := fun _ => rfl
      have idd := is_deed (ok_tupI (w := w) (ss := ss) (r := r) (hp w List.mem_cons_self) sl fun p hm => hp p (List.mem_cons_of_mem _ hm)) S
      have lr : ∀ S, lenD S [.lst (r.map .str)] = some (.int (ss.length : Int)) := fun S => by simp [lenD, hl]
      have lt : ∀ S, lenD S [tupS ss] = some (.int (ss.length : Int)) := fun S => by simp [lenD, tupS]
      have sz : (D.str w :: List.zipWith entryI ss r).length ≤ 1000 := by simp; omega
      have et : tupI w ss r = .tup (.str w :: List.zipWith entryI ss r) := rfl
      rw [et] at idd ⊢
      generalize deedB (.tup (.str w :: List.zipWith entryI ss r)) = bb at *
      generalize List.zipWith entryI ss r = zz at *
      generalize zipD (ss.map .str) (r.map .str) = zd at *
      simp only [f_deed_in, dFn_eq, start_eq]
      cases bb <;> simp -implicitDefEqProofs [-lcD_cons, -lcD_nil, es, tgStar, notInW, ta, ixW, lr, lt, e_dLc, e_iZipT, hz, zl, wipeD, lz, sized_of sz, idd]
    · simp only [if_neg hl]
      have hl' : ¬ ((r.length : Int) = (ss.length : Int)) := by omega
      simp only [f_deed_in, dFn_eq, start_eq]
      simp -implicitDefEqProofs [es, tgStar, notInW, ta, ixW, lenD, tupS, hl']
end K51
namespace K51
open PySem L2 Tok
/-! ## the law's own reader of lines -/
def thingL (s p : Str) : D := if s = "key" then .str p else entryI s p
def leadBad (s p : Str) : Bool := decide (s = ("leader" : Str)) && ((numV p).isNone && !decide (p = ("none" : Str)))
def ldThing : DenS := (sSeq (sIf (dTest (dOp2 eqE (dOp2 ixD (dVar 3) (dVar 4)) (dC (.str "name")))) (sSeq (sAsg (dVar 5) (tgName 6)) sNext) (sSeq (sIf (dTest (dOp2 eqE (dOp2 ixD (dVar 3) (dVar 4)) (dC (.str "ghosts")))) (sSeq (sAsg (dIfE (dTest (dOp2 eqE (dVar 5) (dC (.str "-")))) (dTup aNil) (dOpN tupleD (aCons (dLc (iAny (dStrM splitD (dVar 5) (aCons (dC (.str ",")) aNil))) (tgName 7) tYesD (dCall f_law_number_of (aCons (dVar 7) aNil)) [7]) aNil))) (tgName 6)) sNext) (sSeq (sIf (dAndT (dTest (dOp2 eqE (dOp2 ixD (dVar 3) (dVar 4)) (dC (.str "leader")))) (dAndT (dTest (dOp2 isND (dVar 6) (dC .non))) (dTest (dOp2 neE (dVar 5) (dC (.str "none")))))) (sSeq (sRet (dC .non)) sNext) sNext) sNext)) sNext)) (sSeq (sDrop (dAppend (dVar 2) (dVar 6))) sNext))
def bodyLd : DenS := (sSeq (sAsg (dOp2 ixD (dVar 1) (dOp2 addE (dVar 4) (dC (.int 1)))) (tgName 5)) (sSeq (sAsg (dCall f_law_number_of (aCons (dVar 5) aNil)) (tgName 6)) ldThing))
theorem ld_thing {s p : Str} (hs : s ∈ sortsAll) (hp : p.length ≤ lineMax) {f k : Nat} {acc L : List D} {S : Sto} (hS : S[f]? = some (.lst acc)) (ha : acc.length ≤ 1000) (a0 a1 a7 : Option D) (hk : atI L (k : Int) = some (.str (lawS s))) :
    ∃ o7 : Option D, ldThing [a0, a1, some (.ref f), some (.tup L), some (.int (k : Int)), some (.str p), some (numD p), a7] S =
      if leadBad s p = true then .ok (.rt .non) S else .ok (.nx [a0, a1, some (.ref f), some (.tup L), some (.int (k : Int)), some (.str p), some (thingL s p), o7]) (S.set f (.lst (acc ++ [thingL s p]))) := by
  have h' : p.length ≤ 1000000 := Nat.le_trans hp (by decide)
  simp only [sortsAll, List.mem_cons, List.not_mem_nil, or_false] at hs
  rcases hs with rfl | rfl | rfl | rfl
  · have l : lawS "key" = "name" := by decide +kernel
    rw [l] at hk
    have e1 : leadBad "key" p = false := by
      have : ¬ (("key" : Str) = "leader") := by decide +kernel
      simp [leadBad, this]
    have e2 : thingL "key" p = .str p := rfl
    refine ⟨a7, ?_⟩
    rw [e1, if_neg Bool.false_ne_true, e2]
    unfold ldThing
    simp -implicitDefEqProofs [ixD, hk, e_dAppend, app1_ok hS, app2_ok hS ha]
  · have l : lawS "number" = "number" := by decide +kernel
    rw [l] at hk
    have n1 : ¬ (("number" : Str) = "leader") := by decide +kernel
    have n2 : ¬ (("number" : Str) = "ghosts") := by decide +kernel
    have n3 : ¬ (("number" : Str) = "name") := by decide +kernel
    have n4 : ¬ (("number" : Str) = "key") := by decide +kernel
    have e1 : leadBad "number" p = false := by simp [leadBad, n1]
    have e2 : thingL "number" p = numD p := by simp [thingL, entryI, n1, n2, n4]
    refine ⟨a7, ?_⟩
    rw [e1, if_neg Bool.false_ne_true, e2]
    unfold ldThing
    simp -implicitDefEqProofs [ixD, hk, n1, n2, n3, e_dAppend, app1_ok hS, app2_ok hS ha]
  · have l : lawS "leader" = "leader" := by decide +kernel
    rw [l] at hk
    have n2 : ¬ (("leader" : Str) = "ghosts") := by decide +kernel
    have n3 : ¬ (("leader" : Str) = "name") := by decide +kernel
    have n4 : ¬ (("leader" : Str) = "key") := by decide +kernel
    have e2 : thingL "leader" p = leadI p := by simp [thingL, entryI, n4]
    rw [e2]
    refine ⟨a7, ?_⟩
    unfold leadI leadBad
    cases nv : numV p with
    | some i =>
      have nd : numD p = .int i := by simp [numD, nv]
      rw [nd]
      unfold ldThing
      simp -implicitDefEqProofs [ixD, hk, n2, n3, isN, isNonB, e_dAppend, app1_ok hS, app2_ok hS ha]
    | none =>
      have nd : numD p = .non := by simp [numD, nv]
      rw [nd]
      rcases Classical.propComplete (p = ("none" : Str)) with z3 | z3
      · unfold ldThing
        simp -implicitDefEqProofs [ixD, hk, n2, n3, isN, isNonB, z3, e_dAppend, app1_ok hS, app2_ok hS ha]
      · unfold ldThing
        simp -implicitDefEqProofs [ixD, hk, n2, n3, isN, isNonB, z3]
  · have l : lawS "ghosts" = "ghosts" := by decide +kernel
    rw [l] at hk
    have n1 : ¬ (("ghosts" : Str) = "leader") := by decide +kernel
    have n3 : ¬ (("ghosts" : Str) = "name") := by decide +kernel
    have n4 : ¬ (("ghosts" : Str) = "key") := by decide +kernel
    have e1 : leadBad "ghosts" p = false := by simp [leadBad, n1]
    have e2 : thingL "ghosts" p = ghostI p := by simp [thingL, entryI, n1, n4]
    refine ⟨a7, ?_⟩
    rw [e1, if_neg Bool.false_ne_true, e2]
    have es : splitD p [.str ","] = some (.lst ((Txt.split p cma).map .str)) := split_ok cma_len h'
    have lc : ∀ (o : Option D) S, lcD (tgName 7) tYesD (dCall f_law_number_of (aCons (dVar 7) aNil)) ((Txt.split p cma).map .str) [a0, a1, some (.ref f), some (.tup L), some (.int (k : Int)), some (.str p), o, none] S = .ok ((Txt.split p cma).map numD) S := fun o S =>
      lc_nums _ fun q hq => by
        have := law_number_of (w := q) (Nat.le_trans (PyProof.Rows.part_short hq) h')
        simp -implicitDefEqProofs [this]
    have zl : ((Txt.split p cma).map D.str).length ≤ sizeLine := by
      have := split_n (z := p) cma_len
      have h2 : p.length ≤ 900000 := hp
      rw [List.length_map]; exact big6 (by omega)
    unfold ghostI
    generalize (Txt.split p cma).map D.str = ps at *
    generalize (Txt.split p cma).map numD = qs at *
    unfold ldThing
    rcases Classical.propComplete (p = ("-" : Str)) with z | z
    · simp -implicitDefEqProofs [ixD, hk, n1, n3, z, sized_of, e_dAppend, app1_ok hS, app2_ok hS ha]
    · simp -implicitDefEqProofs [-lcD_cons, -lcD_nil, ixD, hk, n1, n3, z, es, e_dLc, zl, wipeD, lc, tupleD, e_dAppend, app1_ok hS, app2_ok hS ha]
theorem ld_step {ss r : List Str} {w : Str} {k : Nat} (hk : k < ss.length) (hl : r.length = ss.length) (hs : ∀ s ∈ ss, s ∈ sortsAll) (hp : ∀ p ∈ r, p.length ≤ lineMax) {f : Nat} {acc : List D} {S : Sto} (hS : S[f]? = some (.lst acc)) (ha : acc.length ≤ 1000) (a0 a5 a6 a7 : Option D) :
    ∃ o5 o6 o7 : Option D, bodyLd [a0, some (.lst ((w :: r).map .str)), some (.ref f), some (tupS (ss.map lawS)), some (.int (k : Int)), a5, a6, a7] S =
      if leadBad (ss.getD k "") (r.getD k "") = true then .ok (.rt .non) S else .ok (.nx [a0, some (.lst ((w :: r).map .str)), some (.ref f), some (tupS (ss.map lawS)), some (.int (k : Int)), o5, o6, o7]) (S.set f (.lst (acc ++ [thingL (ss.getD k "") (r.getD k "")]))) := by
  have kp : k < r.length := by omega
  have g1 : ss.getD k "" = ss[k] := by simp [List.getElem?_eq_getElem hk]
  have g2 : r.getD k "" = r[k] := by simp [List.getElem?_eq_getElem kp]
  rw [g1, g2]
  have a2 : atI ((w :: r).map D.str) ((k : Int) + 1) = some (.str r[k]) := by
    have : ((k : Int) + 1) = ((k + 1 : Nat) : Int) := by omega
    rw [this, atI_nat (by simp; omega)]
    simp
  have a1 : atI ((ss.map lawS).map D.str) (k : Int) = some (.str (lawS ss[k])) := by rw [atI_nat (by simpa using hk)]; simp
  have hpk := hp r[k] (List.getElem_mem kp)
  have ln := law_number_of (w := r[k]) (Nat.le_trans hpk (by decide))
  obtain ⟨o7, e⟩ := ld_thing (hs ss[k] (List.getElem_mem hk)) hpk hS ha a0 (some (.lst ((w :: r).map .str))) a7 a1
  refine ⟨some (.str r[k]), some (thingL ss[k] r[k]), o7, ?_⟩
  rw [show tupS (ss.map lawS) = .tup ((ss.map lawS).map D.str) from rfl, ← e]
  unfold bodyLd
  generalize (ss.map lawS).map D.str = L at *
  generalize (w :: r).map D.str = WL at *
  simp -implicitDefEqProofs [ixD, addE, addD, a2, ln]
def rngF (k m : Nat) : List D := (List.range m).map fun j => .int ((k + j : Nat) : Int)
theorem rngF_succ (k m : Nat) : rngF k (m + 1) = .int (k : Int) :: rngF (k + 1) m := by
  unfold rngF
  rw [List.range_succ_eq_map, List.map_cons, List.map_map]
  congr 1
  apply List.map_congr_left
  intro j _
  simp
  omega
theorem rngF_0 (n : Nat) : rngD 0 n = rngF 0 n := by
  unfold rngD rngF
  apply List.map_congr_left
  intro j _
  simp
theorem ld_loop {ss r : List Str} {w : Str} (hl : r.length = ss.length) (hs : ∀ s ∈ ss, s ∈ sortsAll) (hp : ∀ p ∈ r, p.length ≤ lineMax) (hss : ss.length ≤ 4) {f : Nat} (a0 : Option D) : ∀ (m k : Nat) (acc : List D) (S : Sto) (a4 a5 a6 a7 : Option D), k + m = ss.length → S[f]? = some (.lst acc) → acc.length ≤ 100 + k →
    ((List.zipWith leadBad (ss.drop k) (r.drop k)).any id = true → ∃ S', loopD (tgName 4) bodyLd (rngF k m) [a0, some (.lst ((w :: r).map .str)), some (.ref f), some (tupS (ss.map lawS)), a4, a5, a6, a7] S = .ok (.rt .non) S' ∧ ∃ o, S' = S.set f o) ∧
    ((List.zipWith leadBad (ss.drop k) (r.drop k)).any id = false → ∃ o4 o5 o6 o7, loopD (tgName 4) bodyLd (rngF k m) [a0, some (.lst ((w :: r).map .str)), some (.ref f), some (tupS (ss.map lawS)), a4, a5, a6, a7] S = .ok (.nx [a0, some (.lst ((w :: r).map .str)), some (.ref f), some (tupS (ss.map lawS)), o4, o5, o6, o7]) (S.set f (.lst (acc ++ List.zipWith thingL (ss.drop k) (r.drop k)))))
  | 0, k, acc, S, a4, a5, a6, a7, hk, hS, ha => by
    have e1 : ss.drop k = [] := List.drop_eq_nil_of_le (by omega)
    rw [e1]
    refine ⟨fun h => by simp at h, fun _ => ⟨a4, a5, a6, a7, ?_⟩⟩
    have hlt := (List.getElem?_eq_some_iff.mp hS)
    have es : S.set f (.lst acc) = S := by
      obtain ⟨h1, h2⟩ := hlt
      rw [← h2]
      exact List.set_getElem_self h1
    simp [rngF, es]
  | m + 1, k, acc, S, a4, a5, a6, a7, hk, hS, ha => by
    have hkl : k < ss.length := by omega
    have hkr : k < r.length := by omega
    obtain ⟨o5, o6, o7, e⟩ := ld_step (w := w) hkl hl hs hp hS (by omega) a0 a5 a6 a7
    have d1 : ss.drop k = ss.getD k "" :: ss.drop (k + 1) := by rw [List.drop_eq_getElem_cons hkl]; simp [List.getElem?_eq_getElem hkl]
    have d2 : r.drop k = r.getD k "" :: r.drop (k + 1) := by rw [List.drop_eq_getElem_cons hkr]; simp [List.getElem?_eq_getElem hkr]
    rw [d1, d2]
    generalize ss.getD k "" = s at *
    generalize r.getD k "" = p at *
    have hfl : f < S.length := (List.getElem?_eq_some_iff.mp hS).1
    have step : loopD (tgName 4) bodyLd (rngF k (m + 1)) [a0, some (.lst ((w :: r).map .str)), some (.ref f), some (tupS (ss.map lawS)), a4, a5, a6, a7] S = loopK (tgName 4) bodyLd (rngF (k + 1) m) (bodyLd [a0, some (.lst ((w :: r).map .str)), some (.ref f), some (tupS (ss.map lawS)), some (.int (k : Int)), a5, a6, a7] S) := by
      rw [rngF_succ, loop_cons, e_tgName, loopO_some]
      rfl
    rw [step, e]
    by_cases hb : leadBad s p = true
    · rw [if_pos hb, loopK_rt]
      refine ⟨fun _ => ⟨S, rfl, .lst acc, ?_⟩, fun h => by simp [hb] at h⟩
      obtain ⟨h1, h2⟩ := List.getElem?_eq_some_iff.mp hS
      rw [← h2]
      exact (List.set_getElem_self h1).symm
    · rw [if_neg hb, loopK_nx]
      have ih := ld_loop (w := w) hl hs hp hss a0 m (k + 1) (acc ++ [thingL s p]) (S.set f (.lst (acc ++ [thingL s p]))) (some (.int (k : Int))) o5 o6 o7 (by omega) (by rw [List.getElem?_set_self hfl]) (by simp; omega)
      have hb' : leadBad s p = false := by simpa using hb
      rw [List.zipWith_cons_cons, List.zipWith_cons_cons, List.any_cons, hb']
      refine ⟨fun h => ?_, fun h => ?_⟩
      · obtain ⟨S', e1, o, e2⟩ := ih.1 (by simpa using h)
        exact ⟨S', e1, o, by rw [e2, List.set_set]⟩
      · obtain ⟨b4, b5, b6, b7, e1⟩ := ih.2 (by simpa using h)
        refine ⟨b4, b5, b6, b7, ?_⟩
        rw [e1, List.set_set, List.append_assoc]
        rfl
theorem ent_thing {s p : Str} (hs : s ∈ sortsAll) : entryB s (thingL s p) = entryB s (entryI s p) ∧ (entryB s (entryI s p) = true → thingL s p = entryI s p) ∧ (leadBad s p = true → entryB s (entryI s p) = false) := by
  simp only [sortsAll, List.mem_cons, List.not_mem_nil, or_false] at hs
  rcases hs with rfl | rfl | rfl | rfl
  · have e2 : thingL "key" p = .str p := rfl
    have e3 : entryI "key" p = if isName p = true then .str p else .int 0 := rfl
    have e1 : leadBad "key" p = false := by
      have : ¬ (("key" : Str) = "leader") := by decide +kernel
      simp [leadBad, this]
    rw [e1, e2, e3]
    show nameB (.str p) = nameB _ ∧ (nameB _ = true → _) ∧ _
    by_cases h : isName p = true
    · rw [if_pos h]; exact ⟨rfl, fun _ => rfl, fun z => Bool.noConfusion z⟩
    · rw [if_neg h]; exact ⟨by simpa [nameB] using h, fun z => Bool.noConfusion z, fun z => Bool.noConfusion z⟩
  · have n1 : ¬ (("number" : Str) = "leader") := by decide +kernel
    have n4 : ¬ (("number" : Str) = "key") := by decide +kernel
    have e1 : leadBad "number" p = false := by simp [leadBad, n1]
    have e2 : thingL "number" p = entryI "number" p := by simp [thingL, n4]
    rw [e1, e2]
    exact ⟨rfl, fun _ => rfl, fun z => Bool.noConfusion z⟩
  · have n4 : ¬ (("leader" : Str) = "key") := by decide +kernel
    have e2 : thingL "leader" p = entryI "leader" p := by simp [thingL, n4]
    rw [e2]
    refine ⟨rfl, fun _ => rfl, fun z => ?_⟩
    have e3 : entryI "leader" p = leadI p := by simp [entryI, n4]
    rw [e3]
    unfold leadBad at z
    unfold leadI
    cases nv : numV p with
    | some i => rw [nv] at z; simp at z
    | none =>
      rw [nv] at z
      simp at z
      rw [if_neg z]
      rfl
  · have n1 : ¬ (("ghosts" : Str) = "leader") := by decide +kernel
    have n4 : ¬ (("ghosts" : Str) = "key") := by decide +kernel
    have e1 : leadBad "ghosts" p = false := by simp [leadBad, n1]
    have e2 : thingL "ghosts" p = entryI "ghosts" p := by simp [thingL, n4]
    rw [e1, e2]
    exact ⟨rfl, fun _ => rfl, fun z => Bool.noConfusion z⟩
theorem things : ∀ {ss r : List Str}, (∀ s ∈ ss, s ∈ sortsAll) → List.zipWith entryB ss (List.zipWith thingL ss r) = List.zipWith entryB ss (List.zipWith entryI ss r) ∧
    ((List.zipWith entryB ss (List.zipWith entryI ss r)).all id = true → List.zipWith thingL ss r = List.zipWith entryI ss r ∧ (List.zipWith leadBad ss r).any id = false)
  | [], _, _ => ⟨by simp, fun _ => ⟨by simp, by simp⟩⟩
  | _ :: _, [], _ => ⟨by simp, fun _ => ⟨by simp, by simp⟩⟩
  | s :: ss, p :: r, h => by
    obtain ⟨i1, i2⟩ := things (ss := ss) (r := r) fun a ha => h a (List.mem_cons_of_mem _ ha)
    obtain ⟨e1, e2, e3⟩ := ent_thing (p := p) (h s List.mem_cons_self)
    simp only [List.zipWith_cons_cons, List.all_cons, List.any_cons, Bool.and_eq_true, id]
    refine ⟨by rw [e1, i1], fun hh => ?_⟩
    obtain ⟨j1, j2⟩ := i2 hh.2
    refine ⟨by rw [e2 hh.1, j1], ?_⟩
    rw [j2, Bool.or_false]
    cases q : leadBad s p with
    | false => rfl
    | true => rw [e3 q] at hh; exact absurd hh.1 Bool.false_ne_true
end K51
namespace K51
open PySem L2 Tok
theorem ok_lineR {w : Str} {r ss : List Str} (hw : w.length ≤ lineMax) (hs : ss.length ≤ 4) (hr : ∀ p ∈ r, p.length ≤ lineMax) : okV 2 (.tup (.str w :: List.zipWith thingL ss r)) := by
  refine ⟨by simp; omega, fun x hx => ?_⟩
  rcases List.mem_cons.mp hx with rfl | hx
  · exact Nat.le_trans hw (by decide)
  · have : ∀ (ss r : List Str), (∀ p ∈ r, p.length ≤ lineMax) → ∀ x ∈ List.zipWith thingL ss r, okV 1 x := by
      intro ss
      induction ss with
      | nil => intro r _ x hx; simp at hx
      | cons s ss ih => intro r hr x hx; cases r with
        | nil => simp at hx
        | cons p r =>
          rw [List.zipWith_cons_cons] at hx
          rcases List.mem_cons.mp hx with rfl | hx
          · unfold thingL
            split
            · exact Nat.le_trans (hr p List.mem_cons_self) (by decide)
            · exact ok_entryI (hr p List.mem_cons_self) s
          · exact ih r (fun q hq => hr q (List.mem_cons_of_mem _ hq)) x hx
    exact this ss r hr x hx
theorem law_line {z : Str} (h : z.length ≤ lineMax) (S : Sto) : ∃ S', f_law_line_deed [.str z] S = .ok (lineD z) S' ∧ S <+: S' := by
  have h' : z.length ≤ 1000000 := Nat.le_trans h (by decide)
  have es : splitD z [.str " "] = some (.lst ((Txt.split z spc).map .str)) := split_ok spc_len h'
  obtain ⟨w, r, ew⟩ := split_cons z spc
  have hp : ∀ p ∈ w :: r, p.length ≤ lineMax := fun p hp => Nat.le_trans (PyProof.Rows.part_short (by rw [ew]; exact hp)) h
  have hn := split_n (z := z) spc_len
  unfold lineD
  rw [ew] at es hn ⊢
  have inw : inB S (.str w) (.lst (wordsL.map .str)) = some (decide (w ∈ wordsL)) := by
    simp only [inB, seqOf, Option.bind_some, strs_map, Option.map_some]
  have a0 : atI ((w :: r).map D.str) 0 = some (.str w) := atI_0
  have ll : ∀ S, lenD S [.lst ((w :: r).map D.str)] = some (.int ((r.length : Int) + 1)) := fun S => by simp [lenD]
  cases hw : sortTab.lookup w with
  | none =>
    have nm : w ∉ wordsL := lookup_none hw
    rw [lineW_none hw]
    refine ⟨S, ?_, List.prefix_refl _⟩
    generalize (w :: r).map D.str = WL at *
    simp only [f_law_line_deed, dFn_eq, start_eq]
    simp -implicitDefEqProofs [es, ixD, a0, notInD, law_words, inw, nm]
  | some ss =>
    have nm : w ∈ wordsL := tab_words hw
    have ls := law_sorts hw
    have sl : ss.length ≤ 4 ∧ ∀ s ∈ ss, s ∈ sortsAll := tab_sorts _ (lookup_mem hw)
    have lw : ∀ S, lenD S [tupS (ss.map lawS)] = some (.int (ss.length : Int)) := fun S => by simp [lenD, tupS]
    rw [lineW_some hw]
    by_cases hl : r.length = ss.length
    · have e1 : (((r.length : Int) + 1 = 1 + (ss.length : Int))) := by omega
      rw [if_pos hl]
      have hr : ∀ S, rngR [.int (ss.length : Int)] S = .ok (rngF 0 ss.length) S := fun S => by rw [rngR_nat (by omega), rngF_0]
      have lp := ld_loop (w := w) hl sl.2 (fun p hm => hp p (List.mem_cons_of_mem _ hm)) sl.1 (f := S.length) (some (.str z)) ss.length 0 [.str w] (S ++ [.lst [.str w]]) none none none none (by omega) (by simp) (by simp)
      rw [List.drop_zero, List.drop_zero] at lp
      have okr := ok_lineR (ss := ss) (r := r) (hp w List.mem_cons_self) sl.1 (fun p hm => hp p (List.mem_cons_of_mem _ hm))
      have lg := law_deed okr
      obtain ⟨t1, t2⟩ := things (ss := ss) (r := r) sl.2
      have ed : deedB (.tup (.str w :: List.zipWith thingL ss r)) = (List.zipWith entryB ss (List.zipWith thingL ss r)).all id := by
        simp only [deedB, hw]
        simp [hl]
      have ed2 : deedB (tupI w ss r) = (List.zipWith entryB ss (List.zipWith entryI ss r)).all id := by
        simp only [tupI, deedB, hw]
        simp [hl]
      rw [← t1, ← ed] at ed2
      rw [← t1, ← ed] at t2
      cases hb : (List.zipWith leadBad ss r).any id with
      | true =>
        obtain ⟨S', e2, o, e3⟩ := lp.1 hb
        have dn : deedB (.tup (.str w :: List.zipWith thingL ss r)) = false := by
          cases q : deedB (.tup (.str w :: List.zipWith thingL ss r)) with
          | false => rfl
          | true => rw [(t2 q).2] at hb; cases hb
        rw [ed2, dn]
        have pre : S <+: S' := by
          rw [e3, List.set_append_right _ _ (Nat.le_refl _)]
          exact List.prefix_append _ _
        refine ⟨S', ?_, pre⟩
        unfold bodyLd ldThing at e2
        generalize (w :: r).map D.str = WL at *
        generalize rngF 0 ss.length = rg at *
        simp only [f_law_line_deed, dFn_eq, start_eq]
        simp -implicitDefEqProofs [-loop_cons, es, ixD, a0, notInD, law_words, inw, nm, ls, ll, lw, addE, addD, e1, sized_of, hr, e2]
      | false =>
        obtain ⟨o4, o5, o6, o7, e2⟩ := lp.2 hb
        rw [List.set_append_right _ _ (Nat.le_refl _)] at e2
        simp only [Nat.sub_self, List.set_cons_zero] at e2
        have et : deedB (.tup (.str w :: List.zipWith thingL ss r)) = true → D.tup (.str w :: List.zipWith thingL ss r) = tupI w ss r := fun q => by rw [(t2 q).1]; rfl
        rw [ed2]
        have zl : (D.str w :: List.zipWith thingL ss r).length ≤ 1000 := by simp; omega
        have z0 : [D.str w] ++ List.zipWith thingL ss r = .str w :: List.zipWith thingL ss r := rfl
        rw [z0] at e2
        refine ⟨S ++ [.lst (.str w :: List.zipWith thingL ss r)], ?_, List.prefix_append _ _⟩
        have tp : ∀ xs : List D, tupleD (S ++ [.lst xs]) [.ref S.length] = some (.tup xs) := fun xs => by simp [tupleD]
        generalize D.str w :: List.zipWith thingL ss r = TL at *
        generalize deedB (.tup TL) = bb at *
        unfold bodyLd ldThing at e2
        generalize (w :: r).map D.str = WL at *
        generalize rngF 0 ss.length = rg at *
        simp only [f_law_line_deed, dFn_eq, start_eq]
        cases bb
        · simp -implicitDefEqProofs [-loop_cons, es, ixD, a0, notInD, law_words, inw, nm, ls, ll, lw, addE, addD, e1, sized_of, hr, e2, lg, tp]
        · rw [← et rfl]
          simp -implicitDefEqProofs [-loop_cons, es, ixD, a0, notInD, law_words, inw, nm, ls, ll, lw, addE, addD, e1, sized_of, hr, e2, lg, tp]
    · have e1 : ¬ (((r.length : Int) + 1 = 1 + (ss.length : Int))) := by omega
      rw [if_neg hl]
      refine ⟨S, ?_, List.prefix_refl _⟩
      generalize (w :: r).map D.str = WL at *
      simp only [f_law_line_deed, dFn_eq, start_eq]
      simp -implicitDefEqProofs [es, ixD, a0, notInD, law_words, inw, nm, ls, ll, lw, addE, addD, e1]
end K51
namespace K51
open PySem L2 Tok
/-! ## there and back -/
theorem numL_head : ∀ (n : Nat), 0 < n → (TL.numL n).headD 0 ≠ 48
  | n, h => by
    by_cases c : n < 10
    · rw [TL.numL_lt c]
      simp
      omega
    · rw [TL.numL_step (by omega)]
      have ih := numL_head (n / 10) (by omega)
      have ne := TL.numL_ne (n / 10)
      cases e : TL.numL (n / 10) with
      | nil => exact absurd e ne
      | cons a r => rw [e] at ih; simpa using ih
theorem num_back {n : Nat} (h : n < 10 ^ 30) : numV (numS n) = some (n : Int) := by
  have et : (numS n).cps.toList = TL.numL n := TL.tl_num n
  have hl := numS_len h
  have ne : ¬ numS n = ("" : Str) := fun e => TL.numL_ne n (by rw [← et, e]; rfl)
  have dg : digs (numS n) = true := by
    unfold digs
    rw [et, List.all_eq_true]
    intro c hc
    have := TL.numL_digits n c hc
    simp [dig_eq]
    omega
  have zk : zOk (numS n) = true := by
    unfold zOk
    rw [et]
    by_cases c : 0 < n
    · have := numL_head n c
      have t2 : ¬ (TL.numL n).head?.getD 0 = 48 := by simpa using this
      simp [t2]
    · have e0 : n = 0 := by omega
      subst e0
      have : numS 0 = ("0" : Str) := by decide +kernel
      simp [this]
  unfold numV
  rw [dg, zk, et, TL.numL_val]
  have hl2 : ¬ 30 < (numS n).length := by omega
  simp [ne, hl2]
theorem numD_back {n : Nat} (h : n < 10 ^ 30) : numD (numS n) = .int (n : Int) := by simp [numD, num_back h]
theorem num_free {n s : Nat} (h : s < 48 ∨ 57 < s) : s ∉ TL.tl (numS n) := by
  show s ∉ TL.tl (Str.ofString (toString ((n : Nat) : Int)))
  rw [TL.tl_num]
  exact TL.numL_free h
theorem cma_tl : TL.tl cma = [44] := by decide +kernel
theorem spc_tl : TL.tl spc = [32] := by decide +kernel
theorem nl_tl : TL.tl nl = [10] := by decide +kernel
theorem sm_str {x : D} (h : smI x) : ∃ n : Nat, x = .int n ∧ n < 10 ^ 30 ∧ strT x = numS n := by
  obtain ⟨n, rfl, hn⟩ := h
  exact ⟨n, rfl, hn, rfl⟩
theorem ghost_split {xs : List D} (hne : xs ≠ []) (hx : ∀ x ∈ xs, smI x) : Txt.split (Txt.join cma (xs.map strT)) cma = xs.map strT := by
  have := TL.split_join (y := cma) (s := 44) (S := []) cma_tl (by decide +kernel) (parts := xs.map strT) (by simpa using hne) (fun p hp => by
    obtain ⟨x, hm, rfl⟩ := List.mem_map.mp hp
    obtain ⟨n, _, _, e⟩ := sm_str (hx x hm)
    rw [e]
    exact num_free (by decide))
  exact this
theorem ghost_back {xs : List D} (hx : ∀ x ∈ xs, smI x) : ghostI (ghostT xs) = .tup xs := by
  cases xs with
  | nil =>
    have e : ghostT [] = ("-" : Str) := rfl
    rw [e]
    unfold ghostI
    rw [if_pos rfl]
  | cons a r =>
    have sp := ghost_split (xs := a :: r) (by simp) hx
    have ge : ghostT (a :: r) = Txt.join cma ((a :: r).map strT) := by simp [ghostT]
    have nd : ¬ ghostT (a :: r) = ("-" : Str) := fun e => by
      rw [ge] at e
      rw [e] at sp
      have e2 : Txt.split ("-" : Str) cma = [("-" : Str)] := by
        have := TL.split_join (y := cma) (s := 44) (S := []) cma_tl (by decide +kernel) (parts := [("-" : Str)]) (by simp) (fun p hp => by
          simp at hp
          subst hp
          decide +kernel)
        exact this
      rw [e2] at sp
      obtain ⟨n, _, _, e3⟩ := sm_str (hx a List.mem_cons_self)
      have e4 : strT a = ("-" : Str) := by
        have := congrArg List.head? sp
        simp at this
        exact this.symm
      have f : 45 ∉ TL.tl (numS n) := num_free (by decide)
      rw [← e3, e4] at f
      exact f (by decide +kernel)
    unfold ghostI
    rw [if_neg nd, ge, sp, List.map_map]
    congr 1
    have : ∀ l : List D, (∀ x ∈ l, smI x) → l.map (numD ∘ strT) = l := by
      intro l
      induction l with
      | nil => intro _; rfl
      | cons b t ih =>
        intro h
        obtain ⟨n, rfl, hn, e⟩ := sm_str (h b List.mem_cons_self)
        rw [List.map_cons, ih fun y hy => h y (List.mem_cons_of_mem _ hy)]
        show numD (strT _) :: t = _
        rw [e, numD_back hn]
    exact this _ hx
theorem entry_back {s : Str} {p : D} (h : goodE s p) : entryI s (entryT s p) = p := by
  have nlk : ¬ (("leader" : Str) = "key") := by decide +kernel
  have ngk : ¬ (("ghosts" : Str) = "key") := by decide +kernel
  have ngl : ¬ (("ghosts" : Str) = "leader") := by decide +kernel
  have nuk : ¬ (("number" : Str) = "key") := by decide +kernel
  have nul : ¬ (("number" : Str) = "leader") := by decide +kernel
  have nug : ¬ (("number" : Str) = "ghosts") := by decide +kernel
  rcases h with ⟨rfl, z, rfl, hz⟩ | ⟨rfl, n, rfl, hn⟩ | ⟨rfl, rfl | ⟨n, rfl, hn⟩⟩ | ⟨rfl, xs, rfl, hl, hx, ha⟩
  · show entryI "key" z = _
    simp [entryI, hz]
  · show entryI "number" (numS n) = _
    simp [entryI, nuk, nul, nug, numD_back hn]
  · have nn : numV ("none" : Str) = none := by decide +kernel
    show entryI "leader" "none" = _
    simp [entryI, nlk, leadI, nn]
  · show entryI "leader" (numS n) = _
    simp [entryI, nlk, leadI, num_back hn]
  · show entryI "ghosts" (ghostT xs) = _
    simp [entryI, ngk, ngl, ghost_back hx]
theorem name_free {z : Str} {s : Nat} (h : isName z = true) (hs : s ∉ letL) : s ∉ TL.tl z := fun hm => by
  simp only [isName, Bool.and_eq_true, List.all_eq_true, decide_eq_true_eq] at h
  exact hs (h.2.2 s hm)
theorem join_free {s : Nat} (hs : s ≠ 44) : ∀ {ys : List Str}, (∀ y ∈ ys, s ∉ TL.tl y) → s ∉ TL.tl (Txt.join cma ys) := by
  intro ys h
  rw [TL.join_eq, TL.tl_join, cma_tl]
  induction ys with
  | nil => simp [TL.joinL]
  | cons a r ih =>
    cases r with
    | nil => simpa [TL.joinL] using h a List.mem_cons_self
    | cons b t =>
      have h1 := h a List.mem_cons_self
      have h2 := ih fun y hy => h y (List.mem_cons_of_mem _ hy)
      simp only [List.map_cons] at h2 ⊢
      show s ∉ TL.tl a ++ ([44] ++ TL.joinL [44] (TL.tl b :: t.map TL.tl))
      simp [h1, h2, hs]
theorem entry_free {s : Str} {p : D} (h : goodE s p) {c : Nat} (hc : c = 32 ∨ c = 10) : c ∉ TL.tl (entryT s p) := by
  have hl : c ∉ letL := by rcases hc with rfl | rfl <;> decide +kernel
  have hd : c < 48 ∨ 57 < c := by omega
  rcases h with ⟨rfl, z, rfl, hz⟩ | ⟨rfl, n, rfl, hn⟩ | ⟨rfl, rfl | ⟨n, rfl, hn⟩⟩ | ⟨rfl, xs, rfl, hl2, hx, ha⟩
  · exact name_free hz hl
  · exact num_free hd
  · show c ∉ TL.tl ("none" : Str)
    rcases hc with rfl | rfl <;> decide +kernel
  · exact num_free hd
  · show c ∉ TL.tl (ghostT xs)
    unfold ghostT
    split
    · rcases hc with rfl | rfl <;> decide +kernel
    · exact join_free (by omega) fun y hy => by
        obtain ⟨x, hm, rfl⟩ := List.mem_map.mp hy
        obtain ⟨n, _, _, e⟩ := sm_str (hx x hm)
        rw [e]
        exact num_free hd
theorem word_free : ∀ p ∈ sortTab, 32 ∉ TL.tl p.1 ∧ 10 ∉ TL.tl p.1 := by decide +kernel
theorem texts_free {c : Nat} (hc : c = 32 ∨ c = 10) : ∀ {ss : List Str} {ps : List D}, goodAll ss ps → ∀ y ∈ List.zipWith entryT ss ps, c ∉ TL.tl y
  | [], [], _, y, h => by simp at h
  | s :: ss, p :: ps, g, y, h => by
    rw [List.zipWith_cons_cons] at h
    rcases List.mem_cons.mp h with rfl | h
    · exact entry_free g.1 hc
    · exact texts_free hc g.2 y h
  | [], _ :: _, g, _, _ => g.elim
  | _ :: _, [], g, _, _ => g.elim
theorem back_all : ∀ {ss : List Str} {ps : List D}, goodAll ss ps → List.zipWith entryI ss (List.zipWith entryT ss ps) = ps
  | [], [], _ => rfl
  | s :: ss, p :: ps, g => by
    rw [List.zipWith_cons_cons, List.zipWith_cons_cons, entry_back g.1, back_all g.2]
  | [], _ :: _, g => g.elim
  | _ :: _, [], g => g.elim
theorem deed_parts {w : Str} {ss : List Str} {ps : List D} (hw : sortTab.lookup w = some ss) (g : goodAll ss ps) {c : Nat} (hc : c = 32 ∨ c = 10) : ∀ y ∈ w :: List.zipWith entryT ss ps, c ∉ TL.tl y := fun y hy => by
  rcases List.mem_cons.mp hy with rfl | hy
  · have := word_free _ (lookup_mem hw)
    rcases hc with rfl | rfl
    · exact this.1
    · exact this.2
  · exact texts_free hc g y hy
theorem deed_back {d : D} (h : goodD d) : lineD (deedT d) = d := by
  obtain ⟨w, ss, ps, rfl, hw, g⟩ := h
  have gd := good_deed ⟨w, ss, ps, rfl, hw, g⟩
  have e : deedT (.tup (.str w :: ps)) = Txt.join spc (w :: List.zipWith entryT ss ps) := by simp [deedT, hw]
  have sp := TL.split_join (y := spc) (s := 32) (S := []) spc_tl (by decide +kernel) (parts := w :: List.zipWith entryT ss ps) (by simp) (deed_parts hw g (.inl rfl))
  unfold lineD
  rw [e, sp, lineW_some hw, if_pos (by simp [g.len])]
  have et : tupI w ss (List.zipWith entryT ss ps) = .tup (.str w :: ps) := by simp [tupI, back_all g]
  rw [et, if_pos gd]
theorem join_freeN {s a : Nat} {b : Str} (hb : TL.tl b = [a]) (hs : s ≠ a) : ∀ {ys : List Str}, (∀ y ∈ ys, s ∉ TL.tl y) → s ∉ TL.tl (Txt.join b ys) := by
  intro ys h
  rw [TL.join_eq, TL.tl_join, hb]
  induction ys with
  | nil => simp [TL.joinL]
  | cons c r ih =>
    cases r with
    | nil => simpa [TL.joinL] using h c List.mem_cons_self
    | cons d t =>
      have h1 := h c List.mem_cons_self
      have h2 := ih fun y hy => h y (List.mem_cons_of_mem _ hy)
      simp only [List.map_cons] at h2 ⊢
      show s ∉ TL.tl c ++ ([a] ++ TL.joinL [a] (TL.tl d :: t.map TL.tl))
      simp [h1, h2, hs]
theorem deed_free {d : D} (h : goodD d) : 10 ∉ TL.tl (deedT d) := by
  obtain ⟨w, ss, ps, rfl, hw, g⟩ := h
  have e : deedT (.tup (.str w :: ps)) = Txt.join spc (w :: List.zipWith entryT ss ps) := by simp [deedT, hw]
  rw [e]
  exact join_freeN spc_tl (by decide) (deed_parts hw g (.inr rfl))
theorem deed_len {d : D} (h : goodD d) : (deedT d).length ≤ 2000 := by
  obtain ⟨w, ss, ps, rfl, hw, g⟩ := h
  exact (deed_join hw g).2
end K51
namespace K51
open PySem L2 Tok
/-! ## read_deed, show_history -/
theorem lineD_cases (z : Str) : lineD z = .non ∨ ∃ xs, lineD z = .tup xs := by
  unfold lineD
  obtain ⟨w, r, e⟩ := split_cons z spc
  rw [e]
  cases hw : sortTab.lookup w with
  | none => exact .inl (lineW_none hw)
  | some ss =>
    rw [lineW_some hw]
    split
    · split
      · exact .inr ⟨_, rfl⟩
      · exact .inl rfl
    · exact .inl rfl
theorem lineD_non {z : Str} (h : isNonB (lineD z) = true) : lineD z = .non := by
  rcases lineD_cases z with e | ⟨xs, e⟩
  · exact e
  · rw [e] at h; cases h
theorem check_str (z : Str) (S : Sto) : f_check_text [.str z] S = .ok .non S := by
  simp only [f_check_text, dFn_eq, start_eq]
  simp -implicitDefEqProofs [isi_ss]
theorem check_odd {d : D} (h : ∀ S, isiD OWN .str S d = some (.bl false)) (S : Sto) : f_check_text [d] S = .exn 4 [("at", .int 0)] S := by
  simp only [f_check_text, dFn_eq, start_eq]
  simp -implicitDefEqProofs [h]
theorem read_deed_bad {z : Str} (h : z.length ≤ lineMax) (hn : isNonB (lineD z) = true) (S : Sto) : f_read_deed [.str z] S = .exn 4 [("at", .int 0)] S := by
  have e := deed_in h
  generalize lineD z = x at *
  simp only [f_read_deed, dFn_eq, start_eq]
  simp -implicitDefEqProofs [check_str, e, isN, hn]
theorem read_deed_good {z : Str} (h : z.length ≤ lineMax) (hn : isNonB (lineD z) = false) (S : Sto) : f_read_deed [.str z] S = .ok (lineD z) S := by
  have e := deed_in h
  generalize lineD z = x at *
  simp only [f_read_deed, dFn_eq, start_eq]
  simp -implicitDefEqProofs [check_str, e, isN, hn]
theorem read_deed_odd {d : D} (h : ∀ S, isiD OWN .str S d = some (.bl false)) (S : Sto) : f_read_deed [d] S = .exn 4 [("at", .int 0)] S := by
  simp only [f_read_deed, dFn_eq, start_eq]
  simp -implicitDefEqProofs [check_odd h]
theorem read_history_odd {d : D} (h : ∀ S, isiD OWN .str S d = some (.bl false)) (S : Sto) : f_read_history [d] S = .exn 4 [("at", .int 0)] S := by
  simp only [f_read_history, dFn_eq, start_eq]
  simp -implicitDefEqProofs [check_odd h]
def histB : D → Bool
  | .tup [a, .lst ds] => fromB 0 a && ds.all deedB
  | _ => false
theorem history_form {n : Nat} {d : D} (h : okV n d) (S : Sto) : f_is_history_form [d] S = .ok (.bl (histB d)) S := by
  have other : ∀ d : D, isiD OWN .tup S d = some (.bl false) → histB d = false → f_is_history_form [d] S = .ok (.bl (histB d)) S := fun d e e2 => by
    rw [e2]
    simp only [f_is_history_form, dFn_eq, start_eq]
    simp -implicitDefEqProofs [e]
  cases d with
  | tup xs =>
    cases n with
    | zero => exact (show False from h).elim
    | succ n =>
      obtain ⟨hlen, hx⟩ := h
      by_cases h2 : xs.length = 2
      · obtain ⟨a, b, rfl⟩ : ∃ a b, xs = [a, b] := by
          match xs, h2 with
          | [a, b], _ => exact ⟨a, b, rfl⟩
        have ha := hx a (by simp)
        have hb := hx b (by simp)
        have ef := is_from (low := 0) ha
        cases c : fromB 0 a with
        | false =>
          rw [c] at ef
          have e2 : histB (.tup [a, b]) = false := by
            unfold histB
            split
            · rename_i q
              injection q with q
              injection q with q1 q2
              rw [← q1, c]; rfl
            · rfl
          rw [e2]
          simp only [f_is_history_form, dFn_eq, start_eq]
          simp -implicitDefEqProofs [isi_tt, lenD, ixD, atI_0, atI_1, ef]
        | true =>
          rw [c] at ef
          cases b with
          | lst ds =>
            cases n with
            | zero => exact (show False from hb).elim
            | succ n =>
              obtain ⟨hbl, hd⟩ := hb
              have e2 : histB (.tup [a, .lst ds]) = ds.all deedB := by simp [histB, c]
              have lc : lcD (tgName 1) tYesD (dCall f_is_deed (aCons (dVar 1) aNil)) ds [some (.tup [a, .lst ds]), none] S = .ok (ds.map fun x => D.bl (deedB x)) S := lc_map (h := fun x => D.bl (deedB x)) ds fun x hm => by
                have := is_deed (hd x hm)
                simp -implicitDefEqProofs [this]
              have al := all_map S deedB ds
              have zl : ds.length ≤ sizeLine := small hbl
              have il : ∀ S, isiD OWN .lst S (.lst ds) = some (.bl true) := fun _ => rfl
              rw [e2]
              generalize (ds.map fun x => D.bl (deedB x)) = bl at *
              generalize ds.all deedB = bb at *
              simp only [f_is_history_form, dFn_eq, start_eq]
              simp -implicitDefEqProofs [-lcD_cons, -lcD_nil, isi_tt, lenD, ixD, atI_0, atI_1, ef, il, e_dLc, zl, wipeD, lc, al]
          | _ =>
            have e2 : ∀ x : D, (∀ ds, x ≠ .lst ds) → histB (.tup [a, x]) = false := fun x hx => by
              unfold histB
              split
              · rename_i q
                injection q with q
                injection q with q1 q2
                injection q2 with q2
                exact absurd q2 (hx _)
              · rfl
            rw [e2 _ (fun ds e => by cases e)]
            (try (cases n <;> simp only [okV] at hb)) <;> (simp only [f_is_history_form, dFn_eq, start_eq]; simp -implicitDefEqProofs [isiD, tyD, okTy, isT, lenD, ixD, atI_0, atI_1, ef])
      · have e2 : histB (.tup xs) = false := by
          unfold histB
          split
          · rename_i q
            injection q with q
            rw [q] at h2
            exact absurd rfl h2
          · rfl
        have h2' : ¬ ((xs.length : Int) = 2) := by omega
        rw [e2]
        simp only [f_is_history_form, dFn_eq, start_eq]
        simp -implicitDefEqProofs [isi_tt, lenD, h2']
  | non => exact other _ rfl rfl
  | bl b => exact other _ rfl rfl
  | int i => exact other _ rfl rfl
  | str s => exact other _ rfl rfl
  | lst xs => exact other _ rfl rfl
  | _ => (cases n <;> simp only [okV] at h)
theorem show_history_bad {n : Nat} {d : D} (h : okV n d) (hb : histB d = false) (S : Sto) : f_show_history [d] S = .exn 3 [] S := by
  have e := history_form h
  rw [hb] at e
  simp only [f_show_history, dFn_eq, start_eq]
  simp -implicitDefEqProofs [e]
/-! the text -/
def histT (n : Nat) (ds : List D) : Str := Txt.join nl (numS n :: ds.map deedT)
theorem hist_parts {n : Nat} {ds : List D} (hn : n < 10 ^ 30) (hd : ∀ d ∈ ds, goodD d) : ∀ y ∈ numS n :: ds.map deedT, y.length ≤ 2000 ∧ 10 ∉ TL.tl y := fun y hy => by
  rcases List.mem_cons.mp hy with rfl | hy
  · exact ⟨Nat.le_trans (numS_len hn) (by decide), num_free (by decide)⟩
  · obtain ⟨d, hm, rfl⟩ := List.mem_map.mp hy
    exact ⟨deed_len (hd d hm), deed_free (hd d hm)⟩
theorem hist_join {n : Nat} {ds : List D} (hn : n < 10 ^ 30) (hl : ds.length ≤ 40) (hd : ∀ d ∈ ds, goodD d) :
    joinD "\n" [.lst ((numS n :: ds.map deedT).map .str)] = some (.str (histT n ds)) ∧ (histT n ds).length ≤ 100000 := by
  have h2 : ∀ y ∈ numS n :: ds.map deedT, y.length ≤ 2000 := fun y hy => (hist_parts hn hd y hy).1
  have hs := sum_le h2
  have hn : (numS n :: ds.map deedT).length ≤ 41 := by simp; omega
  have s2 : (numS n :: ds.map deedT).length * 2000 ≤ 41 * 2000 := Nat.mul_le_mul_right _ hn
  refine ⟨join_ok nl_len (by omega), ?_⟩
  have jl := join_len nl_len h2
  have s3 : (numS n :: ds.map deedT).length * (2000 + 1) ≤ 41 * 2001 := Nat.mul_le_mul_right _ hn
  show (Txt.join nl _).length ≤ _
  omega
theorem history_text {n : Nat} {ds : List D} (hn : n < 10 ^ 30) (hl : ds.length ≤ 40) (hd : ∀ d ∈ ds, goodD d) (S : Sto) : f_history_text [.tup [.int n, .lst ds]] S = .ok (.str (histT n ds)) S := by
  have lc : lcD (tgName 1) tYesD (dCall f_deed_line (aCons (dVar 1) aNil)) ds [some (.tup [.int n, .lst ds]), none] S = .ok ((ds.map deedT).map .str) S := by
    have := lc_map (S := S) (ρ := [some (.tup [.int n, .lst ds]), none]) (i := 1) (te := dCall f_deed_line (aCons (dVar 1) aNil)) (h := fun x => .str (deedT x)) ds (fun x hm => by
      have := deed_line (hd x hm)
      simp -implicitDefEqProofs [this])
    rw [this, List.map_map]
    rfl
  obtain ⟨jd, _⟩ := hist_join hn hl hd
  rw [List.map_cons] at jd
  have zl : ds.length ≤ sizeLine := small (by omega)
  have zz : (D.str (numS n) :: (ds.map deedT).map .str).length ≤ 1000 := by simp; omega
  have sn := str_num hn
  generalize (ds.map deedT).map D.str = ts at *
  generalize numS n = nn at *
  simp only [f_history_text, dFn_eq, start_eq]
  simp -implicitDefEqProofs [-lcD_cons, -lcD_nil, ixD, atI_0, atI_1, sn, e_dLc, zl, wipeD, lc, sized_of zz, jd]
theorem show_history_good {n : Nat} {ds : List D} (hn : n < 10 ^ 30) (hl : ds.length ≤ 40) (hd : ∀ d ∈ ds, goodD d) (S : Sto) : f_show_history [.tup [.int n, .lst ds]] S = .ok (.str (histT n ds)) S := by
  have ok : okV 5 (.tup [.int n, .lst ds]) := by
    refine ⟨by simp, fun x hx => ?_⟩
    simp only [List.mem_cons, List.not_mem_nil, or_false] at hx
    rcases hx with rfl | rfl
    · trivial
    · exact ⟨by omega, fun x hm => good_ok (hd x hm)⟩
  have e := history_form ok
  have hb : histB (.tup [.int n, .lst ds]) = true := by
    have : ds.all deedB = true := List.all_eq_true.mpr fun x hm => good_deed (hd x hm)
    simp [histB, fromB, this]
  rw [hb] at e
  have t := history_text hn hl hd
  simp only [f_show_history, dFn_eq, start_eq]
  simp -implicitDefEqProofs [e, t]
end K51
namespace K51
open PySem L2 Tok
/-! ## read_history -/
theorem e_dLcS {mi : DenI} {g : Tgt} {tt : DenT} {te : Den} {vs : List Nat} {ρ : Tok.Env} {S : Sto} : dLcS mi g tt te vs ρ S = (mi ρ S).bind fun ds S1 => if ds.length ≤ sizeLine then (lcD g tt te ds (wipeD ρ vs) S1).bind fun ys S2 => .ok (.ref S2.length) (S2 ++ [.lst ys]) else .bad := rfl
def enumSR (t : Tgt) (body : DenS) (ρ : Tok.Env) (ds : List D) (S1 : Sto) : R Fl := match ds with
  | [.ref l] => match S1[l]? with
    | some (.lst xs) => loopR l xs.length t body xs.length ρ S1
    | _ => .bad
  | _ => .bad
theorem e_sForEnumS {na : DenA} {t : Tgt} {body : DenS} {ρ : Tok.Env} {S : Sto} : sForEnumS na t body ρ S = (na ρ S).bind fun ds S1 => enumSR t body ρ ds S1 := by unfold sForEnumS enumSR; rfl
theorem enumSR_ref {t : Tgt} {body : DenS} {ρ : Tok.Env} {S : Sto} {l : Nat} {xs : List D} (h : S[l]? = some (.lst xs)) : enumSR t body ρ [.ref l] S = loopR l xs.length t body xs.length ρ S := by
  unfold enumSR
  simp [h]
def badL : Nat → List D → List D
  | _, [] => []
  | k, d :: ds => if isNonB d = true then .int ((k : Int) + 1) :: badL (k + 1) ds else badL (k + 1) ds
def bodyRh : DenS := (sSeq (sIf (dTest (dOp2 isND (dVar 7) (dC .non))) (sSeq (sRaise1 4 ("at" : Str) (dOp2 addE (dVar 6) (dC (.int 1)))) sNext) sNext) sNext)
theorem rh_body {a0 a1 a2 a3 a4 a5 : Option D} {k : Nat} {d : D} {S : Sto} : bodyRh [a0, a1, a2, a3, a4, a5, some (.int (k : Int)), some d] S = if isNonB d = true then .exn 4 [("at", .int ((k : Int) + 1))] S else .ok (.nx [a0, a1, a2, a3, a4, a5, some (.int (k : Int)), some d]) S := by
  unfold bodyRh
  cases c : isNonB d <;> simp -implicitDefEqProofs [isN, c, addE, addD]
theorem rh_loop {l : Nat} {xs : List D} {S : Sto} (hS : S[l]? = some (.lst xs)) (a0 a1 a2 a3 a4 a5 : Option D) : ∀ (r : Nat) (a6 a7 : Option D), r ≤ xs.length →
    (badL (xs.length - r) (xs.drop (xs.length - r)) = [] → ∃ b6 b7, loopR l xs.length (tgTup 2 (tgCons (tgName 6) (tgCons (tgName 7) tgNil))) bodyRh r [a0, a1, a2, a3, a4, a5, a6, a7] S = .ok (.nx [a0, a1, a2, a3, a4, a5, b6, b7]) S) ∧
    (∀ b t, badL (xs.length - r) (xs.drop (xs.length - r)) = b :: t → loopR l xs.length (tgTup 2 (tgCons (tgName 6) (tgCons (tgName 7) tgNil))) bodyRh r [a0, a1, a2, a3, a4, a5, a6, a7] S = .exn 4 [("at", b)] S)
  | 0, a6, a7, _ => by
    have e : badL (xs.length - 0) (xs.drop (xs.length - 0)) = [] := by simp [badL]
    refine ⟨fun _ => ⟨a6, a7, ?_⟩, fun b t h => by rw [e] at h; cases h⟩
    unfold loopR
    simp [hS]
  | r + 1, a6, a7, hr => by
    have hk : xs.length - (r + 1) < xs.length := by omega
    have dr : xs.drop (xs.length - (r + 1)) = xs[xs.length - (r + 1)] :: xs.drop (xs.length - r) := by
      rw [List.drop_eq_getElem_cons hk]
      congr 2
      omega
    have hk1 : xs.length - (r + 1) + 1 = xs.length - r := by omega
    have gx : xs[xs.length - (r + 1)]? = some xs[xs.length - (r + 1)] := List.getElem?_eq_getElem hk
    rw [dr]
    generalize xs[xs.length - (r + 1)] = d at *
    have step : ∀ o6 o7, loopR l xs.length (tgTup 2 (tgCons (tgName 6) (tgCons (tgName 7) tgNil))) bodyRh (r + 1) [a0, a1, a2, a3, a4, a5, o6, o7] S = if isNonB d = true then .exn 4 [("at", .int (((xs.length - (r + 1) : Nat) : Int) + 1))] S else loopR l xs.length (tgTup 2 (tgCons (tgName 6) (tgCons (tgName 7) tgNil))) bodyRh r [a0, a1, a2, a3, a4, a5, some (.int ((xs.length - (r + 1) : Nat) : Int)), some d] S := fun o6 o7 => by
      rw [loopR]
      rw [hS]
      dsimp only
      rw [if_pos rfl, gx]
      have tg : tgTup 2 (tgCons (tgName 6) (tgCons (tgName 7) tgNil)) (.tup [.int ((xs.length - (r + 1) : Nat) : Int), d]) [a0, a1, a2, a3, a4, a5, o6, o7] = some [a0, a1, a2, a3, a4, a5, some (.int ((xs.length - (r + 1) : Nat) : Int)), some d] := rfl
      dsimp only
      rw [tg]
      dsimp only
      rw [rh_body]
      cases c : isNonB d
      · rw [if_neg Bool.false_ne_true, if_neg Bool.false_ne_true]; rfl
      · rw [if_pos rfl, if_pos rfl]; rfl
    obtain ⟨i1, i2⟩ := rh_loop hS a0 a1 a2 a3 a4 a5 r (some (.int ((xs.length - (r + 1) : Nat) : Int))) (some d) (by omega)
    rw [step]
    show (badL _ (d :: _) = [] → _) ∧ (∀ b t, badL _ (d :: _) = b :: t → _)
    rw [badL, hk1]
    cases c : isNonB d with
    | true =>
      rw [if_pos rfl, if_pos rfl]
      refine ⟨fun h => (by cases h), fun b t h => ?_⟩
      injection h with h1 h2
      rw [h1]
    | false =>
      rw [if_neg Bool.false_ne_true, if_neg Bool.false_ne_true]
      exact ⟨i1, i2⟩
def histL (z : Str) : List D := ((Txt.split z nl).tail).map lineD
def headS (z : Str) : Str := (Txt.split z nl).headD ""
theorem split_hl (z : Str) : Txt.split z nl = headS z :: (Txt.split z nl).tail := by
  obtain ⟨w, r, e⟩ := split_cons z nl
  simp [headS, e]
theorem part_ok {z p : Str} (h : z.length ≤ lineMax) (hp : p ∈ Txt.split z nl) : p.length ≤ lineMax := Nat.le_trans (PyProof.Rows.part_short hp) h
theorem lc_deedin {z : Str} (h : z.length ≤ lineMax) (a0 a1 a2 a3 a4 a6 a7 : Option D) (S : Sto) : lcD (tgName 5) tYesD (dCall f_deed_in (aCons (dVar 5) aNil)) ((Txt.split z nl).tail.map .str) [a0, a1, a2, a3, a4, none, a6, a7] S = .ok (histL z) S := by
  have := lc_map (S := S) (ρ := [a0, a1, a2, a3, a4, none, a6, a7]) (i := 5) (te := dCall f_deed_in (aCons (dVar 5) aNil)) (h := fun d => match d with | .str s => lineD s | _ => .non) ((Txt.split z nl).tail.map .str) (fun d hd => by
    obtain ⟨p, hp, rfl⟩ := List.mem_map.mp hd
    have := deed_in (part_ok h (List.mem_of_mem_tail hp))
    simp -implicitDefEqProofs [this])
  rw [this, List.map_map]
  rfl
theorem read_history {z : Str} (h : z.length ≤ lineMax) (S : Sto) :
    (numV (headS z) = none → f_read_history [.str z] S = .exn 4 [("at", .int 0)] S) ∧
    (∀ i, numV (headS z) = some i → (∀ b t, badL 0 (histL z) = b :: t → f_read_history [.str z] S = .exn 4 [("at", b)] (S ++ [.lst (histL z)])) ∧ (badL 0 (histL z) = [] → f_read_history [.str z] S = .ok (.tup [.int i, .ref S.length]) (S ++ [.lst (histL z)]))) := by
  have h' : z.length ≤ 1000000 := Nat.le_trans h (by decide)
  have es : splitD z [.str "\n"] = some (.lst ((Txt.split z nl).map .str)) := split_ok nl_len h'
  have sh := split_hl z
  have hw : (headS z).length ≤ 1000000 := Nat.le_trans (part_ok h (by rw [sh]; exact List.mem_cons_self)) (by decide)
  have en := number_of hw
  have zl : ((Txt.split z nl).tail.map D.str).length ≤ sizeLine := by
    have := split_n (z := z) nl_len
    have h2 : z.length ≤ 900000 := h
    rw [List.length_map, List.length_tail]; exact big6 (by omega)
  have lc := lc_deedin h
  rw [sh, List.map_cons] at es
  generalize (Txt.split z nl).tail.map D.str = ls at *
  generalize headS z = w at *
  constructor
  · intro hv
    have nd : numD w = .non := by simp [numD, hv]
    rw [nd] at en
    simp only [f_read_history, dFn_eq, start_eq]
    simp -implicitDefEqProofs [check_str, es, tgStar, en, isN, isNonB]
  · intro i hv
    have nd : numD w = .int i := by simp [numD, hv]
    rw [nd] at en
    have hS : (S ++ [.lst (histL z)])[S.length]? = some (.lst (histL z)) := by simp
    obtain ⟨l1, l2⟩ := rh_loop hS (some (.str z)) (some (.str w)) (some (.lst ls)) (some (.int i)) (some (.ref S.length)) none (histL z).length none none (Nat.le_refl _)
    have e0 : (histL z).length - (histL z).length = 0 := by omega
    rw [e0, List.drop_zero] at l1 l2
    have er : ∀ t body ρ, enumSR t body ρ [.ref S.length] (S ++ [.lst (histL z)]) = loopR S.length (histL z).length t body (histL z).length ρ (S ++ [.lst (histL z)]) := fun t body ρ => enumSR_ref hS
    unfold bodyRh at l1 l2
    generalize histL z = hh at *
    constructor
    · intro b t hb
      have e1 := l2 b t hb
      simp only [f_read_history, dFn_eq, start_eq]
      simp -implicitDefEqProofs [-lcD_cons, -lcD_nil, check_str, es, tgStar, en, isN, isNonB, e_dLcS, zl, wipeD, lc, e_sForEnumS, er, e1]
    · intro hb
      obtain ⟨b6, b7, e1⟩ := l1 hb
      simp only [f_read_history, dFn_eq, start_eq]
      simp -implicitDefEqProofs [-lcD_cons, -lcD_nil, check_str, es, tgStar, en, isN, isNonB, e_dLcS, zl, wipeD, lc, e_sForEnumS, er, e1, sized_of]
end K51
namespace K51
open PySem L2 Tok
/-! ## _law_read_history -/
theorem lc_lines {a0 a1 a2 a3 a5 a6 : Option D} : ∀ (ps : List Str) (S : Sto), (∀ p ∈ ps, p.length ≤ lineMax) → ∃ S', lcD (tgName 4) tYesD (dCall f_law_line_deed (aCons (dVar 4) aNil)) (ps.map .str) [a0, a1, a2, a3, none, a5, a6] S = .ok (ps.map lineD) S' ∧ S <+: S'
  | [], S, _ => ⟨S, rfl, List.prefix_refl _⟩
  | p :: ps, S, h => by
    obtain ⟨S1, e1, p1⟩ := law_line (h p List.mem_cons_self) S
    obtain ⟨S2, e2, p2⟩ := lc_lines (a0 := a0) (a1 := a1) (a2 := a2) (a3 := a3) (a5 := a5) (a6 := a6) ps S1 fun q hq => h q (List.mem_cons_of_mem _ hq)
    refine ⟨S2, ?_, p1.trans p2⟩
    rw [List.map_cons, List.map_cons, lcD_cons]
    generalize ps.map D.str = dl at *
    generalize ps.map lineD = ll at *
    simp -implicitDefEqProofs [-lcD_cons, -lcD_nil, e1, e2]
theorem lc_bad {xs : List D} {a0 a1 a2 a4 a5 : Option D} {S : Sto} : ∀ (m k : Nat), k + m = xs.length → lcD (tgName 6) (dTest (dOp2 isND (dOp2 ixD (dVar 3) (dVar 6)) (dC .non))) (dOp2 addE (dVar 6) (dC (.int 1))) (rngF k m) [a0, a1, a2, some (.lst xs), a4, a5, none] S = .ok (badL k (xs.drop k)) S
  | 0, k, h => by
    have e : xs.drop k = [] := List.drop_eq_nil_of_le (by omega)
    rw [e]
    rfl
  | m + 1, k, h => by
    have hk : k < xs.length := by omega
    have at1 : atI xs (k : Int) = some xs[k] := atI_nat hk
    have ih := lc_bad (xs := xs) (a0 := a0) (a1 := a1) (a2 := a2) (a4 := a4) (a5 := a5) (S := S) m (k + 1) (by omega)
    rw [List.drop_eq_getElem_cons hk, rngF_succ, lcD_cons]
    generalize xs[k] = d at *
    show _ = R.ok (if isNonB d = true then _ else _) S
    generalize badL (k + 1) (xs.drop (k + 1)) = bb at *
    generalize rngF (k + 1) m = rg at *
    cases c : isNonB d <;> simp -implicitDefEqProofs [-lcD_cons, -lcD_nil, ixD, at1, isN, c, ih, addE, addD]
def atD (b : D) : D := .tup [.str "at", b]
def fineD (x : D) : D := .tup [.str "fine", x]
def readD (z : Str) : D := match numV (headS z) with
  | none => atD (.int 0)
  | some i => match badL 0 (histL z) with
    | b :: _ => atD b
    | [] => fineD (.tup [.int i, .lst (histL z)])
theorem law_read_odd {d : D} (h : ∀ S, isiD OWN .str S d = some (.bl false)) (S : Sto) : f_law_read_history [d] S = .ok (atD (.int 0)) S := by
  simp only [f_law_read_history, dFn_eq, start_eq]
  simp -implicitDefEqProofs [h, sized_of, atD]
theorem hist_len {z : Str} (h : z.length ≤ lineMax) : (histL z).length ≤ 900000 := by
  have := split_n (z := z) nl_len
  have h2 : z.length ≤ 900000 := h
  unfold histL
  rw [List.length_map, List.length_tail]
  omega
theorem law_read {z : Str} (h : z.length ≤ lineMax) (S : Sto) : ∃ S', f_law_read_history [.str z] S = .ok (readD z) S' ∧ S <+: S' := by
  have h' : z.length ≤ 1000000 := Nat.le_trans h (by decide)
  have es : splitD z [.str "\n"] = some (.lst ((Txt.split z nl).map .str)) := split_ok nl_len h'
  have sh := split_hl z
  have hw : (headS z).length ≤ 1000000 := Nat.le_trans (part_ok h (by rw [sh]; exact List.mem_cons_self)) (by decide)
  have en := law_number_of hw
  have hp : ∀ p ∈ (Txt.split z nl).tail, p.length ≤ lineMax := fun p hp => part_ok h (List.mem_of_mem_tail hp)
  have zl : ((Txt.split z nl).tail.map D.str).length ≤ sizeLine := by
    have := split_n (z := z) nl_len
    have h2 : z.length ≤ 900000 := h
    rw [List.length_map, List.length_tail]; exact big6 (by omega)
  have hl := hist_len h
  rw [sh, List.map_cons] at es
  have a0 : atI (D.str (headS z) :: (Txt.split z nl).tail.map .str) 0 = some (.str (headS z)) := atI_0
  unfold readD
  cases hv : numV (headS z) with
  | none =>
    refine ⟨S, ?_, List.prefix_refl _⟩
    have nd : numD (headS z) = .non := by simp [numD, hv]
    rw [nd] at en
    generalize D.str (headS z) :: (Txt.split z nl).tail.map .str = ls at *
    simp only [f_law_read_history, dFn_eq, start_eq]
    simp -implicitDefEqProofs [isi_ss, es, ixD, a0, en, isN, isNonB, sized_of, atD]
  | some i =>
    have nd : numD (headS z) = .int i := by simp [numD, hv]
    rw [nd] at en
    obtain ⟨S1, e1, p1⟩ := lc_lines (a0 := some (.str z)) (a1 := some (.lst (D.str (headS z) :: (Txt.split z nl).tail.map .str))) (a2 := some (.int i)) (a3 := none) (a5 := none) (a6 := none) (Txt.split z nl).tail S hp
    refine ⟨S1, ?_, p1⟩
    have hhe : (Txt.split z nl).tail.map lineD = histL z := rfl
    rw [hhe] at e1
    have sl : slD (.lst (D.str (headS z) :: (Txt.split z nl).tail.map .str)) (some 1) none = some (.lst ((Txt.split z nl).tail.map .str)) := by
      simp only [slD, cut_1]
      rfl
    have lb := lc_bad (xs := histL z) (a0 := some (.str z)) (a1 := some (.lst (D.str (headS z) :: (Txt.split z nl).tail.map .str))) (a2 := some (.int i)) (a4 := none) (a5 := none) (S := S1) (histL z).length 0 (by omega)
    rw [List.drop_zero] at lb
    have hr : rngR [.int ((histL z).length : Int)] S1 = .ok (rngF 0 (histL z).length) S1 := by rw [rngR_nat (by omega), rngF_0]
    have zr : (rngF 0 (histL z).length).length ≤ sizeLine := by simp [rngF]; exact small (by omega)
    have ll : lenD S1 [.lst (histL z)] = some (.int ((histL z).length : Int)) := rfl
    generalize rngF 0 (histL z).length = rg at *
    generalize (histL z).length = hn at *
    generalize histL z = hh at *
    generalize (Txt.split z nl).tail.map D.str = tl at *
    generalize hls : D.str (headS z) :: tl = ls at *
    cases hb : badL 0 hh with
    | nil =>
      rw [hb] at lb
      simp only [f_law_read_history, dFn_eq, start_eq]
      simp -implicitDefEqProofs [-lcD_cons, -lcD_nil, isi_ss, es, ixD, a0, en, isN, isNonB, sl, e_dLc, zl, wipeD, e1, ll, hr, zr, lb, sized_of, fineD]
    | cons b t =>
      rw [hb] at lb
      simp only [f_law_read_history, dFn_eq, start_eq]
      simp -implicitDefEqProofs [-lcD_cons, -lcD_nil, isi_ss, es, ixD, a0, en, isN, isNonB, sl, e_dLc, zl, wipeD, e1, ll, hr, zr, lb, sized_of, atI_0, atD]
/-! ## _law_asked, _law_said -/
theorem asked_deed {w : Int} (hw : w = 0 ∨ w = 1) (d : D) (S : Sto) : f_law_asked [.int w, d] S = f_show_deed [d] S := by
  rcases hw with rfl | rfl <;> (simp only [f_law_asked, dFn_eq, start_eq]; simp -implicitDefEqProofs []; cases f_show_deed [d] S <;> rfl)
theorem asked_history {w : Int} (hw : w = 2 ∨ w = 3) (d : D) (S : Sto) : f_law_asked [.int w, d] S = f_show_history [d] S := by
  rcases hw with rfl | rfl <;> (simp only [f_law_asked, dFn_eq, start_eq]; simp -implicitDefEqProofs []; cases f_show_history [d] S <;> rfl)
theorem asked_rdeed {w : Int} (hw : w = 4 ∨ w = 5) (d : D) (S : Sto) : f_law_asked [.int w, d] S = f_read_deed [d] S := by
  rcases hw with rfl | rfl <;> (simp only [f_law_asked, dFn_eq, start_eq]; simp -implicitDefEqProofs []; cases f_read_deed [d] S <;> rfl)
theorem asked_rhist {w : Int} (hw : w = 6 ∨ w = 7) (d : D) (S : Sto) : f_law_asked [.int w, d] S = f_read_history [d] S := by
  rcases hw with rfl | rfl <;> (simp only [f_law_asked, dFn_eq, start_eq]; simp -implicitDefEqProofs []; cases f_read_history [d] S <;> rfl)
def tryNR (ie i jf jg : Nat) (zs : List (Nat × Fst)) (ρ : Tok.Env) : R D → R Fl
  | .ok d S1 => .ok (.nx (ρ.set i (some d))) S1
  | .exn c fs S1 => match zs.lookup c with
    | some x => match x.val fs with
      | some v => .ok (.nx (((ρ.set jf (some v)).set jg (some (.bl true))).set ie none)) S1
      | none => .bad
    | none => .bad
  | .bad => .bad
theorem e_sTryN {ie i jf jg : Nat} {zs : List (Nat × Fst)} {m : Den} {ρ : Tok.Env} {S : Sto} (h : ie < ρ.length) : sTryN ie i jf jg zs m ρ S = tryNR ie i jf jg zs ρ (m ρ S) := by
  unfold sTryN tryNR
  rw [if_pos h] <;> (cases m ρ S <;> rfl)
theorem said_ok {w : Int} {d x : D} {S S1 : Sto} (h : f_law_asked [.int w, d] S = .ok x S1) : f_law_said [.int w, d] S = .ok (fineD x) S1 := by
  simp only [f_law_said, dFn_eq, start_eq]
  simp -implicitDefEqProofs [sized_of, tgTup, e_sTryN, h, tryNR, isN, isNonB, fineD]
theorem said_deed {w : Int} {d : D} {S S1 : Sto} (h : f_law_asked [.int w, d] S = .exn 2 [] S1) : f_law_said [.int w, d] S = .ok (.str "deed") S1 := by
  simp only [f_law_said, dFn_eq, start_eq]
  simp -implicitDefEqProofs [sized_of, tgTup, e_sTryN, h, tryNR, Fst.val, isN, isNonB]
theorem said_hist {w : Int} {d : D} {S S1 : Sto} (h : f_law_asked [.int w, d] S = .exn 3 [] S1) : f_law_said [.int w, d] S = .ok (.str "history") S1 := by
  simp only [f_law_said, dFn_eq, start_eq]
  simp -implicitDefEqProofs [sized_of, tgTup, e_sTryN, h, tryNR, List.lookup, Fst.val, isN, isNonB]
theorem said_at {w : Int} {d b : D} {S S1 : Sto} (h : f_law_asked [.int w, d] S = .exn 4 [("at", b)] S1) : f_law_said [.int w, d] S = .ok (atD b) S1 := by
  simp only [f_law_said, dFn_eq, start_eq]
  simp -implicitDefEqProofs [sized_of, tgTup, e_sTryN, h, tryNR, List.lookup, Fst.val, isN, isNonB, atD]
end K51
namespace K51
open PySem L2 Tok
@[simp] theorem add_ii {i j : Int} {S : Sto} : addE S (.int i) (.int j) = some (.int (i + j)) := rfl
/-! ## drawing -/
/-- a cask at l, tapped at most N times -/
def CaskOk (N : Nat) (S : Sto) (l : Nat) : Prop := ∃ a b c : Int, S[l]? = some (.lst [.int a, .int b, .int c]) ∧ 0 ≤ b ∧ b < 2 ^ 200 ∧ 0 ≤ c ∧ c ≤ N
def Kp (l : Nat) (S S' : Sto) : Prop := S.length ≤ S'.length ∧ ∀ j, j ≠ l → ∀ o, S[j]? = some o → S'[j]? = some o
theorem Kp.refl (l : Nat) (S : Sto) : Kp l S S := ⟨Nat.le_refl _, fun _ _ _ h => h⟩
theorem Kp.trans {l : Nat} {S S' S'' : Sto} (a : Kp l S S') (b : Kp l S' S'') : Kp l S S'' := ⟨Nat.le_trans a.1 b.1, fun j hj o h => b.2 j hj o (a.2 j hj o h)⟩
theorem kp_set {l : Nat} {S : Sto} {o : SO} : Kp l S (S.set l o) := ⟨by simp, fun j hj o h => by rw [List.getElem?_set_ne (Ne.symm hj)]; exact h⟩
theorem kp_pre {l : Nat} {S S' : Sto} (h : S <+: S') : Kp l S S' := ⟨h.length_le, fun j _ o e => pre_get h e⟩
theorem cask_pre {N l : Nat} {S S' : Sto} (c : CaskOk N S l) (h : S <+: S') : CaskOk N S' l := by
  obtain ⟨a, b, c, e, r⟩ := c
  exact ⟨a, b, c, pre_get h e, r⟩
theorem CaskOk.mono {N M l : Nat} {S : Sto} (c : CaskOk N S l) (h : N ≤ M) : CaskOk M S l := by
  obtain ⟨a, b, c, e, h1, h2, h3, h4⟩ := c
  exact ⟨a, b, c, e, h1, h2, h3, by omega⟩
theorem big (x : Int) (h : x.natAbs < 2 ^ 900) : x.natAbs < 2 ^ 1000 := Nat.lt_of_lt_of_le h (Nat.pow_le_pow_right (by decide) (by decide))
theorem mod_ok {i j : Int} {S : Sto} (h : 0 < j) : modD S (.int i) (.int j) = some (.int (i % j)) := by
  unfold modD
  dsimp only
  rw [if_pos h]
theorem mul_ok {i j : Int} {S : Sto} (h0 : 0 ≤ i) (h : i < 1000000000) : mulD S (.int i) (.int j) = some (.int (i * j)) := by
  unfold mulD
  dsimp only
  rw [if_pos (.inl ⟨by omega, by omega⟩)]
theorem fdiv_ok {i j : Int} {S : Sto} (h : 0 < j) (h1 : j < 1073741824) : fdivD S (.int i) (.int j) = some (.int (i / j)) := by
  unfold fdivD
  dsimp only
  rw [if_pos ⟨h, h1⟩]
theorem tap {N l : Nat} {S : Sto} (c : CaskOk N S l) (hN : N ≤ 1000000) {span : Int} (h0 : 0 < span) (h1 : span < 1073741824) : ∃ (v : Int) (S' : Sto), f_law_tap [.ref l, .int span] S = .ok (.int v) S' ∧ 0 ≤ v ∧ v < span ∧ Kp l S S' ∧ CaskOk (N + 1) S' l := by
  obtain ⟨a, b, c, hS, hb0, hb1, hc0, hc1⟩ := c
  have hl : l < S.length := (List.getElem?_eq_some_iff.mp hS).1
  have x0 : ixN 3 0 = some 0 := rfl
  have x2 : ixN 3 2 = some 2 := rfl
  by_cases ha : 0 < a
  · refine ⟨a % span, S.set l (.lst [.int (a / span), .int b, .int c]), ?_, Int.emod_nonneg _ (by omega), Int.emod_lt_of_pos _ h0, kp_set, ⟨a / span, b, c, by rw [List.getElem?_set_self hl], hb0, hb1, hc0, by omega⟩⟩
    simp only [f_law_tap, dFn_eq, start_eq]
    simp -implicitDefEqProofs [ixD, hS, atI_0, gtD, cmpI, ha, intD, modD, h0, h1, fdivD, e_sSetIx, setIxR_ok hS x0]
  · let c1 : Int := c + 1
    let S1 : Sto := S.set l (.lst [.int a, .int b, .int c1])
    have hS1 : S1[l]? = some (.lst [.int a, .int b, .int c1]) := by simp [S1, hl]
    let m1 : Int := (b + 30011 * c1) ^ 2 % (10 ^ 39 + 3)
    let m2 : Int := (m1 + 500009 * c1) ^ 3 % (10 ^ 40 + 121)
    have hm0 : 0 ≤ m1 := Int.emod_nonneg _ (by decide +kernel)
    have hm1 : m1 < 10 ^ 39 + 3 := Int.emod_lt_of_pos _ (by decide +kernel)
    have k1 : (b + 30011 * c1).natAbs < 2 ^ 900 := Nat.lt_of_lt_of_le (show (b + 30011 * c1).natAbs < 2 ^ 201 by omega) (Nat.pow_le_pow_right (by decide) (by decide))
    have k2 : (m1 + 500009 * c1).natAbs < 2 ^ 900 := Nat.lt_of_lt_of_le (show (m1 + 500009 * c1).natAbs < 2 ^ 201 by omega) (Nat.pow_le_pow_right (by decide) (by decide))
    have p1 : powD S1 (.int (b + 30011 * c1)) (.int 2) = some (.int ((b + 30011 * c1) ^ 2)) := pow_ok (n := 2) (by decide) (big _ k1)
    have p2 : powD S1 (.int 10) (.int 39) = some (.int (10 ^ 39)) := pow_ok (n := 39) (by decide) (big _ (Nat.lt_of_lt_of_le (show (10 : Int).natAbs < 2 ^ 4 by decide) (Nat.pow_le_pow_right (by decide) (by decide))))
    have p3 : powD S1 (.int (m1 + 500009 * c1)) (.int 3) = some (.int ((m1 + 500009 * c1) ^ 3)) := pow_ok (n := 3) (by decide) (big _ k2)
    have p4 : powD S1 (.int 10) (.int 40) = some (.int (10 ^ 40)) := pow_ok (n := 40) (by decide) (big _ (Nat.lt_of_lt_of_le (show (10 : Int).natAbs < 2 ^ 4 by decide) (Nat.pow_le_pow_right (by decide) (by decide))))
    have q1 : modD S1 (.int ((b + 30011 * c1) ^ 2)) (.int (10 ^ 39 + 3)) = some (.int m1) := mod_ok (by decide +kernel)
    have q2 : modD S1 (.int ((m1 + 500009 * c1) ^ 3)) (.int (10 ^ 40 + 121)) = some (.int m2) := mod_ok (by decide +kernel)
    have q3 : mulD S1 (.int 30011) (.int c1) = some (.int (30011 * c1)) := mul_ok (by decide) (by decide)
    have q4 : mulD S1 (.int 500009) (.int c1) = some (.int (500009 * c1)) := mul_ok (by decide) (by decide)
    refine ⟨m2 / 131072 % span, S1, ?_, Int.emod_nonneg _ (by omega), Int.emod_lt_of_pos _ h0, kp_set, ⟨a, b, c1, hS1, hb0, hb1, by omega, by omega⟩⟩
    have hset : setIxR (.ref l) (.int 2) (.int (c + 1)) [some (.ref l), some (.int span), none, none] S = .ok (.nx [some (.ref l), some (.int span), none, none]) S1 := setIxR_ok hS x2
    simp only [f_law_tap, dFn_eq, start_eq]
    have q5 : fdivD S1 (.int m2) (.int 131072) = some (.int (m2 / 131072)) := fdiv_ok (by decide) (by decide)
    have q6 : modD S1 (.int (m2 / 131072)) (.int span) = some (.int (m2 / 131072 % span)) := mod_ok h0
    clear_value m1 m2 S1 c1
    clear hm0 hm1 k1 k2
    generalize ((10 : Int) ^ 39) = P39 at *
    generalize ((10 : Int) ^ 40) = P40 at *
    generalize hA : ((b + 30011 * c1) ^ 2) = A2 at *
    generalize hB : ((m1 + 500009 * c1) ^ 3) = A3 at *
    simp -implicitDefEqProofs [ixD, hS, hS1, atI_0, atI_1, atI_2, gtD, cmpI, ha, intD, e_sSetIx, hset, p1, p2, p3, p4, q1, q2, q3, q4, q5, q6]
def K2 (l f : Nat) (S S' : Sto) : Prop := S.length ≤ S'.length ∧ ∀ j, j ≠ l → j ≠ f → ∀ o, S[j]? = some o → S'[j]? = some o
theorem K2.of {l f : Nat} {S S' : Sto} (h : Kp l S S') : K2 l f S S' := ⟨h.1, fun j a _ o e => h.2 j a o e⟩
theorem K2.trans {l f : Nat} {S S' S'' : Sto} (a : K2 l f S S') (b : K2 l f S' S'') : K2 l f S S'' := ⟨Nat.le_trans a.1 b.1, fun j h1 h2 o e => b.2 j h1 h2 o (a.2 j h1 h2 o e)⟩
theorem k2_set {l f : Nat} {S : Sto} {o : SO} : K2 l f S (S.set f o) := ⟨by simp, fun j _ h o e => by rw [List.getElem?_set_ne (Ne.symm h)]; exact e⟩
theorem cask_set {N l f : Nat} {S : Sto} {o : SO} (c : CaskOk N S l) (h : f ≠ l) : CaskOk N (S.set f o) l := by
  obtain ⟨a, b, c, e, r⟩ := c
  exact ⟨a, b, c, by rw [List.getElem?_set_ne h]; exact e, r⟩
theorem strs_at {ws : List Str} {v : Int} (h0 : 0 ≤ v) (h1 : v < ws.length) : ∃ s, s ∈ ws ∧ atI ((ws.map D.str)) v = some (.str s) := by
  obtain ⟨n, rfl⟩ := Int.eq_ofNat_of_zero_le h0
  have hn : n < ws.length := by omega
  refine ⟨ws[n], List.getElem_mem hn, ?_⟩
  rw [atI_nat (by simpa using hn)]
  simp
theorem law_cask (ns : List Int) (at_ : Nat) (ha : at_ ≤ 3) (S : Sto) : ∃ o, f_law_cask [.scr (ns.map .int), .int at_] S = .ok (.ref S.length) (S ++ [o]) ∧ CaskOk 0 (S ++ [o]) S.length := by
  obtain ⟨cell, hc⟩ : ∃ cell : Int, (if (at_ : Int) < ns.length then atI (ns.map D.int) (at_ : Int) = some (.int cell) else cell = 0) := by
    by_cases h : (at_ : Int) < ns.length
    · have hn : at_ < ns.length := by omega
      exact ⟨ns[at_], by rw [if_pos h, atI_nat (by simpa using hn)]; simp⟩
    · exact ⟨0, by rw [if_neg h]⟩
  let M : Int := 10 ^ 38 + 133
  let b : Int := cell % M * 59 + 61 * at_ + 23
  obtain ⟨z, hz⟩ : ∃ z : Int, ∀ S, maxD S [.int 0, .int ((cell.natAbs : Int) - 10 ^ 18)] = some (.int z) := ⟨_, fun S => rfl⟩
  have p1 : ∀ S, powD S (.int 10) (.int 18) = some (.int (10 ^ 18)) := fun S => pow_ok (n := 18) (by decide) (big _ (Nat.lt_of_lt_of_le (show (10 : Int).natAbs < 2 ^ 4 by decide) (Nat.pow_le_pow_right (by decide) (by decide))))
  have p2 : ∀ S, powD S (.int 10) (.int 38) = some (.int (10 ^ 38)) := fun S => pow_ok (n := 38) (by decide) (big _ (Nat.lt_of_lt_of_le (show (10 : Int).natAbs < 2 ^ 4 by decide) (Nat.pow_le_pow_right (by decide) (by decide))))
  have hM : (0 : Int) < M := by decide +kernel
  have hM2 : M < 2 ^ 150 := by decide +kernel
  have m0 : 0 ≤ cell % M := Int.emod_nonneg _ (by omega)
  have m1 : cell % M < M := Int.emod_lt_of_pos _ hM
  have q1 : ∀ S, modD S (.int cell) (.int M) = some (.int (cell % M)) := fun S => mod_ok hM
  have q2 : ∀ S, mulD S (.int (cell % M)) (.int 59) = some (.int (cell % M * 59)) := fun S => by
    unfold mulD
    dsimp only
    rw [if_pos (.inr ⟨by decide, by decide⟩)]
  have q3 : ∀ S, mulD S (.int 61) (.int at_) = some (.int (61 * at_)) := fun S => mul_ok (by decide) (by decide)
  have q4 : ∀ S, subD S (.int (cell.natAbs : Int)) (.int (10 ^ 18)) = some (.int ((cell.natAbs : Int) - 10 ^ 18)) := fun S => rfl
  have q5 : ∀ S, absD S [.int cell] = some (.int (cell.natAbs : Int)) := by
    intro S; unfold absD; dsimp only; congr 2; split <;> omega
  have q6 : ∀ S, addE S (.int (10 ^ 38)) (.int 133) = some (.int M) := fun S => rfl
  have q7 : ∀ S, addE S (.int (cell % M * 59)) (.int (61 * at_)) = some (.int (cell % M * 59 + 61 * at_)) := fun S => rfl
  have q8 : ∀ S, addE S (.int (cell % M * 59 + 61 * at_)) (.int 23) = some (.int b) := fun S => rfl
  have hb0 : 0 ≤ b := by show 0 ≤ cell % M * 59 + 61 * at_ + 23; omega
  have hb1 : b < 2 ^ 200 := by show cell % M * 59 + 61 * at_ + 23 < 2 ^ 200; omega
  refine ⟨.lst [.int z, .int b, .int 0], ?_, ⟨z, b, 0, by simp, hb0, hb1, by decide, by decide⟩⟩
  clear_value b M
  generalize ((10 : Int) ^ 18) = T18 at *
  generalize ((10 : Int) ^ 38) = T38 at *
  have hl : (ns.map D.int).length = ns.length := by simp
  by_cases h : (at_ : Int) < ns.length
  · rw [if_pos h] at hc
    simp only [f_law_cask, dFn_eq, start_eq]
    simp -implicitDefEqProofs [lenD, hl, ltD, cmpI, h, ixD, hc, q5, p1, q4, hz, intD, p2, q6, q1, q2, q3, q7, q8, sized_of]
  · rw [if_neg h] at hc
    subst hc
    simp -implicitDefEqProofs at q1 q2 q4 q5 q7 q8 hz
    simp only [f_law_cask, dFn_eq, start_eq]
    simp -implicitDefEqProofs [lenD, hl, ltD, cmpI, h, q5, p1, q4, hz, intD, p2, q6, q1, q2, q3, q7, q8, sized_of]
theorem cask_pre1 {N l : Nat} {S : Sto} {o : SO} (c : CaskOk N S l) : CaskOk N (S ++ [o]) l := cask_pre c (List.prefix_append _ _)
end K51
namespace K51
open PySem L2 Tok
/-! ## _law_agree -/
def agR (S : Sto) : Nat → D → D → Prop
  | _, .non, .non => True
  | _, .str a, .str b => a = b
  | _, .int a, .int b => a = b
  | n + 1, .tup xs, .tup ys => ys.length ≤ 1000000 ∧ xs.length = ys.length ∧ ∀ k (h1 : k < xs.length) (h2 : k < ys.length), agR S n xs[k] ys[k]
  | n + 1, .lst xs, .lst ys => ys.length ≤ 1000000 ∧ xs.length = ys.length ∧ ∀ k (h1 : k < xs.length) (h2 : k < ys.length), agR S n xs[k] ys[k]
  | n + 1, .ref l, .lst ys => ∃ xs, S[l]? = some (.lst xs) ∧ ys.length ≤ 1000000 ∧ xs.length = ys.length ∧ ∀ k (h1 : k < xs.length) (h2 : k < ys.length), agR S n xs[k] ys[k]
  | _, _, _ => False
theorem agree_succ (n : Nat) : f_law_agree (n + 1) = b_f_law_agree (f_law_agree n) := rfl
def ttAg (f : DF) : DenT := dNotT (dTest (dCall f (aCons (dOp2 ixD (dVar 0) (dVar 2)) (aCons (dOp2 ixD (dVar 1) (dVar 2)) aNil))))
theorem lc_none {f : DF} {x y : D} {S : Sto} {n : Nat} (h : ∀ k : Nat, k < n → ∃ a b, ixD S x (.int k) = some a ∧ ixD S y (.int k) = some b ∧ f [a, b] S = .ok (.bl true) S) : lcD (tgName 2) (ttAg f) (dVar 2) (rngD 0 n) [some x, some y, none] S = .ok [] S := by
  have e := lc_filt (S := S) (ρ := [some x, some y, none]) (i := 2) (tt := ttAg f) (te := dVar 2) (p := fun _ => false) (h := id) (rngD 0 n) (fun d hd => ?_) (fun d hd c => by cases c)
  · rw [e]; simp
  · obtain ⟨k, hk, rfl⟩ := rng_mem hd
    obtain ⟨a, b, h1, h2, h3⟩ := h k hk
    simp [ttAg, h1, h2, h3]
@[simp] theorem eqE_nn {S : Sto} : eqE S .non .non = some (.bl true) := rfl
theorem agree_seq {f : DF} {S : Sto} {x y : D} {n : Nat} (hn : n ≤ 1000000) (hc : ∀ k : Nat, k < n → ∃ a b, ixD S x (.int k) = some a ∧ ixD S y (.int k) = some b ∧ f [a, b] S = .ok (.bl true) S)
    (lx : lenD S [x] = some (.int (n : Int))) (ly : lenD S [y] = some (.int (n : Int)))
    (h1 : isiD OWN .bl S x = some (.bl false)) (h2 : isiD OWN .bl S y = some (.bl false)) (a b : Bool) (h3 : isiD OWN .lst S x = some (.bl a)) (h4 : isiD OWN .lst S y = some (.bl a)) (h5 : isiD OWN .tup S x = some (.bl b)) (h6 : isiD OWN .tup S y = some (.bl b))
    (h7 : isiD OWN .str S x = some (.bl false)) (h8 : isiD OWN .str S y = some (.bl false)) (h9 : isiD OWN .int S x = some (.bl false)) (h10 : isiD OWN .int S y = some (.bl false)) (h11 : isi2D OWN [.lst, .tup] S y = some (.bl true)) : b_f_law_agree f [x, y] S = .ok (.bl true) S := by
  have lc := lc_none hc
  have hr : rngR [.int (n : Int)] S = .ok (rngD 0 n) S := rngR_nat (by omega)
  have zr : (rngD 0 n).length ≤ sizeLine := by rw [rng_len]; exact small (by omega)
  unfold ttAg at lc
  generalize rngD 0 n = rg at *
  simp only [b_f_law_agree, dFn_eq, start_eq]
  simp -implicitDefEqProofs [-lcD_cons, -lcD_nil, h1, h2, h3, h4, h5, h6, h7, h8, h9, h10, h11, lx, ly, e_dLc, hr, zr, wipeD, lc, sized_of]
theorem agree_ok : ∀ (n : Nat) (x y : D) (S : Sto), agR S n x y → f_law_agree (n + 1) [x, y] S = .ok (.bl true) S := by
  have base : ∀ (n : Nat) (x y : D) (S : Sto), (x = .non ∧ y = .non ∨ (∃ s, x = .str s ∧ y = .str s) ∨ ∃ i, x = .int i ∧ y = .int i) → f_law_agree (n + 1) [x, y] S = .ok (.bl true) S := by
    rintro n x y S (⟨rfl, rfl⟩ | ⟨s, rfl, rfl⟩ | ⟨i, rfl, rfl⟩) <;> simp -implicitDefEqProofs [agree_succ, b_f_law_agree, dFn_eq, start_eq, isiD, isi2D, tyD, okTy, isT, isND]
  intro n
  induction n with
  | zero =>
    intro x y S h
    cases x <;> cases y <;> simp only [agR] at h
    · exact base _ _ _ _ (.inl ⟨rfl, rfl⟩)
    · subst h; exact base _ _ _ _ (.inr (.inr ⟨_, rfl, rfl⟩))
    · subst h; exact base _ _ _ _ (.inr (.inl ⟨_, rfl, rfl⟩))
  | succ n ih =>
    intro x y S h
    cases x <;> cases y <;> simp only [agR] at h
    · exact base _ _ _ _ (.inl ⟨rfl, rfl⟩)
    · subst h; exact base _ _ _ _ (.inr (.inr ⟨_, rfl, rfl⟩))
    · subst h; exact base _ _ _ _ (.inr (.inl ⟨_, rfl, rfl⟩))
    · rename_i xs ys
      obtain ⟨hl, he, hk⟩ := h
      rw [agree_succ]
      exact agree_seq (n := ys.length) hl (fun k hk1 => ⟨xs[k]'(by omega), ys[k], atI_nat (by omega), atI_nat hk1, ih _ _ S (hk k (by omega) hk1)⟩) (by simp [lenD, he]) rfl rfl rfl false true rfl rfl rfl rfl rfl rfl rfl rfl rfl
    · rename_i xs ys
      obtain ⟨hl, he, hk⟩ := h
      rw [agree_succ]
      exact agree_seq (n := ys.length) hl (fun k hk1 => ⟨xs[k]'(by omega), ys[k], atI_nat (by omega), atI_nat hk1, ih _ _ S (hk k (by omega) hk1)⟩) (by simp [lenD, he]) rfl rfl rfl true false rfl rfl rfl rfl rfl rfl rfl rfl rfl
    · rename_i l ys
      obtain ⟨xs, hS, hl, he, hk⟩ := h
      rw [agree_succ]
      have i1 : ∀ t, isiD OWN t S (.ref l) = isiD OWN t S (.lst xs) := fun t => by simp [isiD, tyD, hS]
      exact agree_seq (n := ys.length) hl (fun k hk1 => ⟨xs[k]'(by omega), ys[k], by simp [ixD, hS]; exact atI_nat (by omega), atI_nat hk1, ih _ _ S (hk k (by omega) hk1)⟩) (by simp [lenD, hS, he]) rfl (by rw [i1]; rfl) rfl true false (by rw [i1]; rfl) rfl (by rw [i1]; rfl) rfl (by rw [i1]; rfl) rfl (by rw [i1]; rfl) rfl rfl
def plainD : Nat → D → Prop
  | _, .non => True
  | _, .str _ => True
  | _, .int _ => True
  | n + 1, .tup xs => xs.length ≤ 1000000 ∧ ∀ x ∈ xs, plainD n x
  | n + 1, .lst xs => xs.length ≤ 1000000 ∧ ∀ x ∈ xs, plainD n x
  | _, _ => False
theorem agR_refl (S : Sto) : ∀ (n : Nat) (x : D), plainD n x → agR S n x x := by
  intro n
  induction n with
  | zero => intro x h; cases x <;> simp only [plainD] at h <;> simp [agR]
  | succ n ih =>
    intro x h
    cases x <;> simp only [plainD] at h
    · trivial
    · exact rfl
    · exact rfl
    · exact ⟨h.1, rfl, fun k h1 _ => ih _ (h.2 _ (List.getElem_mem h1))⟩
    · exact ⟨h.1, rfl, fun k h1 _ => ih _ (h.2 _ (List.getElem_mem h1))⟩
theorem plain_mono : ∀ (n m : Nat) (x : D), n ≤ m → plainD n x → plainD m x := by
  intro n
  induction n with
  | zero => intro m x _ h; cases x <;> simp only [plainD] at h <;> cases m <;> trivial
  | succ n ih =>
    intro m x hm h
    cases m with
    | zero => omega
    | succ m =>
      cases x <;> simp only [plainD] at h
      · trivial
      · trivial
      · trivial
      · exact ⟨h.1, fun y hy => ih m y (by omega) (h.2 y hy)⟩
      · exact ⟨h.1, fun y hy => ih m y (by omega) (h.2 y hy)⟩
/-! plain things -/
theorem plain_entryI {w : Str} (h : w.length ≤ lineMax) (s : Str) : plainD 1 (entryI s w) := by
  have num : ∀ (n : Nat) (q : Str), plainD n (numD q) := fun n q => by unfold numD; split <;> cases n <;> trivial
  unfold entryI
  split
  · split <;> trivial
  · split
    · unfold leadI
      split
      · trivial
      · split <;> trivial
    · split
      · unfold ghostI
        split
        · exact ⟨by simp, fun x hx => by cases hx⟩
        · refine ⟨?_, fun x hx => ?_⟩
          · rw [List.length_map]
            have := split_n (z := w) cma_len
            have h2 : w.length ≤ 900000 := h
            omega
          · obtain ⟨p, _, rfl⟩ := List.mem_map.mp hx
            exact num 0 p
      · exact num 1 w
theorem plain_line {z : Str} (h : z.length ≤ lineMax) : plainD 2 (lineD z) := by
  unfold lineD
  obtain ⟨w, r, e⟩ := split_cons z spc
  have hp : ∀ p ∈ w :: r, p.length ≤ lineMax := fun p hp => Nat.le_trans (PyProof.Rows.part_short (by rw [e]; exact hp)) h
  rw [e]
  cases hw : sortTab.lookup w with
  | none => rw [lineW_none hw]; trivial
  | some ss =>
    rw [lineW_some hw]
    have sl : ss.length ≤ 4 := (tab_sorts _ (lookup_mem hw)).1
    split
    · split
      · refine ⟨by simp; omega, fun x hx => ?_⟩
        rcases List.mem_cons.mp hx with rfl | hx
        · trivial
        · have : ∀ (ss r : List Str), (∀ p ∈ r, p.length ≤ lineMax) → ∀ x ∈ List.zipWith entryI ss r, plainD 1 x := by
            intro ss
            induction ss with
            | nil => intro r _ x hx; simp at hx
            | cons s ss ih => intro r hr x hx; cases r with
              | nil => simp at hx
              | cons p r =>
                rw [List.zipWith_cons_cons] at hx
                rcases List.mem_cons.mp hx with rfl | hx
                · exact plain_entryI (hr p List.mem_cons_self) s
                · exact ih r (fun q hq => hr q (List.mem_cons_of_mem _ hq)) x hx
          exact this ss r (fun p hm => hp p (List.mem_cons_of_mem _ hm)) x hx
      · trivial
    · trivial
theorem plain_good {d : D} (h : goodD d) : plainD 2 d := by
  rw [← deed_back h]
  exact plain_line (Nat.le_trans (deed_len h) (by decide))
end K51
namespace K51
open PySem L2 Tok
/-! ## numbers and deeds are drawn -/
theorem ints_at {is : List Int} {v : Int} (h0 : 0 ≤ v) (h1 : v < is.length) : ∃ i, i ∈ is ∧ atI (is.map D.int) v = some (.int i) := by
  obtain ⟨n, rfl⟩ := Int.eq_ofNat_of_zero_le h0
  have hn : n < is.length := by omega
  refine ⟨is[n], List.getElem_mem hn, ?_⟩
  rw [atI_nat (by simpa using hn)]
  simp
theorem ten : (10 : Int).natAbs < 2 ^ 900 := Nat.lt_of_lt_of_le (show (10 : Int).natAbs < 2 ^ 4 by decide) (Nat.pow_le_pow_right (by decide) (by decide))
theorem any_number {N l : Nat} {S : Sto} (c : CaskOk N S l) (hN : N ≤ 900000) : ∃ (n : Nat) (S' : Sto), f_law_any_number [.ref l] S = .ok (.int n) S' ∧ n < 10 ^ 30 ∧ Kp l S S' ∧ CaskOk (N + 3) S' l := by
  obtain ⟨v1, S1, e1, v10, v11, kp1, c1⟩ := tap c (by omega) (span := 60) (by omega) (by omega)
  obtain ⟨v2, S2, e2, v20, v21, kp2, c2⟩ := tap c1 (by omega) (span := 9) (by omega) (by omega)
  obtain ⟨v3, S3, e3, v30, v31, kp3, c3⟩ := tap c2 (by omega) (span := 8) (by omega) (by omega)
  obtain ⟨i, hi, ea⟩ := ints_at (is := [0, 1, 2, v1, 10 ^ 29 + v2, 10 ^ 5, 10 ^ 12, 10 ^ 20]) v30 (by simpa using v31)
  have p1 : ∀ S, powD S (.int 10) (.int 29) = some (.int (10 ^ 29)) := fun S => pow_ok (n := 29) (by decide) (big _ ten)
  have p2 : ∀ S, powD S (.int 10) (.int 5) = some (.int (10 ^ 5)) := fun S => pow_ok (n := 5) (by decide) (big _ ten)
  have p3 : ∀ S, powD S (.int 10) (.int 12) = some (.int (10 ^ 12)) := fun S => pow_ok (n := 12) (by decide) (big _ ten)
  have p4 : ∀ S, powD S (.int 10) (.int 20) = some (.int (10 ^ 20)) := fun S => pow_ok (n := 20) (by decide) (big _ ten)
  have bnd : 0 ≤ i ∧ i < 10 ^ 30 := by
    simp only [List.mem_cons, List.not_mem_nil, or_false] at hi
    rcases hi with rfl | rfl | rfl | rfl | rfl | rfl | rfl | rfl <;> omega
  obtain ⟨n, rfl⟩ := Int.eq_ofNat_of_zero_le bnd.1
  refine ⟨n, S3, ?_, by omega, kp1.trans (kp2.trans kp3), c3⟩
  clear bnd hi
  generalize ((10 : Int) ^ 29) = P29 at *
  generalize ((10 : Int) ^ 5) = P5 at *
  generalize ((10 : Int) ^ 12) = P12 at *
  generalize ((10 : Int) ^ 20) = P20 at *
  simp only [List.map_cons, List.map_nil] at ea
  simp only [f_law_any_number, dFn_eq, start_eq]
  simp -implicitDefEqProofs [e1, e2, e3, p1, p2, p3, p4, sized_of, ixD, ea]
theorem kp_of_k2 {l : Nat} {S S' : Sto} {o : SO} (h : K2 l S.length (S ++ [o]) S') : Kp l S S' := by
  refine ⟨by have := h.1; simp at this; omega, fun j hj o' e => ?_⟩
  have hl := (List.getElem?_eq_some_iff.mp e).1
  exact h.2 j hj (by omega) o' (by rw [List.getElem?_append_left hl]; exact e)
theorem asc_snoc {y : D} : ∀ {xs : List D}, ascL xs = true → (∀ x ∈ xs, ltB x y = true) → ascL (xs ++ [y]) = true
  | [], _, _ => rfl
  | [a], _, h => by
    have := h a (by simp)
    simp [ascL, this]
  | a :: b :: r, h, hx => by
    simp only [ascL, List.drop_one, List.tail_cons, List.zipWith_cons_cons, List.all_cons, Bool.and_eq_true, id] at h
    have ih := asc_snoc (y := y) (xs := b :: r) (by simpa [ascL] using h.2) fun x hm => hx x (List.mem_cons_of_mem _ hm)
    simp only [ascL, List.cons_append, List.drop_one, List.tail_cons, List.zipWith_cons_cons, List.all_cons, Bool.and_eq_true, id] at ih ⊢
    exact ⟨h.1, ih⟩
def intL (ns : List Nat) : List D := ns.map fun n : Nat => D.int (n : Int)
def bodyG : DenS := (sSeq (sAsg (dOp2 addE (dOp2 addE (dVar 5) (dCall f_law_tap (aCons (dVar 0) (aCons (dC (.int 5)) aNil)))) (dIfE (dTest (dOp2 gtD (dVar 7) (dC (.int 0)))) (dC (.int 1)) (dC (.int 0)))) (tgName 5)) (sSeq (sDrop (dAppend (dVar 6) (dVar 5))) sNext))
theorem g_loop {l g : Nat} (hg : g ≠ l) (a1 a2 a3 a4 : Option D) : ∀ (m k N low : Nat) (ns : List Nat) (S : Sto) (a7 : Option D), CaskOk N S l → N + m ≤ 990000 → S[g]? = some (.lst (intL ns)) → ns.length = k → k + m ≤ 10 → ascL (intL ns) = true → (∀ x ∈ ns, x ≤ low) → low ≤ 5 * k →
    ∃ (ns' : List Nat) (S' : Sto) (o5 o7 : Option D), loopD (tgName 7) bodyG (rngF k m) [some (.ref l), a1, a2, a3, a4, some (.int (low : Int)), some (.ref g), a7] S = .ok (.nx [some (.ref l), a1, a2, a3, a4, o5, some (.ref g), o7]) S' ∧ S'[g]? = some (.lst (intL ns')) ∧ ns'.length ≤ 10 ∧ ascL (intL ns') = true ∧ (∀ x ∈ ns', x ≤ 100) ∧ K2 l g S S' ∧ CaskOk (N + m) S' l
  | 0, k, N, low, ns, S, a7, c, hN, hS, hl, hk, ha, hx, hlow => ⟨ns, S, _, a7, rfl, hS, by omega, ha, fun x hm => by have := hx x hm; omega, K2.of (Kp.refl _ _), c⟩
  | m + 1, k, N, low, ns, S, a7, c, hN, hS, hl, hk, ha, hx, hlow => by
    obtain ⟨v, S1, e1, v0, v1, kp, c1⟩ := tap c (by omega) (span := 5) (by omega) (by omega)
    obtain ⟨t, rfl⟩ := Int.eq_ofNat_of_zero_le v0
    have hS1 : S1[g]? = some (.lst (intL ns)) := kp.2 g hg _ hS
    have hgl : g < S1.length := (List.getElem?_eq_some_iff.mp hS1).1
    obtain ⟨q, hq, hq1, hq2⟩ : ∃ q : Nat, (q : Int) = ((low : Int) + (t : Int)) + (if 0 < k then 1 else 0) ∧ (∀ x ∈ ns, x < q) ∧ q ≤ low + 5 := by
      by_cases k0 : 0 < k
      · refine ⟨low + t + 1, by rw [if_pos k0]; omega, fun x hm => by have := hx x hm; omega, by omega⟩
      · refine ⟨low + t, by rw [if_neg k0]; omega, fun x hm => ?_, by omega⟩
        have : ns = [] := List.eq_nil_of_length_eq_zero (by omega)
        rw [this] at hm
        cases hm
    have app : intL ns ++ [.int (q : Int)] = intL (ns ++ [q]) := by simp [intL]
    have hz : (intL ns).length ≤ 1000 := by simp [intL]; omega
    obtain ⟨ns', S', o5, o7, e2, r1, r2, r3, r4, r5, r6⟩ := g_loop hg a1 a2 a3 a4 m (k + 1) (N + 1) q (ns ++ [q]) (S1.set g (.lst (intL (ns ++ [q])))) (some (.int (k : Int))) (cask_set c1 hg) (by omega) (by rw [List.getElem?_set_self hgl]) (by simp [hl]) (by omega)
      (by rw [← app]; exact asc_snoc ha fun x hm => by
            obtain ⟨n, hn, rfl⟩ := List.mem_map.mp hm
            have := hq1 n hn
            simp [ltB]; omega)
      (fun x hm => by
        rcases List.mem_append.mp hm with hm | hm
        · have := hq1 x hm; omega
        · simp at hm; omega) (by omega)
    refine ⟨ns', S', o5, o7, ?_, r1, r2, r3, r4, ((K2.of kp).trans k2_set).trans r5, r6.mono (by omega)⟩
    have gt : ∀ S, gtD S (.int (k : Int)) (.int 0) = some (.bl (decide (0 < k))) := fun S => by simp [gtD, cmpI]
    have step : bodyG [some (.ref l), a1, a2, a3, a4, some (.int (low : Int)), some (.ref g), some (.int (k : Int))] S = .ok (.nx [some (.ref l), a1, a2, a3, a4, some (.int (q : Int)), some (.ref g), some (.int (k : Int))]) (S1.set g (.lst (intL (ns ++ [q])))) := by
      unfold bodyG
      rw [hq, ← app, hq]
      by_cases k0 : 0 < k
      · simp -implicitDefEqProofs [e1, gt, k0, e_dAppend, app1_ok hS1, app2_ok hS1 hz]
      · simp -implicitDefEqProofs [e1, gt, k0, e_dAppend, app1_ok hS1, app2_ok hS1 hz]
    rw [rngF_succ, loop_cons, e_tgName, loopO_some]
    show loopK _ _ _ (bodyG [some (.ref l), a1, a2, a3, a4, some (.int (low : Int)), some (.ref g), some (.int (k : Int))] S) = _
    rw [step, loopK_nx, e2]
def bodyD : DenS := (sSeq (sIf (dTest (dOp2 eqE (dVar 4) (dC (.str "name")))) (sSeq (sDrop (dAppend (dVar 3) (dOp2 ixD (dVar 1) (dCall f_law_tap (aCons (dVar 0) (aCons (dOpN lenD (aCons (dVar 1) aNil)) aNil)))))) sNext) (sSeq (sIf (dTest (dOp2 eqE (dVar 4) (dC (.str "ghosts")))) (sSeq (sPar 5 6 (aCons (dC (.int 0)) (aCons (dLstS aNil) aNil))) (sSeq (sFor (iRange1 (aCons (dCall f_law_tap (aCons (dVar 0) (aCons (dC (.int 7)) aNil))) aNil)) (tgName 7) bodyG) (sSeq (sDrop (dAppend (dVar 3) (dOpN tupleD (aCons (dVar 6) aNil)))) sNext))) (sSeq (sDrop (dAppend (dVar 3) (dIfE (dAndT (dTest (dOp2 eqE (dVar 4) (dC (.str "leader")))) (dTest (dOp2 eqE (dCall f_law_tap (aCons (dVar 0) (aCons (dC (.int 2)) aNil))) (dC (.int 0))))) (dC .non) (dCall f_law_any_number (aCons (dVar 0) aNil))))) sNext)) sNext)) sNext)
theorem sm_nat {n : Nat} (h : n ≤ 100) : smI (.int (n : Int)) := ⟨n, rfl, by omega⟩
theorem deed_turn {N l f : Nat} {S : Sto} (c : CaskOk N S l) (hN : N ≤ 890000) (hf : f ≠ l) {acc : List D} (hS : S[f]? = some (.lst acc)) (ha : acc.length ≤ 100) {ws : List Str} (hw : ∀ w ∈ ws, isName w = true) (hw0 : 0 < ws.length) (hw1 : ws.length ≤ 100) {s : Str} (hs : s ∈ sortsAll) (a2 a5 a6 a7 : Option D) :
    ∃ (p : D) (S' : Sto) (o5 o6 o7 : Option D), bodyD [some (.ref l), some (.lst (ws.map .str)), a2, some (.ref f), some (.str (lawS s)), a5, a6, a7] S = .ok (.nx [some (.ref l), some (.lst (ws.map .str)), a2, some (.ref f), some (.str (lawS s)), o5, o6, o7]) S' ∧
      goodE s p ∧ S'[f]? = some (.lst (acc ++ [p])) ∧ K2 l f S S' ∧ CaskOk (N + 20) S' l := by
  have hfl : f < S.length := (List.getElem?_eq_some_iff.mp hS).1
  have hz : acc.length ≤ 1000 := by omega
  have nng : ¬ (("number" : Str) = "ghosts") := by decide +kernel
  have nnn : ¬ (("number" : Str) = "name") := by decide +kernel
  have nnl : ¬ (("number" : Str) = "leader") := by decide +kernel
  have ngn : ¬ (("ghosts" : Str) = "name") := by decide +kernel
  have nln : ¬ (("leader" : Str) = "name") := by decide +kernel
  have nlg : ¬ (("leader" : Str) = "ghosts") := by decide +kernel
  simp only [sortsAll, List.mem_cons, List.not_mem_nil, or_false] at hs
  rcases hs with rfl | rfl | rfl | rfl
  · have e : lawS "key" = "name" := by decide +kernel
    rw [e]
    obtain ⟨v, S1, e1, v0, v1, kp, c1⟩ := tap c (by omega) (span := (ws.length : Int)) (by omega) (by omega)
    obtain ⟨w, hm, ea⟩ := strs_at v0 v1
    have hS1 : S1[f]? = some (.lst acc) := kp.2 f hf _ hS
    have hl : f < S1.length := (List.getElem?_eq_some_iff.mp hS1).1
    refine ⟨.str w, S1.set f (.lst (acc ++ [.str w])), a5, a6, a7, ?_, .inl ⟨rfl, w, rfl, hw w hm⟩, by rw [List.getElem?_set_self hl], (K2.of kp).trans k2_set, (cask_set c1 hf).mono (by omega)⟩
    have hlen : lenD S [.lst (ws.map .str)] = some (.int (ws.length : Int)) := by simp [lenD]
    generalize ws.map D.str = wl at *
    unfold bodyD
    simp -implicitDefEqProofs [e_dAppend, app1_ok hS, hlen, e1, ixD, ea, app2_ok hS1 hz]
  · have e : lawS "number" = "number" := by decide +kernel
    rw [e]
    obtain ⟨n, S1, e1, hn, kp, c1⟩ := any_number c (by omega)
    have hS1 : S1[f]? = some (.lst acc) := kp.2 f hf _ hS
    have hl : f < S1.length := (List.getElem?_eq_some_iff.mp hS1).1
    refine ⟨.int n, S1.set f (.lst (acc ++ [.int n])), a5, a6, a7, ?_, .inr (.inl ⟨rfl, n, rfl, hn⟩), by rw [List.getElem?_set_self hl], (K2.of kp).trans k2_set, (cask_set c1 hf).mono (by omega)⟩
    generalize ws.map D.str = wl at *
    unfold bodyD
    simp -implicitDefEqProofs [nng, nnn, nnl, e_dAppend, app1_ok hS, e1, app2_ok hS1 hz]
  · have e : lawS "leader" = "leader" := by decide +kernel
    rw [e]
    obtain ⟨v, S0, e0, v0, v1, kp0, c0⟩ := tap c (by omega) (span := 2) (by omega) (by omega)
    have hS0 : S0[f]? = some (.lst acc) := kp0.2 f hf _ hS
    have hl0 : f < S0.length := (List.getElem?_eq_some_iff.mp hS0).1
    by_cases hv : v = 0
    · refine ⟨.non, S0.set f (.lst (acc ++ [.non])), a5, a6, a7, ?_, .inr (.inr (.inl ⟨rfl, .inl rfl⟩)), by rw [List.getElem?_set_self hl0], (K2.of kp0).trans k2_set, (cask_set c0 hf).mono (by omega)⟩
      generalize ws.map D.str = wl at *
      unfold bodyD
      simp -implicitDefEqProofs [nlg, nln, e_dAppend, app1_ok hS, e0, hv, app2_ok hS0 hz]
    · obtain ⟨n, S1, e1, hn, kp, c1⟩ := any_number c0 (by omega)
      have hS1 : S1[f]? = some (.lst acc) := kp.2 f hf _ hS0
      have hl : f < S1.length := (List.getElem?_eq_some_iff.mp hS1).1
      refine ⟨.int n, S1.set f (.lst (acc ++ [.int n])), a5, a6, a7, ?_, .inr (.inr (.inl ⟨rfl, .inr ⟨n, rfl, hn⟩⟩)), by rw [List.getElem?_set_self hl], (K2.of (kp0.trans kp)).trans k2_set, (cask_set c1 hf).mono (by omega)⟩
      generalize ws.map D.str = wl at *
      unfold bodyD
      simp -implicitDefEqProofs [nlg, nln, e_dAppend, app1_ok hS, e0, hv, e1, app2_ok hS1 hz]
  · have e : lawS "ghosts" = "ghosts" := by decide +kernel
    rw [e]
    have hll : l < S.length := by obtain ⟨_, _, _, h, _⟩ := c; exact (List.getElem?_eq_some_iff.mp h).1
    have cg : CaskOk N (S ++ [.lst []]) l := cask_pre1 c
    obtain ⟨v, S0, e0, v0, v1, kp0, c0⟩ := tap cg (by omega) (span := 7) (by omega) (by omega)
    obtain ⟨m, rfl⟩ := Int.eq_ofNat_of_zero_le v0
    have g0 : (S ++ [SO.lst []])[S.length]? = some (.lst (intL [])) := by simp [intL]
    have hne : S.length ≠ l := Nat.ne_of_gt hll
    have hg0 : S0[S.length]? = some (.lst (intL [])) := kp0.2 _ hne _ g0
    obtain ⟨ns, S1, o5, o7, e1, r1, r2, r3, r4, r5, r6⟩ := g_loop (l := l) (g := S.length) hne (some (.lst (ws.map .str))) a2 (some (.ref f)) (some (.str "ghosts")) m 0 (N + 1) 0 [] S0 a7 c0 (by omega) hg0 rfl (by omega) rfl (fun x h => by cases h) (by omega)
    have k1 : K2 l S.length (S ++ [.lst []]) S1 := (K2.of kp0).trans r5
    have kp1 := kp_of_k2 k1
    have hS1 : S1[f]? = some (.lst acc) := kp1.2 f hf _ hS
    have hl : f < S1.length := (List.getElem?_eq_some_iff.mp hS1).1
    have hz2 : (intL ns).length ≤ 1000 := by simp [intL]; omega
    refine ⟨.tup (intL ns), S1.set f (.lst (acc ++ [.tup (intL ns)])), o5, some (.ref S.length), o7, ?_, .inr (.inr (.inr ⟨rfl, intL ns, rfl, by simp [intL]; exact r2, fun x hm => ?_, r3⟩)), by rw [List.getElem?_set_self hl], (K2.of kp1).trans k2_set, (cask_set r6 hf).mono (by omega)⟩
    · have hr : ∀ S, rngR [.int (m : Int)] S = .ok (rngF 0 m) S := fun S => by rw [rngR_nat (by omega), rngF_0]
      have tp : tupleD S1 [.ref S.length] = some (.tup (intL ns)) := by simp [tupleD, r1]
      have z00 : ((0 : Nat) : Int) = 0 := rfl
      rw [z00] at e1
      generalize ws.map D.str = wl at *
      generalize rngF 0 m = rg at *
      unfold bodyD
      have z0 : ∀ r : R D, sized [] r = r := fun r => sized_of (by simp)
      simp -implicitDefEqProofs [-loop_cons, ngn, z0, e0, hr, e1, e_dAppend, app1_ok hS1, tp, app2_ok hS1 hz]
    · obtain ⟨n, hn, rfl⟩ := List.mem_map.mp hm
      exact sm_nat (r4 n hn)
end K51
namespace K51
open PySem L2 Tok
theorem deed_loop {l f : Nat} (hf : f ≠ l) {ws : List Str} (hw : ∀ w ∈ ws, isName w = true) (hw0 : 0 < ws.length) (hw1 : ws.length ≤ 100) (a2 : Option D) : ∀ (ss : List Str) (N : Nat) (acc : List D) (S : Sto) (a4 a5 a6 a7 : Option D), (∀ s ∈ ss, s ∈ sortsAll) → CaskOk N S l → N + 20 * ss.length ≤ 890000 → S[f]? = some (.lst acc) → acc.length + ss.length ≤ 50 →
    ∃ (ps : List D) (S' : Sto) (o4 o5 o6 o7 : Option D), loopD (tgName 4) bodyD ((ss.map lawS).map .str) [some (.ref l), some (.lst (ws.map .str)), a2, some (.ref f), a4, a5, a6, a7] S = .ok (.nx [some (.ref l), some (.lst (ws.map .str)), a2, some (.ref f), o4, o5, o6, o7]) S' ∧
      goodAll ss ps ∧ S'[f]? = some (.lst (acc ++ ps)) ∧ K2 l f S S' ∧ CaskOk (N + 20 * ss.length) S' l
  | [], N, acc, S, a4, a5, a6, a7, _, c, _, hS, _ => ⟨[], S, a4, a5, a6, a7, rfl, trivial, by simpa using hS, K2.of (Kp.refl _ _), c⟩
  | s :: ss, N, acc, S, a4, a5, a6, a7, hs, c, hN, hS, ha => by
    simp only [List.length_cons] at hN ha
    obtain ⟨p, S1, b5, b6, b7, e1, g1, h1, k1, c1⟩ := deed_turn c (by omega) hf hS (by omega) hw hw0 hw1 (hs s List.mem_cons_self) a2 a5 a6 a7
    obtain ⟨ps, S2, o4, o5, o6, o7, e2, g2, h2, k2, c2⟩ := deed_loop hf hw hw0 hw1 a2 ss (N + 20) (acc ++ [p]) S1 (some (.str (lawS s))) b5 b6 b7 (fun t ht => hs t (List.mem_cons_of_mem _ ht)) c1 (by omega) h1 (by simp; omega)
    refine ⟨p :: ps, S2, o4, o5, o6, o7, ?_, ⟨g1, g2⟩, by rw [h2, List.append_assoc]; rfl, k1.trans k2, c2.mono (by simp; omega)⟩
    rw [List.map_cons, List.map_cons, loop_cons, e_tgName, loopO_some]
    show loopK _ _ _ (bodyD [some (.ref l), some (.lst (ws.map .str)), a2, some (.ref f), some (.str (lawS s)), a5, a6, a7] S) = _
    rw [e1, loopK_nx, e2]
theorem words_tab {w : Str} (h : w ∈ wordsL) : ∃ ss, sortTab.lookup w = some ss := by
  cases e : sortTab.lookup w with
  | some ss => exact ⟨ss, rfl⟩
  | none => exact absurd h (lookup_none e)
theorem words_len : wordsL.length = 12 := by decide
theorem any_deed {N l : Nat} {S : Sto} (c : CaskOk N S l) (hN : N ≤ 880000) {ws : List Str} (hw : ∀ w ∈ ws, isName w = true) (hw0 : 0 < ws.length) (hw1 : ws.length ≤ 100) :
    ∃ (d : D) (S' : Sto), f_law_any_deed [.ref l, .lst (ws.map .str)] S = .ok d S' ∧ goodD d ∧ Kp l S S' ∧ CaskOk (N + 100) S' l := by
  have hll : l < S.length := by obtain ⟨_, _, _, h, _⟩ := c; exact (List.getElem?_eq_some_iff.mp h).1
  obtain ⟨v, S1, e1, v0, v1, kp, c1⟩ := tap c (by omega) (span := 12) (by omega) (by omega)
  obtain ⟨w, hm, ea⟩ := strs_at (ws := wordsL) v0 (by rw [words_len]; exact v1)
  obtain ⟨ss, hss⟩ := words_tab hm
  have sl : ss.length ≤ 4 ∧ ∀ s ∈ ss, s ∈ sortsAll := tab_sorts _ (lookup_mem hss)
  have ls := law_sorts hss
  have hl1 := kp.1
  have hne : S1.length ≠ l := by omega
  obtain ⟨ps, S2, o4, o5, o6, o7, e2, g2, h2, k2, c2⟩ := deed_loop hne hw hw0 hw1 (some (.str w)) ss (N + 1) [.str w] (S1 ++ [.lst [.str w]]) none none none none sl.2 (cask_pre1 c1) (by omega) (by simp) (by simp; omega)
  refine ⟨.tup (.str w :: ps), S2, ?_, ⟨w, ss, ps, rfl, hss, g2⟩, kp.trans (kp_of_k2 k2), c2.mono (by omega)⟩
  have lw : ∀ S, f_law_deed_words [] S = .ok (.lst (wordsL.map .str)) S := law_words
  have tp : tupleD S2 [.ref S1.length] = some (.tup (.str w :: ps)) := by simp [tupleD, h2]
  have hls : ∀ S, f_law_sorts [.str w] S = .ok (.tup ((ss.map lawS).map .str)) S := ls
  have hdef : f_law_any_deed = dFn 8 (sSeq (sAsg (dOp2 ixD (dCall f_law_deed_words aNil) (dCall f_law_tap (aCons (dVar 0) (aCons (dC (.int 12)) aNil)))) (tgName 2)) (sSeq (sAsg (dLstS (aCons (dVar 2) aNil)) (tgName 3)) (sSeq (sFor (iAny (dCall f_law_sorts (aCons (dVar 2) aNil))) (tgName 4) bodyD) (sSeq (sRet (dOpN tupleD (aCons (dVar 3) aNil))) sNext)))) := rfl
  rw [hdef]
  have z1 : ∀ (x : D) (r : R D), sized [x] r = r := fun x r => sized_of (by simp)
  generalize ws.map D.str = wl at *
  generalize wordsL.map D.str = wd at *
  generalize (ss.map lawS).map D.str = sd at *
  simp only [dFn_eq, start_eq]
  simp -implicitDefEqProofs [-loop_cons, lw, e1, ixD, ea, z1, hls, e2, tp]
end K51
namespace K51
open PySem L2 Tok
/-! ## a deed is bent -/
theorem good_sm {d : D} (h : goodD d) : ∃ xs, d = .tup xs ∧ xs.length ≤ 5 ∧ 0 < xs.length ∧ ∀ x ∈ xs, smV 2 x := by
  obtain ⟨w, ss, ps, rfl, hw, g⟩ := h
  have hl : ss.length ≤ 4 := (tab_sorts _ (lookup_mem hw)).1
  have gl := g.len
  have all : ∀ {ss : List Str} {ps : List D}, goodAll ss ps → ∀ p ∈ ps, smV 2 p := by
    intro ss
    induction ss with
    | nil => intro ps g p hp; cases ps with
      | nil => cases hp
      | cons _ _ => exact g.elim
    | cons s ss ih => intro ps g p hp; cases ps with
      | nil => cases hp
      | cons q qs =>
        rcases List.mem_cons.mp hp with rfl | hp
        · have num : ∀ {m n : Nat}, n < 10 ^ 30 → smV m (.int (n : Int)) := fun {m n} hn => by
            cases m <;> (show ((n : Nat) : Int).natAbs < 10 ^ 30; omega)
          rcases g.1 with ⟨_, z, rfl, hz⟩ | ⟨_, n, rfl, hn⟩ | ⟨_, rfl | ⟨n, rfl, hn⟩⟩ | ⟨_, xs, rfl, hl, hx, ha⟩
          · simp [isName] at hz
            show z.length ≤ 1000
            omega
          · exact num hn
          · trivial
          · exact num hn
          · exact ⟨hl, fun x hm => by obtain ⟨n, rfl, hn⟩ := hx x hm; exact num hn⟩
        · exact ih g.2 p hp
  have h1 : w.length ≤ 10 := word_len _ (lookup_mem hw)
  refine ⟨_, rfl, by simp; omega, by simp, fun x hx => ?_⟩
  rcases List.mem_cons.mp hx with rfl | hx
  · show w.length ≤ 1000
    omega
  · exact all g x hx
theorem any_at {L : List D} {v : Int} (h0 : 0 ≤ v) (h1 : v < L.length) : ∃ x, x ∈ L ∧ atI L v = some x := by
  obtain ⟨n, rfl⟩ := Int.eq_ofNat_of_zero_le h0
  have hn : n < L.length := by omega
  exact ⟨L[n], List.getElem_mem hn, atI_nat hn⟩
theorem add_tup {S : Sto} {a b : List D} (h : a.length + b.length ≤ 1000) : addE S (.tup a) (.tup b) = some (.tup (a ++ b)) := by
  show (if _ then _ else _) = _
  rw [if_pos (small (by omega))]
theorem add_lst {S : Sto} {a b : List D} (h : a.length + b.length ≤ 1000000) : addE S (.lst a) (.lst b) = some (.lst (a ++ b)) := by
  show (if _ then _ else _) = _
  rw [if_pos (small h)]
theorem sl_to {xs : List D} {k : Nat} : slD (.tup xs) none (some (k : Int)) = some (.tup (xs.take k)) := by simp only [slD, cut_to]
theorem sl_from {xs : List D} {k : Nat} : slD (.tup xs) (some (k : Int)) none = some (.tup (xs.drop k)) := by simp only [slD, cut_from]
def oddL : List D := [.non, .int (-1), .bl true, .str "1", .str "", .str "A", .tup [.int 0, .int 0], .tup [.int 1, .int 0], .tup [.bl true], .lst [.int 0], .str "none", .tup [], .int 1, .tup [.int 0, .str "1"], .tup [.int 0, .non], .tup [.lst [.int 0], .int 1]]
theorem sm_tup {n : Nat} {xs : List D} (h : xs.length ≤ 10) (hx : ∀ x ∈ xs, smV n x) : smV (n + 1) (.tup xs) := ⟨h, hx⟩
theorem sm_i {n : Nat} {i : Int} (h : i.natAbs < 1000) : smV n (.int i) := by cases n <;> (show i.natAbs < 10 ^ 30; omega)
theorem sm_s {n : Nat} {s : Str} (h : s.length ≤ 10) : smV n (.str s) := by cases n <;> (show s.length ≤ 1000; omega)
theorem odd_sm : ∀ x ∈ oddL, smV 2 x := by
  intro x hx
  simp only [oddL, List.mem_cons, List.not_mem_nil, or_false] at hx
  rcases hx with rfl | rfl | rfl | rfl | rfl | rfl | rfl | rfl | rfl | rfl | rfl | rfl | rfl | rfl | rfl | rfl <;> simp [smV] <;> decide +kernel
theorem sm_app {xs ys : List D} (hx : ∀ x ∈ xs, smV 2 x) (hy : ∀ x ∈ ys, smV 2 x) : ∀ x ∈ xs ++ ys, smV 2 x := fun x h => by
  rcases List.mem_append.mp h with h | h
  · exact hx x h
  · exact hy x h
theorem sm_one {x : D} (h : smV 2 x) : ∀ y ∈ [x], smV 2 y := fun y hy => by
  simp only [List.mem_cons, List.not_mem_nil, or_false] at hy
  subst hy
  exact h
def someL (xs : List D) : List D := [.lst xs, .non, .str "begin", .int 3, .tup [.tup []], .tup [.str "Put", .str "a"], .tup (.lst [] :: xs.drop 1), .tup (.tup [] :: xs.drop 1), .tup (.non :: xs.drop 1), .tup (.int 3 :: xs.drop 1), .tup [.lst [.str "put"], .str "a"], .bl true]
theorem some_sm {xs : List D} (h5 : xs.length ≤ 5) (hx : ∀ x ∈ xs, smV 2 x) : ∀ x ∈ someL xs, smV 3 x := by
  intro x hm
  have hd : ∀ y : D, smV 2 y → smV 3 (.tup (y :: xs.drop 1)) := fun y hy => sm_tup (by simp; omega) fun z hz => by
    rcases List.mem_cons.mp hz with rfl | hz
    · exact hy
    · exact hx z (List.mem_of_mem_drop hz)
  simp only [someL, List.mem_cons, List.not_mem_nil, or_false] at hm
  rcases hm with rfl | rfl | rfl | rfl | rfl | rfl | rfl | rfl | rfl | rfl | rfl | rfl
  · exact ⟨by omega, hx⟩
  · trivial
  · exact sm_s (by decide +kernel)
  · exact sm_i (by decide)
  · exact sm_tup (by simp) fun z hz => by
      simp only [List.mem_cons, List.not_mem_nil, or_false] at hz
      subst hz
      exact sm_tup (by simp) fun z hz => by cases hz
  · exact sm_tup (by simp) fun z hz => by
      simp only [List.mem_cons, List.not_mem_nil, or_false] at hz
      rcases hz with rfl | rfl <;> exact sm_s (by decide +kernel)
  · exact hd _ ⟨by simp, fun z hz => by cases hz⟩
  · exact hd _ ⟨by simp, fun z hz => by cases hz⟩
  · exact hd _ trivial
  · exact hd _ (sm_i (by decide))
  · exact sm_tup (by simp) fun z hz => by
      simp only [List.mem_cons, List.not_mem_nil, or_false] at hz
      rcases hz with rfl | rfl
      · exact ⟨by simp, fun z hz => by
          simp only [List.mem_cons, List.not_mem_nil, or_false] at hz
          subst hz
          exact sm_s (by decide +kernel)⟩
      · exact sm_s (by decide +kernel)
  · trivial
theorem bent_deed {N l : Nat} {S : Sto} (c : CaskOk N S l) (hN : N ≤ 880000) {d : D} (hd : goodD d) : ∃ (b : D) (S' : Sto), f_law_bent_deed [.ref l, d] S = .ok b S' ∧ smV 3 b ∧ Kp l S S' ∧ CaskOk (N + 5) S' l := by
  obtain ⟨xs, rfl, h5, h0, hx⟩ := good_sm hd
  obtain ⟨v, S1, e1, v0, v1, kp1, c1⟩ := tap c (by omega) (span := (xs.length : Int) + 1) (by omega) (by omega)
  obtain ⟨k, rfl⟩ := Int.eq_ofNat_of_zero_le v0
  obtain ⟨w, S2, e2, w0, w1, kp2, c2⟩ := tap c1 (by omega) (span := 4) (by omega) (by omega)
  have kp12 := kp1.trans kp2
  have ll : ∀ S, lenD S [.tup xs] = some (.int (xs.length : Int)) := fun _ => rfl
  have ne : ∀ S, negD S (.int 1) = some (.int (-1)) := fun _ => rfl
  have zz : ∀ (ys : List D) (r : R D), ys.length ≤ 1000 → sized ys r = r := fun ys r h => sized_of h
  have ck : ((k + 1 : Nat) : Int) = (k : Int) + 1 := by omega
  have s1 : slD (.tup xs) none (some (k : Int)) = some (.tup (xs.take k)) := sl_to
  have s2 : slD (.tup xs) (some ((k : Int) + 1)) none = some (.tup (xs.drop (k + 1))) := by rw [← ck]; exact sl_from
  have s3 : slD (.tup xs) (some 1) none = some (.tup (xs.drop 1)) := sl_from (k := 1)
  have t1 : (xs.take k).length ≤ 5 := by simp; omega
  have t2 : (xs.drop (k + 1)).length ≤ 5 := by simp; omega
  have t3 : (xs.take k).length + (xs.drop (k + 1)).length ≤ 5 := by simp; omega
  have m1 : ∀ x ∈ xs.take k, smV 2 x := fun x h => hx x (List.mem_of_mem_take h)
  have m2 : ∀ x ∈ xs.drop (k + 1), smV 2 x := fun x h => hx x (List.mem_of_mem_drop h)
  have eo : ∀ S, addE S (.lst [.non, .int (-1), .bl true, .str "1", .str "", .str "A", .tup [.int 0, .int 0], .tup [.int 1, .int 0], .tup [.bl true], .lst [.int 0], .str "none", .tup [], .int 1]) (.lst [.tup [.int 0, .str "1"], .tup [.int 0, .non], .tup [.lst [.int 0], .int 1]]) = some (.lst oddL) := fun S => by
    rw [add_lst (by simp)]; rfl
  have el : listD S2 [.tup xs] = some (.lst xs) := rfl
  have pick : ∀ {M : Nat} {S : Sto}, CaskOk M S l → M ≤ 890000 → ∃ (x : D) (v : Int) (S' : Sto), f_law_tap [.ref l, .int 16] S = .ok (.int v) S' ∧ atI oddL v = some x ∧ smV 2 x ∧ Kp l S S' ∧ CaskOk (M + 1) S' l := fun {M S} c hM => by
    obtain ⟨v, S', e, v0, v1, kp, c'⟩ := tap c (by omega) (span := 16) (by omega) (by omega)
    obtain ⟨x, hm, ea⟩ := any_at (L := oddL) v0 (by simpa [oddL] using v1)
    exact ⟨x, v, S', e, ea, odd_sm x hm, kp, c'⟩
  by_cases h0 : w = 0
  · obtain ⟨x, v, S3, e3, ea, hxs, kp3, c3⟩ := pick c2 (by omega)
    have a1 : addE S3 (.tup (xs.take k)) (.tup [x]) = some (.tup (xs.take k ++ [x])) := add_tup (by simp; omega)
    have a2 : addE S3 (.tup (xs.take k ++ [x])) (.tup (xs.drop (k + 1))) = some (.tup (xs.take k ++ [x] ++ xs.drop (k + 1))) := add_tup (by simp; omega)
    refine ⟨.tup (xs.take k ++ [x] ++ xs.drop (k + 1)), S3, ?_, sm_tup (by simp only [List.length_append, List.length_cons, List.length_nil]; omega) (sm_app (sm_app m1 (sm_one hxs)) m2), kp12.trans kp3, c3.mono (by omega)⟩
    generalize oddL = ol at *
    generalize xs.take k = tk at *
    generalize xs.drop (k + 1) = dk at *
    simp only [f_law_bent_deed, dFn_eq, start_eq]
    simp -implicitDefEqProofs [ll, e1, e2, ne, sized_of, eo, h0, s1, s2, e3, ixD, ea, a1, a2]
  by_cases h1 : w = 1
  · have a2 : addE S2 (.tup (xs.take k)) (.tup (xs.drop (k + 1))) = some (.tup (xs.take k ++ xs.drop (k + 1))) := add_tup (by omega)
    refine ⟨.tup (xs.take k ++ xs.drop (k + 1)), S2, ?_, sm_tup (by simp only [List.length_append]; omega) (sm_app m1 m2), kp12, c2.mono (by omega)⟩
    generalize oddL = ol at *
    generalize xs.take k = tk at *
    generalize xs.drop (k + 1) = dk at *
    simp only [f_law_bent_deed, dFn_eq, start_eq]
    simp -implicitDefEqProofs [ll, e1, e2, ne, sized_of, eo, h1, s1, s2, a2]
  by_cases h2 : w = 2
  · obtain ⟨x, v, S3, e3, ea, hxs, kp3, c3⟩ := pick c2 (by omega)
    have a1 : addE S3 (.tup xs) (.tup [x]) = some (.tup (xs ++ [x])) := add_tup (by simp; omega)
    refine ⟨.tup (xs ++ [x]), S3, ?_, sm_tup (by simp only [List.length_append, List.length_cons, List.length_nil]; omega) (sm_app hx (sm_one hxs)), kp12.trans kp3, c3.mono (by omega)⟩
    generalize oddL = ol at *
    generalize xs.take k = tk at *
    generalize xs.drop (k + 1) = dk at *
    simp only [f_law_bent_deed, dFn_eq, start_eq]
    simp -implicitDefEqProofs [ll, e1, e2, ne, sized_of, eo, h2, s1, s2, e3, ixD, ea, a1]
  · obtain ⟨v, S3, e3, v0, v1, kp3, c3⟩ := tap c2 (by omega) (span := 12) (by omega) (by omega)
    obtain ⟨x, hm, ea⟩ := any_at (L := someL xs) v0 (by simpa [someL] using v1)
    refine ⟨x, S3, ?_, some_sm h5 hx x hm, kp12.trans kp3, c3.mono (by omega)⟩
    have t4 : (xs.drop 1).length ≤ 5 := by simp; omega
    have a3 : ∀ (S : Sto) (y : D), addE S (.tup [y]) (.tup (xs.drop 1)) = some (.tup (y :: xs.drop 1)) := fun S y => by rw [add_tup (by simp; omega)]; rfl
    have a4 : ∀ S, addE S (.lst [.lst xs, .non, .str "begin", .int 3, .tup [.tup []], .tup [.str "Put", .str "a"]]) (.lst [.tup (.lst [] :: xs.drop 1), .tup (.tup [] :: xs.drop 1), .tup (.non :: xs.drop 1), .tup (.int 3 :: xs.drop 1)]) =
      some (.lst [.lst xs, .non, .str "begin", .int 3, .tup [.tup []], .tup [.str "Put", .str "a"], .tup (.lst [] :: xs.drop 1), .tup (.tup [] :: xs.drop 1), .tup (.non :: xs.drop 1), .tup (.int 3 :: xs.drop 1)]) := fun S => by rw [add_lst (by simp)]; rfl
    have a5 : ∀ S, addE S (.lst [.lst xs, .non, .str "begin", .int 3, .tup [.tup []], .tup [.str "Put", .str "a"], .tup (.lst [] :: xs.drop 1), .tup (.tup [] :: xs.drop 1), .tup (.non :: xs.drop 1), .tup (.int 3 :: xs.drop 1)]) (.lst [.tup [.lst [.str "put"], .str "a"], .bl true]) = some (.lst (someL xs)) := fun S => by rw [add_lst (by simp)]; rfl
    generalize oddL = ol at *
    generalize someL xs = sm at *
    generalize xs.drop 1 = d1 at *
    simp only [f_law_bent_deed, dFn_eq, start_eq]
    simp -implicitDefEqProofs [ll, e1, e2, ne, sized_of, eo, h0, h1, h2, el, s3, a3, a4, a5, e3, ixD, ea]
end K51
namespace K51
open PySem L2 Tok
/-! ## a text is bent -/
theorem cutS_len (z : Str) (lo hi : Option Int) : (cutS z lo hi).length ≤ z.length := by
  unfold cutS Str.length
  simp
  omega
theorem sl_str {z : Str} (h : z.length ≤ 1000000) (lo hi : Option Int) : slD (.str z) lo hi = some (.str (cutS z lo hi)) := by
  unfold slD
  dsimp only
  rw [if_pos (Nat.le_trans h (by decide))]
theorem add_str {S : Sto} {a b : Str} (h : a.length + b.length ≤ 1000000) : addE S (.str a) (.str b) = some (.str (a ++ b)) := by
  have e : addE S (.str a) (.str b) = addD S (.str a) (.str b) := rfl
  rw [e]
  unfold addD
  dsimp only
  rw [if_pos (Nat.le_trans h (by decide))]
def signL : List Str := [" ", "0", "1", ",", "-", "a", "\n", "x", "none", "\t", "_", "+"]
def bentS (x : D) : Prop := (∃ t, x = .str t ∧ t.length ≤ lineMax) ∨ ∀ S, isiD OWN .str S x = some (.bl false)
theorem e_upperD {m : Den} {ρ : Tok.Env} {S : Sto} {z : Str} (hz : z.length ≤ 1000000) (h : m ρ S = .ok (.str z) S) : upperD m ρ S = .ok (.str (Txt.upper z)) S := by
  unfold upperD
  rw [h]
  simp
  omega
theorem bent_text {N l : Nat} {S : Sto} (c : CaskOk N S l) (hN : N ≤ 880000) {z : Str} (hz : z.length ≤ 100000) : ∃ (x : D) (S' : Sto), f_law_bent_text [.ref l, .str z] S = .ok x S' ∧ bentS x ∧ Kp l S S' ∧ CaskOk (N + 5) S' l := by
  obtain ⟨k, S1, e1, k0, k1, kp1, c1⟩ := tap c (by omega) (span := (z.length : Int) + 1) (by omega) (by omega)
  obtain ⟨w, S2, e2, w0, w1, kp2, c2⟩ := tap c1 (by omega) (span := 4) (by omega) (by omega)
  obtain ⟨v, S3, e3, v0, v1, kp3, c3⟩ := tap c2 (by omega) (span := 12) (by omega) (by omega)
  obtain ⟨sg, hs, ea⟩ := strs_at (ws := signL) v0 (by simpa [signL] using v1)
  have kp := kp1.trans (kp2.trans kp3)
  have hsl : sg.length ≤ 4 := (show ∀ s ∈ signL, s.length ≤ 4 by decide +kernel) sg hs
  have ll : ∀ S, lenD S [.str z] = some (.int (z.length : Int)) := fun S => by simp [lenD, small (show z.length ≤ 1000000 by omega)]
  have sl := sl_str (z := z) (by omega)
  have q1 := cutS_len z none (some k)
  have q2 := cutS_len z (some k) none
  have q3 := cutS_len z (some (k + 1)) none
  have esg : [D.str " ", .str "0", .str "1", .str ",", .str "-", .str "a", .str "\n", .str "x", .str "none", .str "\t", .str "_", .str "+"] = signL.map .str := rfl
  have zg : ∀ r : R D, sized (signL.map D.str) r = r := fun r => sized_of (by simp [signL])
  by_cases h0 : w = 0
  · have a1 : ∀ S, addE S (.str (cutS z none (some k))) (.str sg) = some (.str (cutS z none (some k) ++ sg)) := fun S => add_str (by omega)
    have a2 : ∀ S, addE S (.str (cutS z none (some k) ++ sg)) (.str (cutS z (some k) none)) = some (.str (cutS z none (some k) ++ sg ++ cutS z (some k) none)) := fun S => add_str (by rw [Str.length_append]; omega)
    refine ⟨.str (cutS z none (some k) ++ sg ++ cutS z (some k) none), S3, ?_, .inl ⟨_, rfl, by rw [Str.length_append, Str.length_append]; show _ ≤ 900000; omega⟩, kp, c3.mono (by omega)⟩
    simp only [f_law_bent_text, dFn_eq, start_eq]
    simp -implicitDefEqProofs [ll, e1, e2, esg, zg, e3, ixD, ea, h0, sl, a1, a2]
  by_cases h1 : w = 1
  · have a1 : ∀ S, addE S (.str (cutS z none (some k))) (.str (cutS z (some (k + 1)) none)) = some (.str (cutS z none (some k) ++ cutS z (some (k + 1)) none)) := fun S => add_str (by omega)
    refine ⟨.str (cutS z none (some k) ++ cutS z (some (k + 1)) none), S3, ?_, .inl ⟨_, rfl, by rw [Str.length_append]; show _ ≤ 900000; omega⟩, kp, c3.mono (by omega)⟩
    simp only [f_law_bent_text, dFn_eq, start_eq]
    simp -implicitDefEqProofs [ll, e1, e2, esg, zg, e3, ixD, ea, h1, sl, a1]
  by_cases h2 : w = 2
  · have a1 : ∀ S, addE S (.str (cutS z none (some k))) (.str sg) = some (.str (cutS z none (some k) ++ sg)) := fun S => add_str (by omega)
    have a2 : ∀ S, addE S (.str (cutS z none (some k) ++ sg)) (.str (cutS z (some (k + 1)) none)) = some (.str (cutS z none (some k) ++ sg ++ cutS z (some (k + 1)) none)) := fun S => add_str (by rw [Str.length_append]; omega)
    refine ⟨.str (cutS z none (some k) ++ sg ++ cutS z (some (k + 1)) none), S3, ?_, .inl ⟨_, rfl, by rw [Str.length_append, Str.length_append]; show _ ≤ 900000; omega⟩, kp, c3.mono (by omega)⟩
    simp only [f_law_bent_text, dFn_eq, start_eq]
    simp -implicitDefEqProofs [ll, e1, e2, esg, zg, e3, ixD, ea, h2, sl, a1, a2]
  · obtain ⟨u, S4, e4, u0, u1, kp4, c4⟩ := tap c3 (by omega) (span := 6) (by omega) (by omega)
    have hup := PyProof.Rows.len_upper z
    have n1 : ("\n" : Str).length = 1 := nl_len
    have n2 : (" " : Str).length = 1 := spc_len
    obtain ⟨x, hm, ex⟩ := any_at (L := [.str (z ++ "\n"), .str "", .str (Txt.upper z), .str (" " ++ z), .non, .lst [.str z]]) u0 (by simpa using u1)
    have a1 : ∀ S, addE S (.str z) (.str "\n") = some (.str (z ++ "\n")) := fun S => add_str (by omega)
    have a2 : ∀ S, addE S (.str " ") (.str z) = some (.str (" " ++ z)) := fun S => add_str (by omega)
    have up : ∀ (ρ : Tok.Env) S, ρ[1]? = some (some (.str z)) → upperD (dVar 1) ρ S = .ok (.str (Txt.upper z)) S := fun ρ S h => e_upperD (by omega) (by simp [h])
    refine ⟨x, S4, ?_, ?_, kp.trans kp4, c4.mono (by omega)⟩
    · simp only [f_law_bent_text, dFn_eq, start_eq]
      simp -implicitDefEqProofs [ll, e1, e2, esg, zg, e3, ixD, ea, h0, h1, h2, a1, a2, up, e4, sized_of, ex]
    · simp only [List.mem_cons, List.not_mem_nil, or_false] at hm
      rcases hm with rfl | rfl | rfl | rfl | rfl | rfl
      · exact .inl ⟨_, rfl, by rw [Str.length_append]; show _ ≤ 900000; omega⟩
      · exact .inl ⟨_, rfl, by decide +kernel⟩
      · exact .inl ⟨_, rfl, by show _ ≤ 900000; omega⟩
      · exact .inl ⟨_, rfl, by rw [Str.length_append]; show _ ≤ 900000; omega⟩
      · exact .inr fun S => rfl
      · exact .inr fun S => rfl
end K51
namespace K51
open PySem L2 Tok
/-! ## _law_deed_right -/
theorem notN (S : Sto) (r : D) : notND S r .non = some (.bl (!isNonB r)) := by cases r <;> rfl
theorem said_good {w : Int} (hw : w = 0 ∨ w = 1) {d : D} (h : goodD d) (S : Sto) : f_law_said [.int w, d] S = .ok (fineD (.str (deedT d))) S :=
  said_ok (by rw [asked_deed hw]; exact show_deed_good h (good_ok h) (good_deed h) S)
theorem said_bent {w : Int} (hw : w = 0 ∨ w = 1) {d : D} (h : smV 3 d) (hb : deedB d = false) (S : Sto) : f_law_said [.int w, d] S = .ok (.str "deed") S :=
  said_deed (by rw [asked_deed hw]; exact show_deed_bad (sm_ok 3 d h) hb S)
def lineA (z : Str) : D := if isNonB (lineD z) = true then atD (.int 0) else fineD (lineD z)
theorem said_line {w : Int} (hw : w = 4 ∨ w = 5) {z : Str} (h : z.length ≤ lineMax) (S : Sto) : f_law_said [.int w, .str z] S = .ok (lineA z) S := by
  unfold lineA
  cases c : isNonB (lineD z) with
  | true => exact said_at (by rw [asked_rdeed hw]; exact read_deed_bad h c S)
  | false => exact said_ok (by rw [asked_rdeed hw]; exact read_deed_good h c S)
theorem said_odd {w : Int} (hw : w = 4 ∨ w = 5) {x : D} (h : ∀ S, isiD OWN .str S x = some (.bl false)) (S : Sto) : f_law_said [.int w, x] S = .ok (atD (.int 0)) S :=
  said_at (by rw [asked_rdeed hw]; exact read_deed_odd h S)
theorem line_good {d : D} (h : goodD d) : lineA (deedT d) = fineD d := by
  unfold lineA
  rw [deed_back h]
  obtain ⟨w, ss, ps, rfl, _, _⟩ := h
  rfl
theorem plain_two {n : Nat} {xs : List D} (hl : xs.length ≤ 1000) (h : ∀ x ∈ xs, plainD n x) : plainD (n + 1) (.lst xs) := ⟨by omega, h⟩
theorem plain_fine {n : Nat} {x : D} (h : plainD n x) : plainD (n + 1) (fineD x) := ⟨by simp, fun y hy => by
  simp only [List.mem_cons, List.not_mem_nil, or_false] at hy
  rcases hy with rfl | rfl
  · cases n <;> trivial
  · exact h⟩
theorem plain_at {n : Nat} {x : D} (h : plainD n x) : plainD (n + 1) (atD x) := ⟨by simp, fun y hy => by
  simp only [List.mem_cons, List.not_mem_nil, or_false] at hy
  rcases hy with rfl | rfl
  · cases n <;> trivial
  · exact h⟩
theorem plain_pair {n : Nat} {x : D} (h : plainD n x) : plainD (n + 1) (.lst [x, x]) := ⟨by simp, fun y hy => by
  simp only [List.mem_cons, List.not_mem_nil, or_false, or_self] at hy
  subst hy
  exact h⟩
theorem agree_same (n m : Nat) (h : n ≤ m) {x : D} (p : plainD n x) (S : Sto) : f_law_agree (m + 1) [x, x] S = .ok (.bl true) S := agree_ok m x x S (agR_refl S m x (plain_mono n m x h p))
theorem plain_lineA {z : Str} (h : z.length ≤ lineMax) : plainD 3 (lineA z) := by
  unfold lineA
  split
  · exact plain_at (plain_mono 0 2 (.int 0) (by decide) trivial)
  · exact plain_fine (plain_line h)
theorem deed_right {N l : Nat} {S : Sto} (c : CaskOk N S l) (hN : N ≤ 870000) {d : D} (hd : goodD d) : ∃ S', f_law_deed_right [.ref l, d] S = .ok (.bl true) S' ∧ Kp l S S' ∧ CaskOk (N + 20) S' l := by
  obtain ⟨b, S1, e1, hb, kp1, c1⟩ := bent_deed c (by omega) hd
  have tl := deed_len hd
  obtain ⟨x, S2, e2, hx, kp2, c2⟩ := bent_text c1 (by omega) (z := deedT d) (by omega)
  have kp := kp1.trans kp2
  have dt := law_deed_text hd
  have s0 := said_good (.inl rfl) hd
  have s1 := said_good (.inr rfl) hd
  have tlm : (deedT d).length ≤ lineMax := Nat.le_trans tl (by decide)
  have s4 := said_line (.inl rfl) tlm
  have s5 := said_line (.inr rfl) tlm
  rw [line_good hd] at s4 s5
  have sz : ∀ (xs : List D) (r : R D), xs.length ≤ 1000 → sized xs r = r := fun xs r h => sized_of h
  have m2 : ∀ (S : Sto) (x : D), mulD S (.lst [x]) (.int 2) = some (.lst [x, x]) := fun S x => by
    simp [mulD, repL, small]
  have ad : ∀ (S : Sto) (x y : D), addE S (.lst [x, x]) (.lst [y, y]) = some (.lst [x, x, y, y]) := fun S x y => by rw [add_lst (by simp)]; rfl
  have pt : plainD 3 (fineD (.str (deedT d))) := plain_mono 1 3 _ (by decide) (plain_fine (n := 0) trivial)
  have pd : plainD 3 (fineD d) := plain_fine (plain_good hd)
  have ag1 : ∀ S, f_law_agree 8 [.lst [fineD (.str (deedT d)), fineD (.str (deedT d)), fineD d, fineD d], .lst [fineD (.str (deedT d)), fineD (.str (deedT d)), fineD d, fineD d]] S = .ok (.bl true) S := fun S => agree_same 4 7 (by decide) (plain_two (by simp) fun y hy => by
    simp only [List.mem_cons, List.not_mem_nil, or_false] at hy
    rcases hy with rfl | rfl | rfl | rfl
    · exact pt
    · exact pt
    · exact pd
    · exact pd) S
  -- the bent deed
  obtain ⟨r, hg, h1, h2, h3⟩ : ∃ r : D, (∀ S, dIfE (dTest (dCall f_law_deed_good (aCons (dVar 4) aNil))) (dTup (aCons (dC (.str "fine")) (aCons (dCall f_law_deed_text (aCons (dVar 4) aNil)) aNil))) (dC (.str "deed")) [some (.ref l), some d, some (.str (deedT d)), some (.lst [fineD (.str (deedT d)), fineD (.str (deedT d)), fineD d, fineD d]), some b, none, none, none] S = .ok r S) ∧ (∀ S, f_law_said [.int 0, b] S = .ok r S) ∧ (∀ S, f_law_said [.int 1, b] S = .ok r S) ∧ plainD 3 r := by
    have lg := law_deed (sm_ok 3 b hb)
    cases cb : deedB b with
    | true =>
      rw [cb] at lg
      have gb := good_of hb cb
      have lt := law_deed_text gb
      exact ⟨fineD (.str (deedT b)), fun S => by simp -implicitDefEqProofs [lg, lt, sized_of, fineD], said_good (.inl rfl) gb, said_good (.inr rfl) gb, plain_mono 1 3 _ (by decide) (plain_fine (n := 0) trivial)⟩
    | false =>
      rw [cb] at lg
      exact ⟨.str "deed", fun S => by simp -implicitDefEqProofs [lg], said_bent (.inl rfl) hb cb, said_bent (.inr rfl) hb cb, trivial⟩
  have ag2 : ∀ S, f_law_agree 8 [.lst [r, r], .lst [r, r]] S = .ok (.bl true) S := fun S => agree_same 4 7 (by decide) (plain_pair h3) S
  -- the bent text
  obtain ⟨y, u, S3, hy, hu, k1, k2, k3, kp3⟩ : ∃ (y u : D) (S3 : Sto), (dIfE (dTest (dOp1 (isiD OWN .str) (dVar 6))) (dCall f_law_line_deed (aCons (dVar 6) aNil)) (dC .non) [some (.ref l), some d, some (.str (deedT d)), some (.lst [fineD (.str (deedT d)), fineD (.str (deedT d)), fineD d, fineD d]), some b, some r, some x, none] S2 = .ok y S3) ∧
      (u = if isNonB y = true then atD (.int 0) else fineD y) ∧ (∀ S, f_law_said [.int 4, x] S = .ok u S) ∧ (∀ S, f_law_said [.int 5, x] S = .ok u S) ∧ plainD 3 u ∧ S2 <+: S3 := by
    rcases hx with ⟨t, rfl, ht⟩ | ho
    · obtain ⟨S3, e3, p3⟩ := law_line ht S2
      exact ⟨lineD t, lineA t, S3, by simp -implicitDefEqProofs [isi_ss, e3], rfl, said_line (.inl rfl) ht, said_line (.inr rfl) ht, plain_lineA ht, p3⟩
    · exact ⟨.non, atD (.int 0), S2, by simp -implicitDefEqProofs [ho], rfl, said_odd (.inl rfl) ho, said_odd (.inr rfl) ho, plain_at (plain_mono 0 2 (.int 0) (by decide) trivial), List.prefix_refl _⟩
  have ag3 : ∀ S, f_law_agree 8 [.lst [u, u], .lst [u, u]] S = .ok (.bl true) S := fun S => agree_same 4 7 (by decide) (plain_pair k3) S
  have hv : ∀ S, dIfE (dTest (dOp2 notND (dVar 7) (dC .non))) (dTup (aCons (dC (.str "fine")) (aCons (dVar 7) aNil))) (dTup (aCons (dC (.str "at")) (aCons (dC (.int 0)) aNil))) [some (.ref l), some d, some (.str (deedT d)), some (.lst [fineD (.str (deedT d)), fineD (.str (deedT d)), fineD d, fineD d]), some b, some r, some x, some y] S = .ok u S := fun S => by
    rw [hu]
    cases cy : isNonB y <;> simp -implicitDefEqProofs [notN, cy, sized_of, atD, fineD]
  refine ⟨S3, ?_, kp.trans (kp_pre kp3), (cask_pre c2 kp3).mono (by omega)⟩
  have ft : fineD (.str (deedT d)) = .tup [.str "fine", .str (deedT d)] := rfl
  have fd : fineD d = .tup [.str "fine", d] := rfl
  generalize hq1 : fineD (.str (deedT d)) = q1 at *
  generalize hq2 : fineD d = q2 at *
  generalize deedT d = tx at *
  simp only [f_law_deed_right, dFn_eq, start_eq]
  simp -implicitDefEqProofs [-e_dIfE, dt, s0, s1, s4, s5, sized_of, ← ft, ← fd, m2, ad, ag1, e1, hg, h1, h2, ag2, e2, hy, hv, k1, k2, ag3]
end K51
namespace K51
open PySem L2 Tok
/-! ## _law_history_right -/
theorem hist_split {n : Nat} {ds : List D} (hn : n < 10 ^ 30) (hd : ∀ d ∈ ds, goodD d) : Txt.split (histT n ds) nl = numS n :: ds.map deedT :=
  TL.split_join (y := nl) (s := 10) (S := []) nl_tl (by decide +kernel) (parts := numS n :: ds.map deedT) (by simp) (fun p hp => (hist_parts hn hd p hp).2)
theorem hist_head {n : Nat} {ds : List D} (hn : n < 10 ^ 30) (hd : ∀ d ∈ ds, goodD d) : numV (headS (histT n ds)) = some (n : Int) := by
  unfold headS
  rw [hist_split hn hd]
  exact num_back hn
theorem hist_lines {n : Nat} {ds : List D} (hn : n < 10 ^ 30) (hd : ∀ d ∈ ds, goodD d) : histL (histT n ds) = ds := by
  unfold histL
  rw [hist_split hn hd]
  show (ds.map deedT).map lineD = ds
  rw [List.map_map]
  clear hn
  induction ds with
  | nil => rfl
  | cons d r ih =>
    rw [List.map_cons, ih fun x hx => hd x (List.mem_cons_of_mem _ hx)]
    show lineD (deedT d) :: r = _
    rw [deed_back (hd d List.mem_cons_self)]
theorem bad_none : ∀ {ds : List D} {k : Nat}, (∀ d ∈ ds, isNonB d = false) → badL k ds = []
  | [], _, _ => rfl
  | d :: ds, k, h => by
    rw [badL, h d List.mem_cons_self, if_neg Bool.false_ne_true]
    exact bad_none fun x hx => h x (List.mem_cons_of_mem _ hx)
theorem good_non {d : D} (h : goodD d) : isNonB d = false := by
  obtain ⟨w, ss, ps, rfl, _, _⟩ := h
  rfl
theorem bad_int : ∀ {ds : List D} {k : Nat} {b : D} {t : List D}, badL k ds = b :: t → ∃ i : Int, b = .int i
  | [], _, _, _, h => by cases h
  | d :: ds, k, b, t, h => by
    rw [badL] at h
    split at h
    · injection h with h1 h2
      exact ⟨_, h1.symm⟩
    · exact bad_int h
theorem agR_pair {S : Sto} {n : Nat} {a b c d : D} (h1 : agR S n a c) (h2 : agR S n b d) : agR S (n + 1) (.tup [a, b]) (.tup [c, d]) := by
  refine ⟨by simp, rfl, fun k k1 k2 => ?_⟩
  match k, k1 with
  | 0, _ => exact h1
  | 1, _ => exact h2
theorem agR_pairL {S : Sto} {n : Nat} {a b c d : D} (h1 : agR S n a c) (h2 : agR S n b d) : agR S (n + 1) (.lst [a, b]) (.lst [c, d]) := by
  refine ⟨by simp, rfl, fun k k1 k2 => ?_⟩
  match k, k1 with
  | 0, _ => exact h1
  | 1, _ => exact h2
theorem agR_s {S : Sto} {n : Nat} {s : Str} : agR S n (.str s) (.str s) := by cases n <;> exact rfl
theorem agR_i {S : Sto} {n : Nat} {i : Int} : agR S n (.int i) (.int i) := by cases n <;> exact rfl
theorem agR_ref {S : Sto} {n l : Nat} {xs : List D} (hS : S[l]? = some (.lst xs)) (hl : xs.length ≤ 1000000) (h : ∀ x ∈ xs, plainD n x) : agR S (n + 1) (.ref l) (.lst xs) :=
  ⟨xs, hS, hl, rfl, fun k h1 _ => agR_refl S n _ (h _ (List.getElem_mem h1))⟩
theorem agR_fine {S : Sto} {n : Nat} {x y : D} (h : agR S n x y) : agR S (n + 1) (fineD x) (fineD y) := agR_pair agR_s h
theorem said_read {w : Int} (hw : w = 6 ∨ w = 7) {z : Str} (h : z.length ≤ lineMax) (S : Sto) : ∃ (y : D) (S' : Sto), f_law_said [.int w, .str z] S = .ok y S' ∧ S <+: S' ∧ ∀ S'', S' <+: S'' → agR S'' 5 y (readD z) := by
  obtain ⟨r1, r2⟩ := read_history h S
  unfold readD
  cases hv : numV (headS z) with
  | none =>
    refine ⟨atD (.int 0), S, said_at (by rw [asked_rhist hw]; exact r1 hv), List.prefix_refl _, fun S'' _ => ?_⟩
    exact agR_refl _ _ _ (plain_at (plain_mono 0 4 (.int 0) (by decide) trivial))
  | some i =>
    obtain ⟨r3, r4⟩ := r2 i hv
    dsimp only
    cases hb : badL 0 (histL z) with
    | cons b t =>
      obtain ⟨j, rfl⟩ := bad_int hb
      refine ⟨atD (.int j), _, said_at (by rw [asked_rhist hw]; exact r3 _ _ hb), List.prefix_append _ _, fun S'' _ => ?_⟩
      exact agR_refl _ _ _ (plain_at (plain_mono 0 4 (.int j) (by decide) trivial))
    | nil =>
      refine ⟨fineD (.tup [.int i, .ref S.length]), _, said_ok (by rw [asked_rhist hw]; exact r4 hb), List.prefix_append _ _, fun S'' p => ?_⟩
      have hS : S''[S.length]? = some (.lst (histL z)) := pre_get p (by simp)
      refine agR_fine (agR_pair agR_i (agR_ref hS (by have := hist_len h; omega) fun x hx => ?_))
      obtain ⟨q, hq, rfl⟩ := List.mem_map.mp hx
      exact plain_line (part_ok h (List.mem_of_mem_tail hq))
theorem said_rodd {w : Int} (hw : w = 6 ∨ w = 7) {x : D} (h : ∀ S, isiD OWN .str S x = some (.bl false)) (S : Sto) : f_law_said [.int w, x] S = .ok (atD (.int 0)) S :=
  said_at (by rw [asked_rhist hw]; exact read_history_odd h S)
def bodyB : DenS := (sSeq (sAsg (dCall f_law_bent_text (aCons (dVar 0) (aCons (dVar 3) aNil))) (tgName 12)) (sSeq (sAsg (dCall f_law_read_history (aCons (dVar 12) aNil)) (tgName 11)) (sSeq (sIf (dNotT (dTest (dCall (f_law_agree 8) (aCons (dLst (aCons (dCall f_law_said (aCons (dC (.int 6)) (aCons (dVar 12) aNil))) (aCons (dCall f_law_said (aCons (dC (.int 7)) (aCons (dVar 12) aNil))) aNil))) (aCons (dLst (aCons (dVar 11) (aCons (dVar 11) aNil))) aNil))))) (sSeq (sRet (dC (.bl false))) sNext) sNext) sNext)))
theorem b_turn {N l : Nat} {S : Sto} (c : CaskOk N S l) (hN : N ≤ 870000) {z : Str} (hz : z.length ≤ 100000) (a1 a2 a4 a5 a6 a7 a8 a9 a10 a11 a12 a13 : Option D) :
    ∃ (o11 o12 : Option D) (S' : Sto), bodyB [some (.ref l), a1, a2, some (.str z), a4, a5, a6, a7, a8, a9, a10, a11, a12, a13] S = .ok (.nx [some (.ref l), a1, a2, some (.str z), a4, a5, a6, a7, a8, a9, a10, o11, o12, a13]) S' ∧ Kp l S S' ∧ CaskOk (N + 5) S' l := by
  obtain ⟨x, S1, e1, hx, kp1, c1⟩ := bent_text c (by omega) hz
  obtain ⟨u, y, y', S2, S3, S4, h2, h3, h4, p2, p3, p4, ag⟩ : ∃ (u y y' : D) (S2 S3 S4 : Sto), f_law_read_history [x] S1 = .ok u S2 ∧ f_law_said [.int 6, x] S2 = .ok y S3 ∧ f_law_said [.int 7, x] S3 = .ok y' S4 ∧ S1 <+: S2 ∧ S2 <+: S3 ∧ S3 <+: S4 ∧ agR S4 7 (.lst [y, y']) (.lst [u, u]) := by
    rcases hx with ⟨t, rfl, ht⟩ | ho
    · obtain ⟨S2, h2, p2⟩ := law_read ht S1
      obtain ⟨y, S3, h3, p3, g3⟩ := said_read (.inl rfl) ht S2
      obtain ⟨y', S4, h4, p4, g4⟩ := said_read (.inr rfl) ht S3
      have up : ∀ a b : D, agR S4 5 a b → agR S4 6 a b := by
        have : ∀ (n : Nat) (a b : D), agR S4 n a b → agR S4 (n + 1) a b := by
          intro n
          induction n with
          | zero => intro a b h; cases a <;> cases b <;> simp only [agR] at h ⊢ <;> exact h
          | succ n ih =>
            intro a b h
            cases a <;> cases b <;> simp only [agR] at h ⊢
            · exact h
            · exact h
            · exact ⟨h.1, h.2.1, fun k k1 k2 => ih _ _ (h.2.2 k k1 k2)⟩
            · exact ⟨h.1, h.2.1, fun k k1 k2 => ih _ _ (h.2.2 k k1 k2)⟩
            · obtain ⟨xs, q1, q2, q3, q4⟩ := h
              exact ⟨xs, q1, q2, q3, fun k k1 k2 => ih _ _ (q4 k k1 k2)⟩
        exact this 5
      exact ⟨readD t, y, y', S2, S3, S4, h2, h3, h4, p2, p3, p4, agR_pairL (up _ _ (g3 _ p4)) (up _ _ (g4 _ (List.prefix_refl _)))⟩
    · exact ⟨atD (.int 0), atD (.int 0), atD (.int 0), S1, S1, S1, law_read_odd ho S1, said_rodd (.inl rfl) ho S1, said_rodd (.inr rfl) ho S1, List.prefix_refl _, List.prefix_refl _, List.prefix_refl _,
        agR_refl _ _ _ (plain_pair (plain_at (plain_mono 0 5 (.int 0) (by decide) trivial)))⟩
  have eag := agree_ok 7 _ _ S4 ag
  have pp := p2.trans (p3.trans p4)
  refine ⟨some u, some x, S4, ?_, kp1.trans (kp_pre pp), (cask_pre c1 pp).mono (by omega)⟩
  unfold bodyB
  simp -implicitDefEqProofs [e1, h2, h3, h4, sized_of, eag]
theorem b_loop {l : Nat} {z : Str} (hz : z.length ≤ 100000) (a1 a2 a4 a5 a6 a7 a8 a9 a10 : Option D) : ∀ (ks : List D) (N : Nat) (S : Sto) (a11 a12 a13 : Option D), CaskOk N S l → N + 5 * ks.length ≤ 870000 →
    ∃ (o11 o12 o13 : Option D) (S' : Sto), loopD (tgName 13) bodyB ks [some (.ref l), a1, a2, some (.str z), a4, a5, a6, a7, a8, a9, a10, a11, a12, a13] S = .ok (.nx [some (.ref l), a1, a2, some (.str z), a4, a5, a6, a7, a8, a9, a10, o11, o12, o13]) S' ∧ Kp l S S' ∧ CaskOk (N + 5 * ks.length) S' l
  | [], N, S, a11, a12, a13, c, _ => ⟨a11, a12, a13, S, rfl, Kp.refl _ _, c⟩
  | k :: ks, N, S, a11, a12, a13, c, hN => by
    simp only [List.length_cons] at hN
    obtain ⟨b11, b12, S1, e1, kp1, c1⟩ := b_turn c (by omega) hz a1 a2 a4 a5 a6 a7 a8 a9 a10 a11 a12 (some k)
    obtain ⟨o11, o12, o13, S2, e2, kp2, c2⟩ := b_loop hz a1 a2 a4 a5 a6 a7 a8 a9 a10 ks (N + 5) S1 b11 b12 (some k) c1 (by omega)
    refine ⟨o11, o12, o13, S2, ?_, kp1.trans kp2, c2.mono (by simp; omega)⟩
    rw [loop_cons, e_tgName, loopO_some]
    show loopK _ _ _ (bodyB [some (.ref l), a1, a2, some (.str z), a4, a5, a6, a7, a8, a9, a10, a11, a12, some k] S) = _
    rw [e1, loopK_nx, e2]
end K51
namespace K51
open PySem L2 Tok
theorem said_hgood {w : Int} (hw : w = 2 ∨ w = 3) {n : Nat} {ds : List D} (hn : n < 10 ^ 30) (hl : ds.length ≤ 40) (hd : ∀ d ∈ ds, goodD d) (S : Sto) : f_law_said [.int w, .tup [.int n, .lst ds]] S = .ok (fineD (.str (histT n ds))) S :=
  said_ok (by rw [asked_history hw]; exact show_history_good hn hl hd S)
theorem said_hbad {w : Int} (hw : w = 2 ∨ w = 3) {n : Nat} {d : D} (h : okV n d) (hb : histB d = false) (S : Sto) : f_law_said [.int w, d] S = .ok (.str "history") S :=
  said_hist (by rw [asked_history hw]; exact show_history_bad h hb S)
/-- the text of a history, as the law makes it -/
def textDen (v : Nat) : Den := dStrM joinD (dC (.str "\n")) (aCons (dOp2 addE (dLst (aCons (dOpN strE (aCons (dVar 1) aNil)) aNil)) (dLc (iAny (dVar v)) (tgName 4) tYesD (dCall f_law_deed_text (aCons (dVar 4) aNil)) [4])) aNil)
theorem get_set_eq {ρ : Tok.Env} {j : Nat} {o o2 : Option D} (h : j < ρ.length) : ((ρ.set j o).set j o2)[j]? = some o2 := by
  rw [List.getElem?_set_self]; simpa using h
theorem text_ok {ρ : Tok.Env} {S : Sto} {v : Nat} {n : Nat} {ds : List D} (h4 : 4 < ρ.length) (h1 : ρ[1]? = some (some (.int n))) (hv : ρ[v]? = some (some (.lst ds))) (hn : n < 10 ^ 30) (hl : ds.length ≤ 40) (hd : ∀ d ∈ ds, goodD d) : textDen v ρ S = .ok (.str (histT n ds)) S := by
  have lc : lcD (tgName 4) tYesD (dCall f_law_deed_text (aCons (dVar 4) aNil)) ds (ρ.set 4 none) S = .ok ((ds.map deedT).map .str) S := by
    have := lc_map (S := S) (ρ := ρ.set 4 none) (i := 4) (te := dCall f_law_deed_text (aCons (dVar 4) aNil)) (h := fun x => .str (deedT x)) ds (fun x hm => by
      have e4 : ((ρ.set 4 none).set 4 (some x))[4]? = some (some x) := get_set_eq h4
      have := law_deed_text (hd x hm)
      simp -implicitDefEqProofs only [e_dCall, e_aCons, e_dVar, e4, look_some, R.bind_ok, e_aNil, this])
    rw [this, List.map_map]
    rfl
  obtain ⟨jd, _⟩ := hist_join hn hl hd
  rw [List.map_cons] at jd
  have zl : ds.length ≤ sizeLine := small (by omega)
  have sn := str_num hn
  have ad : ∀ S, addE S (.lst [.str (numS n)]) (.lst ((ds.map deedT).map .str)) = some (.lst (.str (numS n) :: (ds.map deedT).map .str)) := fun S => by
    rw [add_lst (by simp; omega)]; rfl
  generalize (ds.map deedT).map D.str = ts at *
  generalize numS n = nn at *
  simp -implicitDefEqProofs [-lcD_cons, -lcD_nil, textDen, h1, hv, sn, e_dLc, zl, wipeD, lc, sized_of, ad, jd]
theorem begin_good : goodD (.tup [.str "begin"]) := ⟨"begin", [], [], rfl, by decide +kernel, trivial⟩
theorem sl_toL {xs : List D} {k : Nat} : slD (.lst xs) none (some (k : Int)) = some (.lst (xs.take k)) := by simp only [slD, cut_to]
theorem sl_fromL {xs : List D} {k : Nat} : slD (.lst xs) (some (k : Int)) none = some (.lst (xs.drop k)) := by simp only [slD, cut_from]
/-- the deed that is bent -/
theorem bent_of {N l : Nat} {S : Sto} (c : CaskOk N S l) (hN : N ≤ 870000) {ds : List D} (hd : ∀ d ∈ ds, goodD d) {k : Nat} (hk : k ≤ ds.length) {ρ : Tok.Env} (h0 : ρ[0]? = some (some (.ref l))) (h2 : ρ[2]? = some (some (.lst ds))) (h7 : ρ[7]? = some (some (.int (k : Int)))) :
    ∃ (b : D) (S' : Sto), dCall f_law_bent_deed (aCons (dVar 0) (aCons (dIfE (dTest (dOp2 gtD (dVar 7) (dC (.int 0)))) (dOp2 ixD (dVar 2) (dOp2 subD (dVar 7) (dC (.int 1)))) (dTup (aCons (dC (.str "begin")) aNil))) aNil)) ρ S = .ok b S' ∧ smV 3 b ∧ Kp l S S' ∧ CaskOk (N + 5) S' l := by
  by_cases k0 : 0 < k
  · have hlt : k - 1 < ds.length := by omega
    obtain ⟨b, S', e, hb, kp, c'⟩ := bent_deed c (by omega) (hd _ (List.getElem_mem hlt))
    have g : ∀ S, gtD S (.int (k : Int)) (.int 0) = some (.bl true) := fun S => by simp [gtD, cmpI, k0]
    have sb : ∀ S, subD S (.int (k : Int)) (.int 1) = some (.int ((k - 1 : Nat) : Int)) := fun S => by
      show some (D.int _) = _
      congr 2
      omega
    have at1 : atI ds ((k - 1 : Nat) : Int) = some ds[k - 1] := atI_nat hlt
    exact ⟨b, S', by simp -implicitDefEqProofs [h0, h2, h7, g, sb, ixD, at1, e], hb, kp, c'⟩
  · obtain ⟨b, S', e, hb, kp, c'⟩ := bent_deed c (by omega) begin_good
    have e0 : k = 0 := by omega
    subst e0
    have g : ∀ S, gtD S (.int ((0 : Nat) : Int)) (.int 0) = some (.bl false) := fun S => rfl
    exact ⟨b, S', by simp -implicitDefEqProofs only [e_dCall, e_aCons, e_dVar, h0, h7, look_some, R.bind_ok, e_dIfE, e_dTest, e_dOp2, e_dC, g, R.ofO_some, asB_ok, Bool.false_eq_true, ↓reduceIte, e_dTup, e_aNil, sized_of (show [D.str "begin"].length ≤ 1000 by simp), e], hb, kp, c'⟩
/-- which of the deeds are not good -/
theorem bad_list {S : Sto} {ρ : Tok.Env} (h4 : 4 < ρ.length) {B : List D} (hB : ∀ x ∈ B, okV 3 x) : ∃ ys, lcD (tgName 4) (dNotT (dTest (dCall f_law_deed_good (aCons (dVar 4) aNil)))) (dVar 4) B (ρ.set 4 none) S = .ok ys S ∧ ys.isEmpty = B.all deedB := by
  have e := lc_filt (S := S) (ρ := ρ.set 4 none) (i := 4) (tt := dNotT (dTest (dCall f_law_deed_good (aCons (dVar 4) aNil)))) (te := dVar 4) (p := fun x => !deedB x) (h := id) B (fun x hx => by
      have e4 : ((ρ.set 4 none).set 4 (some x))[4]? = some (some x) := get_set_eq h4
      have := law_deed (hB x hx)
      simp -implicitDefEqProofs only [e_dNotT, e_dTest, e_dCall, e_aCons, e_dVar, e4, look_some, R.bind_ok, e_aNil, this, asB_ok]) (fun x hx _ => by
      have e4 : ((ρ.set 4 none).set 4 (some x))[4]? = some (some x) := get_set_eq h4
      simp -implicitDefEqProofs only [e_dVar, e4, look_some, id])
  rw [List.map_id] at e
  exact ⟨_, e, by rw [fil_sz]; simp⟩
theorem ok_int {n : Nat} {i : Int} : okV n (.int i) := by cases n <;> trivial
theorem ok_tupL {n : Nat} {xs : List D} (h : xs.length ≤ 1000) (hx : ∀ x ∈ xs, okV n x) : okV (n + 1) (.tup xs) := ⟨by omega, hx⟩
theorem ok_lstL {n : Nat} {xs : List D} (h : xs.length ≤ 1000) (hx : ∀ x ∈ xs, okV n x) : okV (n + 1) (.lst xs) := ⟨by omega, hx⟩
theorem ok_2 {n : Nat} {a b : D} (h1 : okV n a) (h2 : okV n b) : okV (n + 1) (.tup [a, b]) := ok_tupL (by simp) fun x hx => by
  simp only [List.mem_cons, List.not_mem_nil, or_false] at hx
  rcases hx with rfl | rfl
  · exact h1
  · exact h2
def thingsL (n : Nat) (ds B : List D) : List D := [.tup [.int n, .lst B], .tup [.int n, .tup ds], .lst [.int n, .lst ds], .tup [.bl true, .lst ds], .tup [.int n], .non, .tup [.int (-1), .lst []], .tup [.int n, .non], .tup [.str "1", .lst []], .tup [.non, .lst []]]
theorem lc_things {n : Nat} {ds B : List D} (hl : ds.length ≤ 100) (hd : ∀ d ∈ ds, okV 3 d) {r : D} {S : Sto} {ρ : Tok.Env} (h12 : 12 < ρ.length) (hr : ∀ S, f_law_said [.int 2, .tup [.int n, .lst B]] S = .ok r S) :
    lcD (tgName 12) tYesD (dCall f_law_said (aCons (dC (.int 2)) (aCons (dVar 12) aNil))) (thingsL n ds B) (ρ.set 12 none) S = .ok (r :: List.replicate 9 (.str "history")) S := by
  have te : ∀ (x y : D), (∀ S, f_law_said [.int 2, x] S = .ok y S) → dCall f_law_said (aCons (dC (.int 2)) (aCons (dVar 12) aNil)) ((ρ.set 12 none).set 12 (some x)) S = .ok y S := fun x y h => by
    have e4 : ((ρ.set 12 none).set 12 (some x))[12]? = some (some x) := get_set_eq h12
    simp -implicitDefEqProofs only [e_dCall, e_aCons, e_dVar, e_dC, e4, look_some, R.bind_ok, e_aNil, h]
  have one : ∀ (x y : D) (xs ys : List D), (∀ S, f_law_said [.int 2, x] S = .ok y S) → lcD (tgName 12) tYesD (dCall f_law_said (aCons (dC (.int 2)) (aCons (dVar 12) aNil))) xs (ρ.set 12 none) S = .ok ys S → lcD (tgName 12) tYesD (dCall f_law_said (aCons (dC (.int 2)) (aCons (dVar 12) aNil))) (x :: xs) (ρ.set 12 none) S = .ok (y :: ys) S := fun x y xs ys h1 h2 => by
    rw [lcD_cons, e_tgName, lcOne_some, e_tYesD, bindN_ok, if_pos rfl, te x y h1, bindN_ok, h2]
    rfl
  have b : ∀ x : D, okV 5 x → histB x = false → ∀ S, f_law_said [.int 2, x] S = .ok (.str "history") S := fun x h1 h2 => said_hbad (.inl rfl) h1 h2
  have o1 : okV 4 (.tup ds) := ok_tupL (by omega) hd
  have o2 : okV 4 (.lst ds) := ok_lstL (by omega) hd
  have o0 : okV 4 (.lst []) := ok_lstL (by simp) fun x h => by cases h
  have oh : okV 4 (.str "1") := by show ("1" : Str).length ≤ 1000000; decide +kernel
  exact one _ _ _ _ hr (one _ _ _ _ (b _ (ok_2 ok_int o1) rfl) (one _ _ _ _ (b _ (ok_lstL (by simp) fun x hx => by
      simp only [List.mem_cons, List.not_mem_nil, or_false] at hx
      rcases hx with rfl | rfl
      · exact ok_int
      · exact o2) rfl) (one _ _ _ _ (b _ (ok_2 trivial o2) rfl) (one _ _ _ _ (b _ (ok_tupL (by simp) fun x hx => by
      simp only [List.mem_cons, List.not_mem_nil, or_false] at hx
      subst hx
      exact ok_int) rfl) (one _ _ _ _ (b _ trivial rfl) (one _ _ _ _ (b _ (ok_2 ok_int o0) rfl) (one _ _ _ _ (b _ (ok_2 ok_int trivial) rfl) (one _ _ _ _ (b _ (ok_2 oh o0) rfl) (one _ _ _ _ (b _ (ok_2 trivial o0) rfl) rfl)))))))))
end K51
namespace K51
open PySem L2 Tok
theorem seq_nx {a b : DenS} {ρ ρ1 : Tok.Env} {S S1 : Sto} (h : a ρ S = .ok (.nx ρ1) S1) : sSeq a b ρ S = b ρ1 S1 := by
  rw [e_sSeq, h]; rfl
def st1 : DenS := sAsg (textDen 2) (tgName 3)
def st2 : DenS := sAsg (dTup (aCons (dVar 1) (aCons (dVar 2) aNil))) (tgName 5)
def st3 : DenS := sAsg (dLst (aCons (dCall f_law_said (aCons (dC (.int 2)) (aCons (dVar 5) aNil))) (aCons (dCall f_law_said (aCons (dC (.int 3)) (aCons (dVar 5) aNil))) (aCons (dCall f_law_said (aCons (dC (.int 6)) (aCons (dVar 3) aNil))) (aCons (dCall f_law_said (aCons (dC (.int 7)) (aCons (dVar 3) aNil))) aNil))))) (tgName 6)
def st4 : DenS := sIf (dNotT (dTest (dCall (f_law_agree 8) (aCons (dVar 6) (aCons (dOp2 addE (dOp2 mulD (dLst (aCons (dTup (aCons (dC (.str "fine")) (aCons (dVar 3) aNil))) aNil)) (dC (.int 2))) (dOp2 mulD (dLst (aCons (dTup (aCons (dC (.str "fine")) (aCons (dVar 5) aNil))) aNil)) (dC (.int 2)))) aNil))))) (sSeq (sRet (dC (.bl false))) sNext) sNext
def st5 : DenS := sDrop (dAppend (dOp2 ixD (dOp2 ixD (dOp2 ixD (dVar 6) (dC (.int 2))) (dC (.int 1))) (dC (.int 1))) (dC .non))
def st6 : DenS := sAsg (dCall f_law_tap (aCons (dVar 0) (aCons (dOp2 addE (dOpN lenD (aCons (dVar 2) aNil)) (dC (.int 1))) aNil))) (tgName 7)
def bentDen : Den := dCall f_law_bent_deed (aCons (dVar 0) (aCons (dIfE (dTest (dOp2 gtD (dVar 7) (dC (.int 0)))) (dOp2 ixD (dVar 2) (dOp2 subD (dVar 7) (dC (.int 1)))) (dTup (aCons (dC (.str "begin")) aNil))) aNil))
def st7 : DenS := sAsg (dOp2 addE (dOp2 addE (dSl (dVar 2) oNone (oSome (dVar 7))) (dLst (aCons bentDen aNil))) (dSl (dVar 2) (oSome (dVar 7)) oNone)) (tgName 8)
def st8 : DenS := sAsg (dOp2 neE (dLc (iAny (dVar 8)) (tgName 4) (dNotT (dTest (dCall f_law_deed_good (aCons (dVar 4) aNil)))) (dVar 4) [4]) (dLst aNil)) (tgName 9)
def st9 : DenS := sAsg (dLst (aCons (dTup (aCons (dVar 1) (aCons (dVar 8) aNil))) (aCons (dTup (aCons (dVar 1) (aCons (dOpN tupleD (aCons (dVar 2) aNil)) aNil))) (aCons (dLst (aCons (dVar 1) (aCons (dVar 2) aNil))) (aCons (dTup (aCons (dC (.bl true)) (aCons (dVar 2) aNil))) aNil))))) (tgName 10)
def st10 : DenS := sAsg (dOp2 addE (dVar 10) (dLst (aCons (dTup (aCons (dVar 1) aNil)) (aCons (dC .non) (aCons (dTup (aCons (dOp1 negD (dC (.int 1))) (aCons (dLst aNil) aNil))) (aCons (dTup (aCons (dVar 1) (aCons (dC .non) aNil))) (aCons (dTup (aCons (dC (.str "1")) (aCons (dLst aNil) aNil))) (aCons (dTup (aCons (dC .non) (aCons (dLst aNil) aNil))) aNil)))))))) (tgName 10)
def st11 : DenS := sAsg (dLst (aCons (dC (.str "history")) aNil)) (tgName 11)
def st12 : DenS := sIf (dNotT (dTest (dVar 9))) (sSeq (sAsg (dLst (aCons (dTup (aCons (dC (.str "fine")) (aCons (textDen 8) aNil))) aNil)) (tgName 11)) sNext) sNext
def st13 : DenS := sIf (dNotT (dTest (dCall (f_law_agree 8) (aCons (dLc (iAny (dVar 10)) (tgName 12) tYesD (dCall f_law_said (aCons (dC (.int 2)) (aCons (dVar 12) aNil))) [12]) (aCons (dOp2 addE (dVar 11) (dOp2 mulD (dLst (aCons (dC (.str "history")) aNil)) (dC (.int 9)))) aNil))))) (sSeq (sRet (dC (.bl false))) sNext) sNext
def st14 : DenS := sFor (iRange1 (aCons (dC (.int 4)) aNil)) (tgName 13) bodyB
theorem hr_def : f_law_history_right = dFn 14 (sSeq st1 (sSeq st2 (sSeq st3 (sSeq st4 (sSeq st5 (sSeq st6 (sSeq st7 (sSeq st8 (sSeq st9 (sSeq st10 (sSeq st11 (sSeq st12 (sSeq st13 (sSeq st14 (sSeq (sRet (dC (.bl true))) sNext))))))))))))))) := rfl
theorem mul_l {S : Sto} {x : D} {k : Nat} (hk : k ≤ 100) : mulD S (.lst [x]) (.int (k : Int)) = some (.lst (List.replicate k x)) := by
  unfold mulD
  dsimp only
  rw [if_pos ⟨by omega, by omega, small (by simp; omega)⟩]
  congr 2
  show (List.replicate (Int.toNat k) [x]).flatten = _
  rw [Int.toNat_natCast]
  clear hk
  induction k with
  | zero => rfl
  | succ k ih => rw [List.replicate_succ, List.flatten_cons, ih, List.replicate_succ]; rfl
theorem good_all_app {ds : List D} (hd : ∀ d ∈ ds, goodD d) (k : Nat) {b : D} (hb : goodD b) : ∀ x ∈ ds.take k ++ [b] ++ ds.drop k, goodD x := fun x hx => by
  rcases List.mem_append.mp hx with hx | hx
  · rcases List.mem_append.mp hx with hx | hx
    · exact hd x (List.mem_of_mem_take hx)
    · simp only [List.mem_cons, List.not_mem_nil, or_false] at hx
      subst hx
      exact hb
  · exact hd x (List.mem_of_mem_drop hx)
theorem ok_all_app {ds : List D} (hd : ∀ d ∈ ds, goodD d) (k : Nat) {b : D} (hb : smV 3 b) : ∀ x ∈ ds.take k ++ [b] ++ ds.drop k, okV 3 x := fun x hx => by
  rcases List.mem_append.mp hx with hx | hx
  · rcases List.mem_append.mp hx with hx | hx
    · exact good_ok (hd x (List.mem_of_mem_take hx))
    · simp only [List.mem_cons, List.not_mem_nil, or_false] at hx
      subst hx
      exact sm_ok 3 _ hb
  · exact good_ok (hd x (List.mem_of_mem_drop hx))
theorem all_app {ds : List D} (hd : ∀ d ∈ ds, goodD d) (k : Nat) {b : D} : (ds.take k ++ [b] ++ ds.drop k).all deedB = deedB b := by
  have h1 : (ds.take k).all deedB = true := List.all_eq_true.mpr fun x hx => good_deed (hd x (List.mem_of_mem_take hx))
  have h2 : (ds.drop k).all deedB = true := List.all_eq_true.mpr fun x hx => good_deed (hd x (List.mem_of_mem_drop hx))
  rw [List.all_append, List.all_append, h1, h2]
  simp
theorem len_app {ds : List D} {k : Nat} (hk : k ≤ ds.length) {b : D} : (ds.take k ++ [b] ++ ds.drop k).length = ds.length + 1 := by
  simp
  omega
theorem said_hist_back {w : Int} (hw : w = 6 ∨ w = 7) {n : Nat} {ds : List D} (hn : n < 10 ^ 30) (hl : ds.length ≤ 40) (hd : ∀ d ∈ ds, goodD d) (S : Sto) :
    f_law_said [.int w, .str (histT n ds)] S = .ok (fineD (.tup [.int n, .ref S.length])) (S ++ [.lst ds]) := by
  have hz := (hist_join hn hl hd).2
  obtain ⟨_, r2⟩ := read_history (z := histT n ds) (Nat.le_trans hz (by decide)) S
  obtain ⟨_, r4⟩ := r2 n (hist_head hn hd)
  rw [hist_lines hn hd] at r4
  exact said_ok (by rw [asked_rhist hw]; exact r4 (bad_none fun d hm => good_non (hd d hm)))
end K51
namespace K51
open PySem L2 Tok
theorem agR_mono {S : Sto} : ∀ (n : Nat) (a b : D), agR S n a b → agR S (n + 1) a b := by
  intro n
  induction n with
  | zero => intro a b h; cases a <;> cases b <;> simp only [agR] at h ⊢ <;> exact h
  | succ n ih =>
    intro a b h
    cases a <;> cases b <;> simp only [agR] at h ⊢
    · exact h
    · exact h
    · exact ⟨h.1, h.2.1, fun k k1 k2 => ih _ _ (h.2.2 k k1 k2)⟩
    · exact ⟨h.1, h.2.1, fun k k1 k2 => ih _ _ (h.2.2 k k1 k2)⟩
    · obtain ⟨xs, q1, q2, q3, q4⟩ := h
      exact ⟨xs, q1, q2, q3, fun k k1 k2 => ih _ _ (q4 k k1 k2)⟩
theorem agR_four {S : Sto} {n : Nat} {a b c d a' b' c' d' : D} (h1 : agR S n a a') (h2 : agR S n b b') (h3 : agR S n c c') (h4 : agR S n d d') : agR S (n + 1) (.lst [a, b, c, d]) (.lst [a', b', c', d']) := by
  refine ⟨by simp, rfl, fun k k1 k2 => ?_⟩
  match k, k1 with
  | 0, _ => exact h1
  | 1, _ => exact h2
  | 2, _ => exact h3
  | 3, _ => exact h4
theorem history_right {N l : Nat} {S : Sto} (c : CaskOk N S l) (hN : N ≤ 860000) {n : Nat} {ds : List D} (hn : n < 10 ^ 30) (hl : ds.length ≤ 35) (hd : ∀ d ∈ ds, goodD d) :
    ∃ S', f_law_history_right [.ref l, .int n, .lst ds] S = .ok (.bl true) S' ∧ Kp l S S' ∧ CaskOk (N + 40) S' l := by
  have hll : l < S.length := by obtain ⟨_, _, _, h, _⟩ := c; exact (List.getElem?_eq_some_iff.mp h).1
  have hz := (hist_join hn (show ds.length ≤ 40 by omega) hd).2
  have ok3 : ∀ d ∈ ds, okV 3 d := fun d hm => good_ok (hd d hm)
  -- the text and the pair
  have q1 : st1 [some (.ref l), some (.int n), some (.lst ds), none, none, none, none, none, none, none, none, none, none, none] S = .ok (.nx [some (.ref l), some (.int n), some (.lst ds), some (.str (histT n ds)), none, none, none, none, none, none, none, none, none, none]) S := by
    have t := text_ok (S := S) (v := 2) (ρ := [some (.ref l), some (.int n), some (.lst ds), none, none, none, none, none, none, none, none, none, none, none]) (by simp) rfl rfl hn (by omega) hd
    unfold st1
    rw [e_sAsg, t]
    rfl
  have q2 : st2 [some (.ref l), some (.int n), some (.lst ds), some (.str (histT n ds)), none, none, none, none, none, none, none, none, none, none] S = .ok (.nx [some (.ref l), some (.int n), some (.lst ds), some (.str (histT n ds)), none, some (.tup [.int n, .lst ds]), none, none, none, none, none, none, none, none]) S := by
    unfold st2
    simp -implicitDefEqProofs [sized_of]
  -- what is said
  let F : List D := [fineD (.str (histT n ds)), fineD (.str (histT n ds)), fineD (.tup [.int n, .ref S.length]), fineD (.tup [.int n, .ref (S ++ [SO.lst ds]).length])]
  let S3 : Sto := S ++ [SO.lst ds] ++ [SO.lst ds]
  have q3 : st3 [some (.ref l), some (.int n), some (.lst ds), some (.str (histT n ds)), none, some (.tup [.int n, .lst ds]), none, none, none, none, none, none, none, none] S = .ok (.nx [some (.ref l), some (.int n), some (.lst ds), some (.str (histT n ds)), none, some (.tup [.int n, .lst ds]), some (.lst F), none, none, none, none, none, none, none]) S3 := by
    have s2 := said_hgood (.inl rfl) hn (show ds.length ≤ 40 by omega) hd
    have s3 := said_hgood (.inr rfl) hn (show ds.length ≤ 40 by omega) hd
    have s6 := said_hist_back (.inl rfl) hn (show ds.length ≤ 40 by omega) hd
    have s7 := said_hist_back (.inr rfl) hn (show ds.length ≤ 40 by omega) hd
    unfold st3
    simp -implicitDefEqProofs only [e_sAsg, e_dLst, e_aCons, e_dCall, e_dC, e_dVar, List.getElem?_cons_succ, List.getElem?_cons_zero, look_some, R.bind_ok, e_aNil, s2, s3, s6, s7, e_tgName]
    rw [sized_of (by simp)]
    rfl
  have hs1 : S3[S.length]? = some (.lst ds) := by simp [S3]
  have hs2 : S3[(S ++ [SO.lst ds]).length]? = some (.lst ds) := by
    show (S ++ [SO.lst ds] ++ [SO.lst ds])[(S ++ [SO.lst ds]).length]? = _
    rw [List.getElem?_append_right (Nat.le_refl _)]
    simp
  have hz4 : histT n ds = histT n ds := rfl
  have q4 : st4 [some (.ref l), some (.int n), some (.lst ds), some (.str (histT n ds)), none, some (.tup [.int n, .lst ds]), some (.lst F), none, none, none, none, none, none, none] S3 = .ok (.nx [some (.ref l), some (.int n), some (.lst ds), some (.str (histT n ds)), none, some (.tup [.int n, .lst ds]), some (.lst F), none, none, none, none, none, none, none]) S3 := by
    have pl : ∀ x ∈ ds, plainD 3 x := fun x hm => plain_mono 2 3 x (by decide) (plain_good (hd x hm))
    have ag := agree_ok 7 (.lst F) (.lst [fineD (.str (histT n ds)), fineD (.str (histT n ds)), fineD (.tup [.int n, .lst ds]), fineD (.tup [.int n, .lst ds])]) S3
      (agR_four (agR_fine agR_s) (agR_fine agR_s) (agR_fine (agR_pair agR_i (agR_ref hs1 (by omega) pl))) (agR_fine (agR_pair agR_i (agR_ref hs2 (by omega) pl))))
    have m2 : ∀ (S : Sto) (x : D), mulD S (.lst [x]) (.int 2) = some (.lst [x, x]) := fun S x => mul_l (k := 2) (by decide)
    have ad : ∀ (S : Sto) (x y : D), addE S (.lst [x, x]) (.lst [y, y]) = some (.lst [x, x, y, y]) := fun S x y => by rw [add_lst (by simp)]; rfl
    have f1 : D.tup [.str "fine", .str (histT n ds)] = fineD (.str (histT n ds)) := rfl
    have f2 : D.tup [.str "fine", .tup [.int n, .lst ds]] = fineD (.tup [.int n, .lst ds]) := rfl
    unfold st4
    clear_value F S3
    generalize histT n ds = tx at *
    generalize hx1 : fineD (.str tx) = x1 at *
    generalize hx2 : fineD (.tup [.int n, .lst ds]) = x2 at *
    simp -implicitDefEqProofs [sized_of, f1, f2, m2, ad, ag]
  -- a mark on what was read
  let S5 : Sto := S3.set S.length (.lst (ds ++ [.non]))
  have q5 : st5 [some (.ref l), some (.int n), some (.lst ds), some (.str (histT n ds)), none, some (.tup [.int n, .lst ds]), some (.lst F), none, none, none, none, none, none, none] S3 = .ok (.nx [some (.ref l), some (.int n), some (.lst ds), some (.str (histT n ds)), none, some (.tup [.int n, .lst ds]), some (.lst F), none, none, none, none, none, none, none]) S5 := by
    have a2 : atI F 2 = some (fineD (.tup [.int n, .ref S.length])) := atI_2
    have a1 : ∀ x y : D, atI [x, y] 1 = some y := fun x y => atI_1
    unfold st5
    clear_value F
    simp -implicitDefEqProofs [ixD, a2, fineD, a1, e_dAppend, app1_ok hs1, app2_ok hs1 (show ds.length ≤ 1000 by omega)]
    rfl
  have kp5 : Kp l S S5 := by
    refine ⟨by simp [S5, S3], fun j hj o e => ?_⟩
    have hj2 := (List.getElem?_eq_some_iff.mp e).1
    show (S3.set S.length _)[j]? = _
    rw [List.getElem?_set_ne (by omega)]
    exact pre_get (show S <+: S3 from (List.prefix_append _ _).trans (List.prefix_append _ _)) e
  have c5 : CaskOk N S5 l := cask_set (cask_pre c ((List.prefix_append _ _).trans (List.prefix_append _ _))) (by omega)
  clear_value S5 S3 F
  -- the bent deed
  obtain ⟨v, S6, e6, v0, v1, kp6, c6⟩ := tap c5 (by omega) (span := (ds.length : Int) + 1) (by omega) (by omega)
  obtain ⟨k, rfl⟩ := Int.eq_ofNat_of_zero_le v0
  have hk : k ≤ ds.length := by omega
  have q6 : st6 [some (.ref l), some (.int n), some (.lst ds), some (.str (histT n ds)), none, some (.tup [.int n, .lst ds]), some (.lst F), none, none, none, none, none, none, none] S5 = .ok (.nx [some (.ref l), some (.int n), some (.lst ds), some (.str (histT n ds)), none, some (.tup [.int n, .lst ds]), some (.lst F), some (.int (k : Int)), none, none, none, none, none, none]) S6 := by
    have ll : ∀ S, lenD S [.lst ds] = some (.int (ds.length : Int)) := fun _ => rfl
    unfold st6
    simp -implicitDefEqProofs [ll, e6]
  obtain ⟨b, S7, e7, hb, kp7, c7⟩ := bent_of c6 (by omega) hd hk (ρ := [some (.ref l), some (.int n), some (.lst ds), some (.str (histT n ds)), none, some (.tup [.int n, .lst ds]), some (.lst F), some (.int (k : Int)), none, none, none, none, none, none]) rfl rfl rfl
  have okB := ok_all_app hd k hb
  have alB := all_app hd k (b := b)
  have lnB := len_app hk (b := b)
  have gdB := fun hb' : goodD b => good_all_app hd k hb'
  have q7 : st7 [some (.ref l), some (.int n), some (.lst ds), some (.str (histT n ds)), none, some (.tup [.int n, .lst ds]), some (.lst F), some (.int (k : Int)), none, none, none, none, none, none] S6 = .ok (.nx [some (.ref l), some (.int n), some (.lst ds), some (.str (histT n ds)), none, some (.tup [.int n, .lst ds]), some (.lst F), some (.int (k : Int)), some (.lst (ds.take k ++ [b] ++ ds.drop k)), none, none, none, none, none]) S7 := by
    have s1 : slD (.lst ds) none (some (k : Int)) = some (.lst (ds.take k)) := sl_toL
    have s2 : slD (.lst ds) (some (k : Int)) none = some (.lst (ds.drop k)) := sl_fromL
    have a1 : ∀ S, addE S (.lst (ds.take k)) (.lst [b]) = some (.lst (ds.take k ++ [b])) := fun S => add_lst (by simp; omega)
    have a2 : ∀ S, addE S (.lst (ds.take k ++ [b])) (.lst (ds.drop k)) = some (.lst (ds.take k ++ [b] ++ ds.drop k)) := fun S => add_lst (by simp; omega)
    have e7' : bentDen [some (.ref l), some (.int n), some (.lst ds), some (.str (histT n ds)), none, some (.tup [.int n, .lst ds]), some (.lst F), some (.int (k : Int)), none, none, none, none, none, none] S6 = .ok b S7 := e7
    unfold st7
    generalize ds.take k ++ [b] ++ ds.drop k = B at *
    generalize ds.take k ++ [b] = B1 at *
    generalize ds.take k = tk at *
    generalize ds.drop k = dk at *
    simp -implicitDefEqProofs [s1, s2, e7', sized_of, a1, a2]
  generalize hBB : ds.take k ++ [b] ++ ds.drop k = B at *
  have lB : B.length ≤ 40 := by omega
  have q8 : st8 [some (.ref l), some (.int n), some (.lst ds), some (.str (histT n ds)), none, some (.tup [.int n, .lst ds]), some (.lst F), some (.int (k : Int)), some (.lst B), none, none, none, none, none] S7 = .ok (.nx [some (.ref l), some (.int n), some (.lst ds), some (.str (histT n ds)), none, some (.tup [.int n, .lst ds]), some (.lst F), some (.int (k : Int)), some (.lst B), some (.bl (!deedB b)), none, none, none, none]) S7 := by
    obtain ⟨ys, e8, hy⟩ := bad_list (S := S7) (ρ := [some (.ref l), some (.int n), some (.lst ds), some (.str (histT n ds)), none, some (.tup [.int n, .lst ds]), some (.lst F), some (.int (k : Int)), some (.lst B), none, none, none, none, none]) (by simp) okB
    rw [alB] at hy
    have zl : B.length ≤ sizeLine := small (by omega)
    simp only [List.set_cons_succ, List.set_cons_zero] at e8
    unfold st8
    simp -implicitDefEqProofs [-lcD_cons, -lcD_nil, -List.isEmpty_iff, -List.isEmpty_eq_false_iff, e_dLc, zl, wipeD, e8, sized_of, hy]
  have q9 : st9 [some (.ref l), some (.int n), some (.lst ds), some (.str (histT n ds)), none, some (.tup [.int n, .lst ds]), some (.lst F), some (.int (k : Int)), some (.lst B), some (.bl (!deedB b)), none, none, none, none] S7 = .ok (.nx [some (.ref l), some (.int n), some (.lst ds), some (.str (histT n ds)), none, some (.tup [.int n, .lst ds]), some (.lst F), some (.int (k : Int)), some (.lst B), some (.bl (!deedB b)), some (.lst [.tup [.int n, .lst B], .tup [.int n, .tup ds], .lst [.int n, .lst ds], .tup [.bl true, .lst ds]]), none, none, none]) S7 := by
    have tp : tupleD S7 [.lst ds] = some (.tup ds) := rfl
    unfold st9
    simp -implicitDefEqProofs [sized_of, tp]
  have q10 : st10 [some (.ref l), some (.int n), some (.lst ds), some (.str (histT n ds)), none, some (.tup [.int n, .lst ds]), some (.lst F), some (.int (k : Int)), some (.lst B), some (.bl (!deedB b)), some (.lst [.tup [.int n, .lst B], .tup [.int n, .tup ds], .lst [.int n, .lst ds], .tup [.bl true, .lst ds]]), none, none, none] S7 = .ok (.nx [some (.ref l), some (.int n), some (.lst ds), some (.str (histT n ds)), none, some (.tup [.int n, .lst ds]), some (.lst F), some (.int (k : Int)), some (.lst B), some (.bl (!deedB b)), some (.lst (thingsL n ds B)), none, none, none]) S7 := by
    have ng : ∀ S, negD S (.int 1) = some (.int (-1)) := fun _ => rfl
    have ad : ∀ (S : Sto) (a b c d : D) (ys : List D), ys.length ≤ 100 → addE S (.lst [a, b, c, d]) (.lst ys) = some (.lst ([a, b, c, d] ++ ys)) := fun S a b c d ys h => add_lst (by simp; omega)
    unfold st10 thingsL
    simp -implicitDefEqProofs [sized_of, ng, ad]
  have q11 : st11 [some (.ref l), some (.int n), some (.lst ds), some (.str (histT n ds)), none, some (.tup [.int n, .lst ds]), some (.lst F), some (.int (k : Int)), some (.lst B), some (.bl (!deedB b)), some (.lst (thingsL n ds B)), none, none, none] S7 = .ok (.nx [some (.ref l), some (.int n), some (.lst ds), some (.str (histT n ds)), none, some (.tup [.int n, .lst ds]), some (.lst F), some (.int (k : Int)), some (.lst B), some (.bl (!deedB b)), some (.lst (thingsL n ds B)), some (.lst [.str "history"]), none, none]) S7 := by
    unfold st11
    simp -implicitDefEqProofs [sized_of]
  -- what is due
  obtain ⟨r, q12, hr, pr⟩ : ∃ r : D, (st12 [some (.ref l), some (.int n), some (.lst ds), some (.str (histT n ds)), none, some (.tup [.int n, .lst ds]), some (.lst F), some (.int (k : Int)), some (.lst B), some (.bl (!deedB b)), some (.lst (thingsL n ds B)), some (.lst [.str "history"]), none, none] S7 = .ok (.nx [some (.ref l), some (.int n), some (.lst ds), some (.str (histT n ds)), none, some (.tup [.int n, .lst ds]), some (.lst F), some (.int (k : Int)), some (.lst B), some (.bl (!deedB b)), some (.lst (thingsL n ds B)), some (.lst [r]), none, none]) S7) ∧
      (∀ S, f_law_said [.int 2, .tup [.int n, .lst B]] S = .ok r S) ∧ plainD 3 r := by
    cases cb : deedB b with
    | true =>
      have gB := gdB (good_of hb cb)
      have t := text_ok (S := S7) (v := 8) (ρ := [some (.ref l), some (.int n), some (.lst ds), some (.str (histT n ds)), none, some (.tup [.int n, .lst ds]), some (.lst F), some (.int (k : Int)), some (.lst B), some (.bl false), some (.lst (thingsL n ds B)), some (.lst [.str "history"]), none, none]) (by simp) rfl rfl hn lB gB
      refine ⟨fineD (.str (histT n B)), ?_, said_hgood (.inl rfl) hn lB gB, plain_mono 1 3 _ (by decide) (plain_fine (n := 0) trivial)⟩
      unfold st12 fineD
      generalize thingsL n ds B = tl at *
      simp only [Bool.not_true]
      simp -implicitDefEqProofs [sized_of, t]
    | false =>
      refine ⟨.str "history", ?_, said_hbad (n := 5) (.inl rfl) (ok_2 ok_int (ok_lstL (by omega) okB)) (by simp [histB, alB, cb]), trivial⟩
      unfold st12
      generalize thingsL n ds B = tl at *
      simp -implicitDefEqProofs []
  have q13 : st13 [some (.ref l), some (.int n), some (.lst ds), some (.str (histT n ds)), none, some (.tup [.int n, .lst ds]), some (.lst F), some (.int (k : Int)), some (.lst B), some (.bl (!deedB b)), some (.lst (thingsL n ds B)), some (.lst [r]), none, none] S7 = .ok (.nx [some (.ref l), some (.int n), some (.lst ds), some (.str (histT n ds)), none, some (.tup [.int n, .lst ds]), some (.lst F), some (.int (k : Int)), some (.lst B), some (.bl (!deedB b)), some (.lst (thingsL n ds B)), some (.lst [r]), none, none]) S7 := by
    have lc := lc_things (S := S7) (n := n) (ds := ds) (B := B) (r := r) (ρ := [some (.ref l), some (.int n), some (.lst ds), some (.str (histT n ds)), none, some (.tup [.int n, .lst ds]), some (.lst F), some (.int (k : Int)), some (.lst B), some (.bl (!deedB b)), some (.lst (thingsL n ds B)), some (.lst [r]), none, none]) (by omega) ok3 (by simp) hr
    simp only [List.set_cons_succ, List.set_cons_zero] at lc
    have zl : (thingsL n ds B).length ≤ sizeLine := small (by simp [thingsL])
    have m9 : ∀ S, mulD S (.lst [.str "history"]) (.int 9) = some (.lst (List.replicate 9 (.str "history"))) := fun S => mul_l (k := 9) (by decide)
    have ad : ∀ S, addE S (.lst [r]) (.lst (List.replicate 9 (.str "history"))) = some (.lst (r :: List.replicate 9 (.str "history"))) := fun S => by rw [add_lst (by simp)]; rfl
    have ag : ∀ S, f_law_agree 8 [.lst (r :: List.replicate 9 (.str "history")), .lst (r :: List.replicate 9 (.str "history"))] S = .ok (.bl true) S := fun S => agree_same 4 7 (by decide) (plain_two (by simp) fun y hy => by
      rcases List.mem_cons.mp hy with rfl | hy
      · exact pr
      · rw [List.eq_of_mem_replicate hy]; trivial) S
    unfold st13
    generalize thingsL n ds B = tl at *
    generalize List.replicate 9 (D.str "history") = hs at *
    simp -implicitDefEqProofs [-lcD_cons, -lcD_nil, e_dLc, zl, wipeD, lc, sized_of, m9, ad, ag]
  obtain ⟨o11, o12, o13, S8, e8, kp8, c8⟩ := b_loop hz (some (.int n)) (some (.lst ds)) none (some (.tup [.int n, .lst ds])) (some (.lst F)) (some (.int (k : Int))) (some (.lst B)) (some (.bl (!deedB b))) (some (.lst (thingsL n ds B))) (rngD 0 4) (N + 1 + 5) S7 (some (.lst [r])) none none c7 (by rw [rng_len]; omega)
  have q14 : st14 [some (.ref l), some (.int n), some (.lst ds), some (.str (histT n ds)), none, some (.tup [.int n, .lst ds]), some (.lst F), some (.int (k : Int)), some (.lst B), some (.bl (!deedB b)), some (.lst (thingsL n ds B)), some (.lst [r]), none, none] S7 = .ok (.nx [some (.ref l), some (.int n), some (.lst ds), some (.str (histT n ds)), none, some (.tup [.int n, .lst ds]), some (.lst F), some (.int (k : Int)), some (.lst B), some (.bl (!deedB b)), some (.lst (thingsL n ds B)), o11, o12, o13]) S8 := by
    have hr4 : ∀ S, rngR [.int 4] S = .ok (rngD 0 4) S := fun S => rngR_nat (n := 4) (by decide)
    unfold st14
    rw [← e8]
    simp -implicitDefEqProofs [-loop_cons, hr4]
  rw [rng_len] at c8
  refine ⟨S8, ?_, kp5.trans (kp6.trans (kp7.trans kp8)), c8.mono (by omega)⟩
  rw [hr_def, dFn_eq, start_eq]
  show fin (sSeq st1 _ [some (.ref l), some (.int n), some (.lst ds), none, none, none, none, none, none, none, none, none, none, none] S) = _
  rw [seq_nx q1, seq_nx q2, seq_nx q3, seq_nx q4, seq_nx q5, seq_nx q6, seq_nx q7, seq_nx q8, seq_nx q9, seq_nx q10, seq_nx q11, seq_nx q12, seq_nx q13, seq_nx q14]
  rfl
end K51
namespace K51
open PySem L2 Tok
/-! ## names are drawn -/
def abc : Str := "abcdefghijklmnopqrstuvwxyz"
def ltr (v : Nat) : Str := ⟨#[97 + v]⟩
theorem letL_eq : letL = (List.range 26).map (97 + ·) := by decide +kernel
theorem ltr_at {v : Nat} (h : v < 26) (S : Sto) : ixD S (.str abc) (.int (v : Int)) = some (.str (ltr v)) := by
  have e : ixD S (.str abc) (.int (v : Int)) = if abc.length ≤ sizeLine then (atI letL (v : Int)).map fun c => D.str ⟨#[c]⟩ else none := rfl
  have z : abc.length ≤ sizeLine := by decide +kernel
  have a : atI letL (v : Int) = some (97 + v) := by
    rw [letL_eq, atI_nat (by simpa using h)]
    simp
  rw [e, if_pos z, a]
  rfl
def lw (s : Str) : Prop := ∀ c ∈ TL.tl s, c ∈ letL
theorem lw_ltr {v : Nat} (h : v < 26) : lw (ltr v) := fun c hc => by
  have : c = 97 + v := by simpa [ltr, TL.tl] using hc
  rw [letL_eq, List.mem_map]
  exact ⟨v, List.mem_range.mpr h, this.symm⟩
theorem lw_app {a b : Str} (ha : lw a) (hb : lw b) : lw (a ++ b) := fun c hc => by
  rw [TL.tl_append] at hc
  rcases List.mem_append.mp hc with h | h
  · exact ha c h
  · exact hb c h
theorem lw_cut {z : Str} (h : lw z) (lo hi : Option Int) : lw (cutS z lo hi) := fun c hc => by
  have : c ∈ TL.tl z := by
    unfold cutS TL.tl at hc
    simp at hc
    first
      | exact List.mem_of_mem_drop (List.mem_of_mem_take hc)
      | exact List.mem_of_mem_take (List.mem_of_mem_drop hc)
  exact h c this
theorem ltr_len (v : Nat) : (ltr v).length = 1 := rfl
theorem lw_name {s : Str} (h : lw s) (h0 : 0 < s.length) (h8 : s.length ≤ 8) : isName s = true := by
  unfold isName
  simp only [Bool.and_eq_true, decide_eq_true_eq]
  exact ⟨h0, h8, List.all_eq_true.mpr fun c hc => by simpa using h c hc⟩
theorem name_lw {s : Str} (h : isName s = true) : lw s ∧ 0 < s.length ∧ s.length ≤ 8 := by
  simp only [isName, Bool.and_eq_true, decide_eq_true_eq, List.all_eq_true] at h
  exact ⟨h.2.2, h.1, h.2.1⟩
end K51
namespace K51
open PySem L2 Tok
theorem cut7 (z : Str) : (cutS z none (some 7)).length ≤ 7 := by
  unfold cutS Str.length
  have h := HT.sIx_nat z.length z.length 7
  have h2 : HT.sIx z.length z.length (some 7) = min 7 z.length := h
  simp only [List.size_toArray, List.length_take]
  show min (HT.sIx z.length z.length (some 7) - _) _ ≤ 7
  rw [h2]
  omega
theorem cutm (z : Str) : (cutS z none (some (-1))).length ≤ z.length - 1 := by
  unfold cutS
  have h2 : HT.sIx z.length z.length (some (-1)) = z.length - 1 := by
    show (if (-1 : Int) < 0 then ((-1 : Int) + (z.length : Int)).toNat else min (-1 : Int).toNat z.length) = _
    rw [if_pos (by decide)]
    omega
  unfold Str.length at *
  show (List.toArray _).size ≤ _
  simp only [List.size_toArray, List.length_take]
  rw [h2]
  omega
theorem join0_ok {ys : List Str} (h : ∀ y ∈ ys, lw y ∧ y.length = 1) (hl : ys.length ≤ 1000) : joinD "" [.lst (ys.map .str)] = some (.str (Txt.join "" ys)) ∧ lw (Txt.join "" ys) ∧ (Txt.join "" ys).length ≤ ys.length := by
  have hs : (ys.map (·.length)).sum ≤ ys.length * 1 := sum_le fun y hy => by rw [(h y hy).2]; exact Nat.le_refl _
  refine ⟨?_, ?_⟩
  · unfold joinD joinL
    dsimp only
    rw [strs_map]
    simp only [Option.bind_some]
    have e0 : ("" : Str).length = 0 := rfl
    rw [if_pos (by rw [e0]; omega)]
  · rw [TL.join_eq]
    clear hs hl
    induction ys with
    | nil => exact ⟨fun c hc => (by cases hc), by decide +kernel⟩
    | cons a r ih =>
      have h1 := h a List.mem_cons_self
      cases r with
      | nil => exact ⟨h1.1, by show a.length ≤ 1; omega⟩
      | cons c r =>
        obtain ⟨i1, i2⟩ := ih fun y hy => h y (List.mem_cons_of_mem _ hy)
        have e : Str.join "" (a :: c :: r) = a ++ "" ++ Str.join "" (c :: r) := rfl
        rw [e]
        refine ⟨lw_app (lw_app h1.1 (fun c hc => by cases hc)) i1, ?_⟩
        have e0 : ("" : Str).length = 0 := rfl
        simp only [Str.length_append, List.length_cons, h1.2, e0] at i2 ⊢
        omega
theorem lc_letters {l : Nat} (a1 a3 a4 a5 a6 a7 a9 a10 : Option D) : ∀ (ds : List D) (N : Nat) (S : Sto), CaskOk N S l → N + ds.length ≤ 900000 →
    ∃ (ys : List Str) (S' : Sto), lcD (tgName 8) tYesD (dOp2 ixD (dVar 2) (dCall f_law_tap (aCons (dVar 0) (aCons (dC (.int 26)) aNil)))) ds [some (.ref l), a1, some (.str abc), a3, a4, a5, a6, a7, none, a9, a10] S = .ok (ys.map .str) S' ∧ ys.length = ds.length ∧ (∀ y ∈ ys, lw y ∧ y.length = 1) ∧ Kp l S S' ∧ CaskOk (N + ds.length) S' l
  | [], N, S, c, _ => ⟨[], S, rfl, rfl, fun y h => (nomatch h), Kp.refl _ _, c⟩
  | d :: ds, N, S, c, hN => by
    simp only [List.length_cons] at hN
    obtain ⟨v, S1, e1, v0, v1, k1, c1⟩ := tap c (by omega) (span := 26) (by omega) (by omega)
    obtain ⟨m, rfl⟩ := Int.eq_ofNat_of_zero_le v0
    have hm : m < 26 := by omega
    obtain ⟨ys, S2, e2, hl, hs, k2, c2⟩ := lc_letters a1 a3 a4 a5 a6 a7 a9 a10 ds (N + 1) S1 c1 (by omega)
    refine ⟨ltr m :: ys, S2, ?_, by simp [hl], ?_, k1.trans k2, c2.mono (by simp; omega)⟩
    · have la := ltr_at hm S1
      rw [lcD_cons, List.map_cons]
      generalize ys.map D.str = yl at *
      generalize abc = ab at *
      simp -implicitDefEqProofs [-lcD_cons, -lcD_nil, e1, la, e2]
    · intro y hy
      rcases List.mem_cons.mp hy with rfl | hy
      · exact ⟨lw_ltr hm, ltr_len m⟩
      · exact hs y hy
def wordsT (sg k : Nat) : List Str := (List.range 26).map fun t => ltr ((sg + t) % 26) ++ ltr k
theorem lc_spare {sg k : Nat} (hs : sg < 26) (hk : k < 26) (a0 a1 a3 a5 a7 a9 a10 : Option D) (S : Sto) :
    lcD (tgName 8) tYesD (dOp2 addE (dOp2 ixD (dVar 2) (dOp2 modD (dOp2 addE (dVar 6) (dVar 8)) (dC (.int 26)))) (dOp2 ixD (dVar 2) (dVar 4))) (rngD 0 26) [a0, a1, some (.str abc), a3, some (.int (k : Int)), a5, some (.int (sg : Int)), a7, none, a9, a10] S = .ok ((wordsT sg k).map .str) S := by
  have e := lc_map (S := S) (ρ := [a0, a1, some (.str abc), a3, some (.int (k : Int)), a5, some (.int (sg : Int)), a7, none, a9, a10]) (i := 8) (te := dOp2 addE (dOp2 ixD (dVar 2) (dOp2 modD (dOp2 addE (dVar 6) (dVar 8)) (dC (.int 26)))) (dOp2 ixD (dVar 2) (dVar 4))) (h := fun d => match d with | .int i => .str (ltr ((sg + i.toNat) % 26) ++ ltr k) | _ => .non) (rngD 0 26) (fun d hd => by
    obtain ⟨t, ht, rfl⟩ := rng_mem hd
    have m1 : modD S (.int ((sg : Int) + (t : Int))) (.int 26) = some (.int (((sg + t) % 26 : Nat) : Int)) := by
      rw [mod_ok (by decide)]
      congr 2
    have l1 := ltr_at (v := (sg + t) % 26) (Nat.mod_lt _ (by decide)) S
    have l2 := ltr_at hk S
    have as : addE S (.str (ltr ((sg + t) % 26))) (.str (ltr k)) = some (.str (ltr ((sg + t) % 26) ++ ltr k)) := add_str (by rw [ltr_len, ltr_len]; omega)
    generalize abc = ab at *
    simp only [Int.toNat_natCast]
    generalize (sg + t) % 26 = q at *
    simp -implicitDefEqProofs [m1, l1, l2, as])
  rw [e]
  rfl
theorem words_three : ∀ sg < 26, ∀ k < 3, ltr (sg % 26) ++ ltr k ≠ ltr ((sg + 1) % 26) ++ ltr k ∧ ltr (sg % 26) ++ ltr k ≠ ltr ((sg + 2) % 26) ++ ltr k ∧ ltr ((sg + 1) % 26) ++ ltr k ≠ ltr ((sg + 2) % 26) ++ ltr k := by decide +kernel
theorem spare_one {sg k : Nat} (hs : sg < 26) (hk : k < 3) {found : List Str} (hf : found.length ≤ 2) : ∃ w ∈ wordsT sg k, w ∉ found := by
  obtain ⟨n1, n2, n3⟩ := words_three sg hs k hk
  have m : ∀ t, t < 26 → ltr ((sg + t) % 26) ++ ltr k ∈ wordsT sg k := fun t ht => List.mem_map.mpr ⟨t, List.mem_range.mpr ht, rfl⟩
  have m0 := m 0 (by decide)
  have m1 := m 1 (by decide)
  have m2 := m 2 (by decide)
  rw [Nat.add_zero] at m0
  generalize ltr (sg % 26) ++ ltr k = w0 at *
  generalize ltr ((sg + 1) % 26) ++ ltr k = w1 at *
  generalize ltr ((sg + 2) % 26) ++ ltr k = w2 at *
  by_cases c0 : w0 ∈ found
  · by_cases c1 : w1 ∈ found
    · by_cases c2 : w2 ∈ found
      · match found, hf with
        | [], _ => cases c0
        | [a], _ =>
          simp at c0 c1
          exact absurd (c0.trans c1.symm) n1
        | [a, b], _ =>
          simp at c0 c1 c2
          rcases c0 with c0 | c0 <;> rcases c1 with c1 | c1 <;> rcases c2 with c2 | c2 <;> first
            | exact absurd (c0.trans c1.symm) n1
            | exact absurd (c0.trans c2.symm) n2
            | exact absurd (c1.trans c2.symm) n3
      · exact ⟨w2, m2, c2⟩
    · exact ⟨w1, m1, c1⟩
  · exact ⟨w0, m0, c0⟩
theorem not_in {S : Sto} {f : Nat} {found : List Str} (hS : S[f]? = some (.lst (found.map .str))) (w : Str) : notInD S (.str w) (.ref f) = some (.bl (!decide (w ∈ found))) := by
  simp only [notInD, inB, seqOf, hS, Option.bind_some, strs_map, Option.map_some]
theorem lc_free {S : Sto} {f : Nat} {found : List Str} (hS : S[f]? = some (.lst (found.map .str))) (a0 a1 a2 a4 a5 a6 a7 a8 a9 : Option D) (ws : List Str) :
    lcD (tgName 10) (dTest (dOp2 notInD (dVar 10) (dVar 3))) (dVar 10) (ws.map .str) [a0, a1, a2, some (.ref f), a4, a5, a6, a7, a8, a9, none] S = .ok ((ws.filter fun w => !decide (w ∈ found)).map .str) S := by
  have e := lc_filt (S := S) (ρ := [a0, a1, a2, some (.ref f), a4, a5, a6, a7, a8, a9, none]) (i := 10) (tt := dTest (dOp2 notInD (dVar 10) (dVar 3))) (te := dVar 10) (p := fun d => match d with | .str w => !decide (w ∈ found) | _ => false) (h := id) (ws.map .str) (fun d hd => by
    obtain ⟨w, _, rfl⟩ := List.mem_map.mp hd
    have := not_in hS w
    simp -implicitDefEqProofs [this]) (fun d hd _ => by simp)
  rw [e, List.map_id, List.filter_map]
  rfl
theorem words_name {sg k : Nat} (hk : k < 26) {w : Str} (h : w ∈ wordsT sg k) : isName w = true := by
  obtain ⟨t, _, rfl⟩ := List.mem_map.mp h
  exact lw_name (lw_app (lw_ltr (Nat.mod_lt _ (by decide))) (lw_ltr hk)) (by rw [Str.length_append, ltr_len]; omega) (by rw [Str.length_append, ltr_len, ltr_len]; decide)
end K51
namespace K51
open PySem L2 Tok
def n1 : DenS := sAsg (dTup (aCons (dOp2 ixD (dLst (aCons (dC (.int 0)) (aCons (dC (.int 1)) (aCons (dCall f_law_tap (aCons (dVar 0) (aCons (dC (.int 8)) aNil))) aNil)))) (dCall f_law_tap (aCons (dVar 0) (aCons (dC (.int 3)) aNil)))) (aCons (dCall f_law_tap (aCons (dVar 0) (aCons (dC (.int 26)) aNil))) aNil))) (tgTup 2 (tgCons (tgName 5) (tgCons (tgName 6) tgNil)))
def n2 : DenS := sAsg (dOp2 addE (dOp2 ixD (dVar 2) (dVar 6)) (dStrM joinD (dC (.str "")) (aCons (dLc (iRange1 (aCons (dVar 5) aNil)) (tgName 8) tYesD (dOp2 ixD (dVar 2) (dCall f_law_tap (aCons (dVar 0) (aCons (dC (.int 26)) aNil)))) [8]) aNil))) (tgName 7)
def n3 : DenS := sIf (dAndT (dTest (dOp2 neE (dVar 3) (dLst aNil))) (dTest (dOp2 eqE (dCall f_law_tap (aCons (dVar 0) (aCons (dC (.int 3)) aNil))) (dC (.int 0))))) (sSeq (sAsg (dOp2 ixD (dLst (aCons (dOp2 addE (dSl (dOp2 ixD (dVar 3) (dOp1 negD (dC (.int 1)))) oNone (oSome (dC (.int 7)))) (dOp2 ixD (dVar 2) (dVar 6))) (aCons (dOp2 addE (dSl (dOp2 ixD (dVar 3) (dOp1 negD (dC (.int 1)))) oNone (oSome (dOp1 negD (dC (.int 1))))) (dOp2 ixD (dVar 2) (dVar 6))) aNil))) (dCall f_law_tap (aCons (dVar 0) (aCons (dC (.int 2)) aNil)))) (tgName 7)) sNext) sNext
def n4 : DenS := sAsg (dLc (iRange1 (aCons (dC (.int 26)) aNil)) (tgName 8) tYesD (dOp2 addE (dOp2 ixD (dVar 2) (dOp2 modD (dOp2 addE (dVar 6) (dVar 8)) (dC (.int 26)))) (dOp2 ixD (dVar 2) (dVar 4))) [8]) (tgName 9)
def n5 : DenS := sDrop (dAppend (dVar 3) (dIfE (dTest (dOp2 notInD (dVar 7) (dVar 3))) (dVar 7) (dOp2 ixD (dLc (iAny (dVar 9)) (tgName 10) (dTest (dOp2 notInD (dVar 10) (dVar 3))) (dVar 10) [10]) (dC (.int 0)))))
def bodyN : DenS := sSeq n1 (sSeq n2 (sSeq n3 (sSeq n4 (sSeq n5 sNext))))
theorem names_def : f_law_names = dFn 11 (sSeq (sAsg (dTup (aCons (dC (.str abc)) (aCons (dLstS aNil) aNil))) (tgTup 2 (tgCons (tgName 2) (tgCons (tgName 3) tgNil)))) (sSeq (sFor (iRange1 (aCons (dVar 1) aNil)) (tgName 4) bodyN) (sSeq (sRet (dFrz (dVar 3))) sNext))) := rfl
theorem last_at {found : List Str} (h : found ≠ []) : ∃ w ∈ found, atI (found.map D.str) (-1) = some (.str w) := by
  have hl : 0 < found.length := List.length_pos_iff.mpr h
  have hn : found.length - 1 < found.length := by omega
  refine ⟨found[found.length - 1], List.getElem_mem hn, ?_⟩
  unfold atI ixN
  rw [if_neg (by decide), if_pos (by simp; omega)]
  have e : ((-1 : Int) + ((found.map D.str).length : Int)).toNat = found.length - 1 := by simp; omega
  simp only [Option.bind_some]
  rw [e]
  simp [List.getElem?_eq_getElem hn]
theorem name_turn {N l f : Nat} {S : Sto} (c : CaskOk N S l) (hN : N ≤ 800000) (hf : f ≠ l) {found : List Str} (hS : S[f]? = some (.lst (found.map .str))) (hfl : found.length ≤ 2) (hgood : ∀ w ∈ found, isName w = true) {k : Nat} (hk : k < 3) (a1 a5 a6 a7 a8 a9 a10 : Option D) (h8 : a8 = none) (h10 : a10 = none) :
    ∃ (w : Str) (S' : Sto) (o5 o6 o7 o9 : Option D), bodyN [some (.ref l), a1, some (.str abc), some (.ref f), some (.int (k : Int)), a5, a6, a7, a8, a9, a10] S = .ok (.nx [some (.ref l), a1, some (.str abc), some (.ref f), some (.int (k : Int)), o5, o6, o7, none, o9, none]) S' ∧
      isName w = true ∧ S'[f]? = some (.lst ((found ++ [w]).map .str)) ∧ K2 l f S S' ∧ CaskOk (N + 30) S' l := by
  subst h8
  subst h10
  -- a size, a sign
  obtain ⟨t8, S1, e1, t80, t81, kp1, c1⟩ := tap c (by omega) (span := 8) (by omega) (by omega)
  obtain ⟨t3, S2, e2, t30, t31, kp2, c2⟩ := tap c1 (by omega) (span := 3) (by omega) (by omega)
  obtain ⟨sz, hsz, ea⟩ := ints_at (is := [0, 1, t8]) t30 (by simpa using t31)
  obtain ⟨sg, S3, e3, sg0, sg1, kp3, c3⟩ := tap c2 (by omega) (span := 26) (by omega) (by omega)
  have hszb : 0 ≤ sz ∧ sz < 8 := by
    simp only [List.mem_cons, List.not_mem_nil, or_false] at hsz
    rcases hsz with rfl | rfl | rfl <;> omega
  obtain ⟨z, rfl⟩ := Int.eq_ofNat_of_zero_le hszb.1
  obtain ⟨g, rfl⟩ := Int.eq_ofNat_of_zero_le sg0
  have hg : g < 26 := by omega
  have lg := ltr_at hg
  have q1 : n1 [some (.ref l), a1, some (.str abc), some (.ref f), some (.int (k : Int)), a5, a6, a7, none, a9, none] S = .ok (.nx [some (.ref l), a1, some (.str abc), some (.ref f), some (.int (k : Int)), some (.int (z : Int)), some (.int (g : Int)), a7, none, a9, none]) S3 := by
    simp only [List.map_cons, List.map_nil] at ea
    unfold n1
    generalize abc = ab at *
    simp -implicitDefEqProofs [e1, e2, sized_of, ixD, ea, e3, tgTup]
  -- a name
  obtain ⟨ys, S4, e4, hyl, hy, kp4, c4⟩ := lc_letters (l := l) a1 (some (.ref f)) (some (.int (k : Int))) (some (.int (z : Int))) (some (.int (g : Int))) a7 a9 none (rngD 0 z) (N + 1 + 1 + 1) S3 c3 (by rw [rng_len]; omega)
  rw [rng_len] at hyl c4
  obtain ⟨j1, j2, j3⟩ := join0_ok hy (by omega)
  have hJ : (ltr g ++ Txt.join "" ys).length ≤ 8 := by rw [Str.length_append, ltr_len]; omega
  have q2 : n2 [some (.ref l), a1, some (.str abc), some (.ref f), some (.int (k : Int)), some (.int (z : Int)), some (.int (g : Int)), a7, none, a9, none] S3 = .ok (.nx [some (.ref l), a1, some (.str abc), some (.ref f), some (.int (k : Int)), some (.int (z : Int)), some (.int (g : Int)), some (.str (ltr g ++ Txt.join "" ys)), none, a9, none]) S4 := by
    have hr : rngR [.int (z : Int)] S3 = .ok (rngD 0 z) S3 := rngR_nat (by omega)
    have zl : (rngD 0 z).length ≤ sizeLine := by rw [rng_len]; exact small (by omega)
    have as : addE S4 (.str (ltr g)) (.str (Txt.join "" ys)) = some (.str (ltr g ++ Txt.join "" ys)) := add_str (by rw [ltr_len]; omega)
    unfold n2
    generalize ltr g ++ Txt.join "" ys = nm at *
    generalize Txt.join "" ys = jn at *
    generalize ys.map D.str = yl at *
    generalize rngD 0 z = rg at *
    generalize abc = ab at *
    simp -implicitDefEqProofs [-lcD_cons, -lcD_nil, lg, e_dLc, hr, zl, wipeD, e4, j1, as]
  have nm1 : isName (ltr g ++ Txt.join "" ys) = true := lw_name (lw_app (lw_ltr hg) j2) (by rw [Str.length_append, ltr_len]; omega) hJ
  have hkp4 := kp1.trans (kp2.trans (kp3.trans kp4))
  have hS4 : S4[f]? = some (.lst (found.map .str)) := hkp4.2 f hf _ hS
  generalize ltr g ++ Txt.join "" ys = nm at *
  have c4' : CaskOk (N + 10) S4 l := c4.mono (by omega)
  -- or one like the last
  obtain ⟨w, S5, q3, hw, kp5, c5⟩ : ∃ (w : Str) (S5 : Sto), n3 [some (.ref l), a1, some (.str abc), some (.ref f), some (.int (k : Int)), some (.int (z : Int)), some (.int (g : Int)), some (.str nm), none, a9, none] S4 = .ok (.nx [some (.ref l), a1, some (.str abc), some (.ref f), some (.int (k : Int)), some (.int (z : Int)), some (.int (g : Int)), some (.str w), none, a9, none]) S5 ∧ isName w = true ∧ Kp l S4 S5 ∧ CaskOk (N + 12) S5 l := by
    have ne : neE S4 (.ref f) (.lst []) = some (.bl (!(found.map D.str).isEmpty)) := by simp [neE, empOf, hS4]
    by_cases hemp : found = []
    · subst hemp
      refine ⟨nm, S4, ?_, nm1, Kp.refl _ _, c4'.mono (by omega)⟩
      unfold n3
      generalize abc = ab at *
      have z0 : ∀ r : R D, sized [] r = r := fun r => sized_of (by simp)
      simp only [List.map_nil, List.isEmpty_nil, Bool.not_true] at ne
      simp -implicitDefEqProofs [z0, ne]
    · have he : (found.map D.str).isEmpty = false := by
        cases found with
        | nil => exact absurd rfl hemp
        | cons a r => rfl
      rw [he] at ne
      obtain ⟨u, S5, e5, u0, u1, kp5, c5⟩ := tap c4' (by omega) (span := 3) (by omega) (by omega)
      have hS5 : S5[f]? = some (.lst (found.map .str)) := kp5.2 f hf _ hS4
      have z0 : ∀ r : R D, sized [] r = r := fun r => sized_of (by simp)
      by_cases hu : u = 0
      · obtain ⟨t, S6, e6, t0, t1, kp6, c6⟩ := tap c5 (by omega) (span := 2) (by omega) (by omega)
        obtain ⟨x, hx, el⟩ := last_at hemp
        obtain ⟨xw, x0, x8⟩ := name_lw (hgood x hx)
        have q7 := cut7 x
        have qm := cutm x
        obtain ⟨w, hw, ew⟩ := strs_at (ws := [cutS x none (some 7) ++ ltr g, cutS x none (some (-1)) ++ ltr g]) t0 (by simpa using t1)
        have sl1 : slD (.str x) none (some 7) = some (.str (cutS x none (some 7))) := sl_str (by omega) _ _
        have sl2 : slD (.str x) none (some (-1)) = some (.str (cutS x none (some (-1)))) := sl_str (by omega) _ _
        have as1 : ∀ S, addE S (.str (cutS x none (some 7))) (.str (ltr g)) = some (.str (cutS x none (some 7) ++ ltr g)) := fun S => add_str (by rw [ltr_len]; omega)
        have as2 : ∀ S, addE S (.str (cutS x none (some (-1)))) (.str (ltr g)) = some (.str (cutS x none (some (-1)) ++ ltr g)) := fun S => add_str (by rw [ltr_len]; omega)
        have ng : ∀ S, negD S (.int 1) = some (.int (-1)) := fun _ => rfl
        refine ⟨w, S6, ?_, ?_, kp5.trans kp6, c6.mono (by omega)⟩
        · simp only [List.map_cons, List.map_nil] at ew
          have ix5 : ixD S5 (.ref f) (.int (-1)) = some (.str x) := by
            show (match S5[f]? with | some (.lst xs) => atI xs (-1) | _ => none) = _
            rw [hS5]
            exact el
          have ix6 : ∀ a b : D, ixD S6 (.lst [a, b]) (.int t) = atI [a, b] t := fun a b => rfl
          unfold n3
          generalize cutS x none (some 7) ++ ltr g = p1 at *
          generalize cutS x none (some (-1)) ++ ltr g = p2 at *
          generalize cutS x none (some 7) = p3 at *
          generalize cutS x none (some (-1)) = p4 at *
          generalize abc = ab at *
          simp -implicitDefEqProofs [z0, ne, e5, hu, ng, ix5, sl1, sl2, lg, as1, as2, sized_of, e6, ix6, ew]
        · simp only [List.mem_cons, List.not_mem_nil, or_false] at hw
          rcases hw with rfl | rfl
          · exact lw_name (lw_app (lw_cut xw _ _) (lw_ltr hg)) (by rw [Str.length_append, ltr_len]; omega) (by rw [Str.length_append, ltr_len]; omega)
          · exact lw_name (lw_app (lw_cut xw _ _) (lw_ltr hg)) (by rw [Str.length_append, ltr_len]; omega) (by rw [Str.length_append, ltr_len]; omega)
      · refine ⟨nm, S5, ?_, nm1, kp5, c5.mono (by omega)⟩
        unfold n3
        generalize abc = ab at *
        simp -implicitDefEqProofs [z0, ne, e5, hu]
  have hS5 : S5[f]? = some (.lst (found.map .str)) := kp5.2 f hf _ hS4
  have hl5 : f < S5.length := (List.getElem?_eq_some_iff.mp hS5).1
  -- spare names
  have lsp := lc_spare hg (show k < 26 by omega) (some (.ref l)) a1 (some (.ref f)) (some (.int (z : Int))) (some (.str w)) a9 none S5
  have q4 : n4 [some (.ref l), a1, some (.str abc), some (.ref f), some (.int (k : Int)), some (.int (z : Int)), some (.int (g : Int)), some (.str w), none, a9, none] S5 = .ok (.nx [some (.ref l), a1, some (.str abc), some (.ref f), some (.int (k : Int)), some (.int (z : Int)), some (.int (g : Int)), some (.str w), none, some (.lst ((wordsT g k).map .str)), none]) S5 := by
    have hr : ∀ S, rngR [.int 26] S = .ok (rngD 0 26) S := fun S => rngR_nat (n := 26) (by decide)
    have zl : (rngD 0 26).length ≤ sizeLine := by rw [rng_len]; exact small (by omega)
    unfold n4
    generalize (wordsT g k).map D.str = wl at *
    generalize rngD 0 26 = rg at *
    generalize abc = ab at *
    simp -implicitDefEqProofs [-lcD_cons, -lcD_nil, e_dLc, hr, zl, wipeD, lsp]
  have lfr := lc_free hS5 (some (.ref l)) a1 (some (.str abc)) (some (.int (k : Int))) (some (.int (z : Int))) (some (.int (g : Int))) (some (.str w)) none (some (.lst ((wordsT g k).map .str))) (wordsT g k)
  have zz : (found.map D.str).length ≤ 1000 := by simp; omega
  have nin := not_in hS5 w
  obtain ⟨x, q5, hx⟩ : ∃ x : Str, n5 [some (.ref l), a1, some (.str abc), some (.ref f), some (.int (k : Int)), some (.int (z : Int)), some (.int (g : Int)), some (.str w), none, some (.lst ((wordsT g k).map .str)), none] S5 = .ok (.nx [some (.ref l), a1, some (.str abc), some (.ref f), some (.int (k : Int)), some (.int (z : Int)), some (.int (g : Int)), some (.str w), none, some (.lst ((wordsT g k).map .str)), none]) (S5.set f (.lst ((found ++ [x]).map .str))) ∧ isName x = true := by
    have mp : ∀ x : Str, (found ++ [x]).map D.str = found.map D.str ++ [.str x] := fun x => by simp
    by_cases hin : w ∈ found
    · obtain ⟨w0, m0, f0⟩ := spare_one hg hk hfl
      have hne : w0 ∈ (wordsT g k).filter fun w => !decide (w ∈ found) := List.mem_filter.mpr ⟨m0, by simp [f0]⟩
      cases hfil : (wordsT g k).filter fun w => !decide (w ∈ found) with
      | nil => rw [hfil] at hne; cases hne
      | cons x r =>
        have hxm : x ∈ wordsT g k := by
          have : x ∈ (wordsT g k).filter fun w => !decide (w ∈ found) := by rw [hfil]; exact List.mem_cons_self
          exact (List.mem_filter.mp this).1
        refine ⟨x, ?_, words_name (by omega) hxm⟩
        rw [hfil, List.map_cons] at lfr
        have zl : ((wordsT g k).map D.str).length ≤ sizeLine := small (by simp [wordsT])
        have ix : ∀ S, ixD S (.lst (D.str x :: r.map D.str)) (.int 0) = some (.str x) := fun S => atI_0
        rw [mp]
        unfold n5
        rw [decide_eq_true hin] at nin
        generalize found.map D.str = fl at *
        generalize (wordsT g k).map D.str = wl at *
        generalize r.map D.str = rl at *
        generalize abc = ab at *
        simp -implicitDefEqProofs [-lcD_cons, -lcD_nil, e_dAppend, app1_ok hS5, nin, e_dLc, zl, wipeD, lfr, ix, app2_ok hS5 zz]
    · refine ⟨w, ?_, hw⟩
      rw [mp]
      unfold n5
      rw [decide_eq_false hin] at nin
      generalize found.map D.str = fl at *
      generalize (wordsT g k).map D.str = wl at *
      generalize abc = ab at *
      simp -implicitDefEqProofs [e_dAppend, app1_ok hS5, nin, app2_ok hS5 zz]
  refine ⟨x, S5.set f (.lst ((found ++ [x]).map .str)), some (.int (z : Int)), some (.int (g : Int)), some (.str w), some (.lst ((wordsT g k).map .str)), ?_, hx, by rw [List.getElem?_set_self hl5], (K2.of (hkp4.trans kp5)).trans k2_set, (cask_set c5 hf).mono (by omega)⟩
  unfold bodyN
  rw [seq_nx q1, seq_nx q2, seq_nx q3, seq_nx q4, seq_nx q5]
  rfl
end K51
namespace K51
open PySem L2 Tok
theorem n_loop {l f : Nat} (hf : f ≠ l) (a1 : Option D) : ∀ (m k N : Nat) (found : List Str) (S : Sto) (a4 a5 a6 a7 a9 : Option D), CaskOk N S l → N + 30 * m ≤ 800000 → S[f]? = some (.lst (found.map .str)) → found.length = k → k + m = 3 → (∀ w ∈ found, isName w = true) →
    ∃ (ws : List Str) (S' : Sto) (o4 o5 o6 o7 o9 : Option D), loopD (tgName 4) bodyN (rngF k m) [some (.ref l), a1, some (.str abc), some (.ref f), a4, a5, a6, a7, none, a9, none] S = .ok (.nx [some (.ref l), a1, some (.str abc), some (.ref f), o4, o5, o6, o7, none, o9, none]) S' ∧
      S'[f]? = some (.lst (ws.map .str)) ∧ ws.length = 3 ∧ (∀ w ∈ ws, isName w = true) ∧ K2 l f S S' ∧ CaskOk (N + 30 * m) S' l
  | 0, k, N, found, S, a4, a5, a6, a7, a9, c, hN, hS, hl, hk, hg => ⟨found, S, a4, a5, a6, a7, a9, rfl, hS, by omega, hg, K2.of (Kp.refl _ _), c⟩
  | m + 1, k, N, found, S, a4, a5, a6, a7, a9, c, hN, hS, hl, hk, hg => by
    obtain ⟨w, S1, b5, b6, b7, b9, e1, hw, hS1, k1, c1⟩ := name_turn c (by omega) hf hS (by omega) hg (show k < 3 by omega) a1 a5 a6 a7 none a9 none rfl rfl
    obtain ⟨ws, S2, o4, o5, o6, o7, o9, e2, r1, r2, r3, k2, c2⟩ := n_loop hf a1 m (k + 1) (N + 30) (found ++ [w]) S1 (some (.int (k : Int))) b5 b6 b7 b9 c1 (by omega) hS1 (by simp [hl]) (by omega) (fun x hx => by
      rcases List.mem_append.mp hx with hx | hx
      · exact hg x hx
      · simp only [List.mem_cons, List.not_mem_nil, or_false] at hx
        subst hx
        exact hw)
    refine ⟨ws, S2, o4, o5, o6, o7, o9, ?_, r1, r2, r3, k1.trans k2, c2.mono (by omega)⟩
    rw [rngF_succ, loop_cons, e_tgName, loopO_some]
    show loopK _ _ _ (bodyN [some (.ref l), a1, some (.str abc), some (.ref f), some (.int (k : Int)), a5, a6, a7, none, a9, none] S) = _
    rw [e1, loopK_nx, e2]
theorem law_names {N l : Nat} {S : Sto} (c : CaskOk N S l) (hN : N ≤ 700000) : ∃ (ws : List Str) (S' : Sto), f_law_names [.ref l, .int 3] S = .ok (.lst (ws.map .str)) S' ∧ ws.length = 3 ∧ (∀ w ∈ ws, isName w = true) ∧ Kp l S S' ∧ CaskOk (N + 100) S' l := by
  have hll : l < S.length := by obtain ⟨_, _, _, h, _⟩ := c; exact (List.getElem?_eq_some_iff.mp h).1
  have hne : S.length ≠ l := by omega
  obtain ⟨ws, S2, o4, o5, o6, o7, o9, e2, r1, r2, r3, k2, c2⟩ := n_loop (l := l) (f := S.length) hne (some (.int 3)) 3 0 N [] (S ++ [.lst []]) none none none none none (cask_pre1 c) (by omega) (by simp) rfl (by omega) (fun w h => by cases h)
  have hl2 : S.length < S2.length := (List.getElem?_eq_some_iff.mp r1).1
  refine ⟨ws, S2.set S.length .dead, ?_, r2, r3, kp_of_k2 (k2.trans k2_set), (cask_set c2 hne).mono (by omega)⟩
  have hr : ∀ S, rngR [.int 3] S = .ok (rngF 0 3) S := fun S => by
    have := rngR_nat (S := S) (n := 3) (by decide)
    rw [rngF_0] at this
    exact this
  have z0 : ∀ r : R D, sized [] r = r := fun r => sized_of (by simp)
  rw [names_def]
  simp only [dFn_eq, start_eq]
  have fz : ∀ (a0 a1 a2 a4 a5 a6 a7 a8 a9 a10 : Option D), dFrz (dVar 3) [a0, a1, a2, some (.ref S.length), a4, a5, a6, a7, a8, a9, a10] S2 = .ok (.lst (ws.map .str)) (S2.set S.length .dead) := fun a0 a1 a2 a4 a5 a6 a7 a8 a9 a10 => by
    unfold dFrz
    simp [r1]
  generalize ws.map D.str = wl at *
  generalize rngF 0 3 = rg at *
  generalize abc = ab at *
  simp -implicitDefEqProofs [-loop_cons, z0, sized_of, tgTup, hr, e2, fz]
/-! ## turns -/
def bodyT1 : DenS := (sSeq (sIf (dNotT (dTest (dCall f_law_deed_right (aCons (dVar 2) (aCons (dCall f_law_any_deed (aCons (dVar 2) (aCons (dVar 3) aNil))) aNil))))) (sSeq (sRet (dC (.bl false))) sNext) sNext) sNext)
theorem t1_loop {l : Nat} {ws : List Str} (hw : ∀ w ∈ ws, isName w = true) (hw0 : 0 < ws.length) (hw1 : ws.length ≤ 100) (a0 a1 a5 a6 : Option D) : ∀ (ks : List D) (N : Nat) (S : Sto) (a4 : Option D), CaskOk N S l → N + 120 * ks.length ≤ 800000 →
    ∃ (o4 : Option D) (S' : Sto), loopD (tgName 4) bodyT1 ks [a0, a1, some (.ref l), some (.lst (ws.map .str)), a4, a5, a6] S = .ok (.nx [a0, a1, some (.ref l), some (.lst (ws.map .str)), o4, a5, a6]) S' ∧ Kp l S S' ∧ CaskOk (N + 120 * ks.length) S' l
  | [], N, S, a4, c, _ => ⟨a4, S, rfl, Kp.refl _ _, c⟩
  | k :: ks, N, S, a4, c, hN => by
    simp only [List.length_cons] at hN
    obtain ⟨d, S1, e1, hd, kp1, c1⟩ := any_deed c (by omega) hw hw0 hw1
    obtain ⟨S2, e2, kp2, c2⟩ := deed_right c1 (by omega) hd
    obtain ⟨o4, S3, e3, kp3, c3⟩ := t1_loop hw hw0 hw1 a0 a1 a5 a6 ks (N + 120) S2 (some k) (c2.mono (by omega)) (by omega)
    refine ⟨o4, S3, ?_, kp1.trans (kp2.trans kp3), c3.mono (by simp; omega)⟩
    have e : bodyT1 [a0, a1, some (.ref l), some (.lst (ws.map .str)), some k, a5, a6] S = .ok (.nx [a0, a1, some (.ref l), some (.lst (ws.map .str)), some k, a5, a6]) S2 := by
      unfold bodyT1
      generalize ws.map D.str = wl at *
      simp -implicitDefEqProofs [e1, e2]
    rw [loop_cons, e_tgName, loopO_some]
    show loopK _ _ _ (bodyT1 [a0, a1, some (.ref l), some (.lst (ws.map .str)), some k, a5, a6] S) = _
    rw [e, loopK_nx, e3]
theorem lc_deeds {l : Nat} {ws : List Str} (hw : ∀ w ∈ ws, isName w = true) (hw0 : 0 < ws.length) (hw1 : ws.length ≤ 100) (a0 a1 a4 a5 : Option D) : ∀ (ks : List D) (N : Nat) (S : Sto), CaskOk N S l → N + 100 * ks.length ≤ 800000 →
    ∃ (ds : List D) (S' : Sto), lcD (tgName 6) tYesD (dCall f_law_any_deed (aCons (dVar 2) (aCons (dVar 3) aNil))) ks [a0, a1, some (.ref l), some (.lst (ws.map .str)), a4, a5, none] S = .ok ds S' ∧ ds.length = ks.length ∧ (∀ d ∈ ds, goodD d) ∧ Kp l S S' ∧ CaskOk (N + 100 * ks.length) S' l
  | [], N, S, c, _ => ⟨[], S, rfl, rfl, fun y h => (nomatch h), Kp.refl _ _, c⟩
  | k :: ks, N, S, c, hN => by
    simp only [List.length_cons] at hN
    obtain ⟨d, S1, e1, hd, kp1, c1⟩ := any_deed c (by omega) hw hw0 hw1
    obtain ⟨ds, S2, e2, hl, hg, kp2, c2⟩ := lc_deeds hw hw0 hw1 a0 a1 a4 a5 ks (N + 100) S1 c1 (by omega)
    refine ⟨d :: ds, S2, ?_, by simp [hl], fun x hx => ?_, kp1.trans kp2, c2.mono (by simp; omega)⟩
    · rw [lcD_cons]
      generalize ws.map D.str = wl at *
      simp -implicitDefEqProofs [-lcD_cons, -lcD_nil, e1, e2]
    · rcases List.mem_cons.mp hx with rfl | hx
      · exact hd
      · exact hg x hx
def bodyT2 : DenS := (sSeq (sAsg (dLc (iRange1 (aCons (dCall f_law_tap (aCons (dVar 2) (aCons (dOp2 ixD (dLst (aCons (dC (.int 6)) (aCons (dC (.int 31)) aNil))) (dOp2 andI (dVar 4) (dC (.int 1)))) aNil))) aNil)) (tgName 6) tYesD (dCall f_law_any_deed (aCons (dVar 2) (aCons (dVar 3) aNil))) [6]) (tgName 5)) (sSeq (sIf (dNotT (dTest (dCall f_law_history_right (aCons (dVar 2) (aCons (dCall f_law_any_number (aCons (dVar 2) aNil)) (aCons (dVar 5) aNil)))))) (sSeq (sRet (dC (.bl false))) sNext) sNext) sNext))
theorem t2_turn {N l : Nat} {S : Sto} (c : CaskOk N S l) (hN : N ≤ 700000) {ws : List Str} (hw : ∀ w ∈ ws, isName w = true) (hw0 : 0 < ws.length) (hw1 : ws.length ≤ 100) (a0 a1 a5 : Option D) {k : Nat} (hk : k < 4) :
    ∃ (o5 : Option D) (S' : Sto), bodyT2 [a0, a1, some (.ref l), some (.lst (ws.map .str)), some (.int (k : Int)), a5, none] S = .ok (.nx [a0, a1, some (.ref l), some (.lst (ws.map .str)), some (.int (k : Int)), o5, none]) S' ∧ Kp l S S' ∧ CaskOk (N + 4000) S' l := by
  obtain ⟨q, hq, hq1, hq2⟩ : ∃ q : Int, (∀ S, (andI S (.int (k : Int)) (.int 1)).bind (fun i => ixD S (.lst [.int 6, .int 31]) i) = some (.int q)) ∧ 0 < q ∧ q ≤ 31 := by
    match k, hk with
    | 0, _ => exact ⟨6, fun S => rfl, by decide, by decide⟩
    | 1, _ => exact ⟨31, fun S => rfl, by decide, by decide⟩
    | 2, _ => exact ⟨6, fun S => rfl, by decide, by decide⟩
    | 3, _ => exact ⟨31, fun S => rfl, by decide, by decide⟩
  obtain ⟨i, hi⟩ : ∃ i, ∀ S, andI S (.int (k : Int)) (.int 1) = some i := ⟨_, fun S => rfl⟩
  have hix : ∀ S, ixD S (.lst [.int 6, .int 31]) i = some (.int q) := fun S => by
    have := hq S
    rw [hi] at this
    exact this
  obtain ⟨v, S1, e1, v0, v1, kp1, c1⟩ := tap c (by omega) (span := q) hq1 (by omega)
  obtain ⟨m, rfl⟩ := Int.eq_ofNat_of_zero_le v0
  obtain ⟨ds, S2, e2, hl, hg, kp2, c2⟩ := lc_deeds hw hw0 hw1 a0 a1 (some (.int (k : Int))) a5 (rngD 0 m) (N + 1) S1 c1 (by rw [rng_len]; omega)
  rw [rng_len] at hl c2
  obtain ⟨n, S3, e3, hn, kp3, c3⟩ := any_number c2 (by omega)
  obtain ⟨S4, e4, kp4, c4⟩ := history_right c3 (by omega) hn (by omega) hg
  refine ⟨some (.lst ds), S4, ?_, kp1.trans (kp2.trans (kp3.trans kp4)), c4.mono (by omega)⟩
  have hr : ∀ S, rngR [.int (m : Int)] S = .ok (rngD 0 m) S := fun S => rngR_nat (by omega)
  have zl : (rngD 0 m).length ≤ sizeLine := by rw [rng_len]; exact small (by omega)
  unfold bodyT2
  generalize ws.map D.str = wl at *
  generalize rngD 0 m = rg at *
  simp -implicitDefEqProofs [-lcD_cons, -lcD_nil, e_dLc, sized_of, hi, hix, e1, hr, zl, wipeD, e2, e3, e4]
end K51
namespace K51
open PySem L2 Tok
theorem t2_loop {l : Nat} {ws : List Str} (hw : ∀ w ∈ ws, isName w = true) (hw0 : 0 < ws.length) (hw1 : ws.length ≤ 100) (a0 a1 : Option D) : ∀ (ks : List D) (N : Nat) (S : Sto) (a4 a5 : Option D), (∀ d ∈ ks, ∃ k : Nat, k < 4 ∧ d = .int k) → CaskOk N S l → N + 4000 * ks.length ≤ 600000 →
    ∃ (o4 o5 : Option D) (S' : Sto), loopD (tgName 4) bodyT2 ks [a0, a1, some (.ref l), some (.lst (ws.map .str)), a4, a5, none] S = .ok (.nx [a0, a1, some (.ref l), some (.lst (ws.map .str)), o4, o5, none]) S' ∧ Kp l S S' ∧ CaskOk (N + 4000 * ks.length) S' l
  | [], N, S, a4, a5, _, c, _ => ⟨a4, a5, S, rfl, Kp.refl _ _, c⟩
  | d :: ks, N, S, a4, a5, hd, c, hN => by
    simp only [List.length_cons] at hN
    obtain ⟨k, hk, rfl⟩ := hd d List.mem_cons_self
    obtain ⟨b5, S1, e1, kp1, c1⟩ := t2_turn c (by omega) hw hw0 hw1 a0 a1 a5 hk
    obtain ⟨o4, o5, S2, e2, kp2, c2⟩ := t2_loop hw hw0 hw1 a0 a1 ks (N + 4000) S1 (some (.int (k : Int))) b5 (fun x hx => hd x (List.mem_cons_of_mem _ hx)) c1 (by omega)
    refine ⟨o4, o5, S2, ?_, kp1.trans kp2, c2.mono (by simp; omega)⟩
    rw [loop_cons, e_tgName, loopO_some]
    show loopK _ _ _ (bodyT2 [a0, a1, some (.ref l), some (.lst (ws.map .str)), some (.int (k : Int)), a5, none] S) = _
    rw [e1, loopK_nx, e2]
def lt1 : DenS := sAsg (dCall f_law_cask (aCons (dVar 0) (aCons (dVar 1) aNil))) (tgName 2)
def lt2 : DenS := sAsg (dOp2 addE (dCall f_law_names (aCons (dVar 2) (aCons (dC (.int 3)) aNil))) (dLst (aCons (dC (.str "none")) (aCons (dC (.str "begin")) aNil)))) (tgName 3)
def lt3 : DenS := sFor (iRange1 (aCons (dC (.int 16)) aNil)) (tgName 4) bodyT1
def lt4 : DenS := sFor (iRange1 (aCons (dC (.int 4)) aNil)) (tgName 4) bodyT2
def bodyAt : DenS := sSeq lt1 (sSeq lt2 (sSeq lt3 (sSeq lt4 sNext)))
def endDen : DenS := (sSeq (sRet (dAnd (dCall (f_law_agree 8) (aCons (dCall f_law_said (aCons (dC (.int 6)) (aCons (dC (.str "0")) aNil))) (aCons (dTup (aCons (dC (.str "fine")) (aCons (dTup (aCons (dC (.int 0)) (aCons (dLst aNil) aNil))) aNil))) aNil))) (dOp2 eqE (dCall f_law_said (aCons (dC (.int 6)) (aCons (dC (.str "")) aNil))) (dTup (aCons (dC (.str "at")) (aCons (dC (.int 0)) aNil)))))) sNext)
theorem law_def : f_law = dFn 7 (sSeq (sFor (iRange1 (aCons (dOpN maxD (aCons (dC (.int 1)) (aCons (dOpN minD (aCons (dC (.int 3)) (aCons (dOpN lenD (aCons (dVar 0) aNil)) aNil))) aNil))) aNil)) (tgName 1) bodyAt) endDen) := rfl
theorem at_turn (ns : List Int) {k : Nat} (hk : k ≤ 3) (S : Sto) (a2 a3 a4 a5 : Option D) : ∃ (o2 o3 o4 o5 : Option D) (S' : Sto), bodyAt [some (.scr (ns.map .int)), some (.int (k : Int)), a2, a3, a4, a5, none] S = .ok (.nx [some (.scr (ns.map .int)), some (.int (k : Int)), o2, o3, o4, o5, none]) S' := by
  obtain ⟨o, e1, c1⟩ := law_cask ns k hk S
  have q1 : lt1 [some (.scr (ns.map .int)), some (.int (k : Int)), a2, a3, a4, a5, none] S = .ok (.nx [some (.scr (ns.map .int)), some (.int (k : Int)), some (.ref S.length), a3, a4, a5, none]) (S ++ [o]) := by
    unfold lt1
    generalize ns.map D.int = nl at *
    simp -implicitDefEqProofs [e1]
  obtain ⟨ws, S2, e2, hl, hw, kp2, c2⟩ := law_names c1 (by omega)
  have nm1 : isName ("none" : Str) = true := by decide +kernel
  have nm2 : isName ("begin" : Str) = true := by decide +kernel
  have hw' : ∀ w ∈ ws ++ [("none" : Str), "begin"], isName w = true := fun w hm => by
    rcases List.mem_append.mp hm with hm | hm
    · exact hw w hm
    · simp only [List.mem_cons, List.not_mem_nil, or_false] at hm
      rcases hm with rfl | rfl
      · exact nm1
      · exact nm2
  have q2 : lt2 [some (.scr (ns.map .int)), some (.int (k : Int)), some (.ref S.length), a3, a4, a5, none] (S ++ [o]) = .ok (.nx [some (.scr (ns.map .int)), some (.int (k : Int)), some (.ref S.length), some (.lst ((ws ++ [("none" : Str), "begin"]).map .str)), a4, a5, none]) S2 := by
    have ad : addE S2 (.lst (ws.map .str)) (.lst [.str "none", .str "begin"]) = some (.lst ((ws ++ [("none" : Str), "begin"]).map .str)) := by
      rw [add_lst (by simp; omega)]
      simp
    unfold lt2
    generalize (ws ++ [("none" : Str), "begin"]).map D.str = w5 at *
    generalize ws.map D.str = w3 at *
    generalize ns.map D.int = nl at *
    simp -implicitDefEqProofs [e2, sized_of, ad]
  have hl5 : (ws ++ [("none" : Str), "begin"]).length = 5 := by simp [hl]
  generalize ws ++ [("none" : Str), "begin"] = wz at *
  obtain ⟨o4, S3, e3, kp3, c3⟩ := t1_loop hw' (by omega) (by omega) (some (.scr (ns.map .int))) (some (.int (k : Int))) a5 none (rngD 0 16) (0 + 100) S2 a4 c2 (by rw [rng_len]; omega)
  have q3 : lt3 [some (.scr (ns.map .int)), some (.int (k : Int)), some (.ref S.length), some (.lst (wz.map .str)), a4, a5, none] S2 = .ok (.nx [some (.scr (ns.map .int)), some (.int (k : Int)), some (.ref S.length), some (.lst (wz.map .str)), o4, a5, none]) S3 := by
    have hr : ∀ S, rngR [.int 16] S = .ok (rngD 0 16) S := fun S => rngR_nat (n := 16) (by decide)
    unfold lt3
    rw [← e3]
    simp -implicitDefEqProofs [-loop_cons, hr]
  rw [rng_len] at c3
  obtain ⟨b4, b5, S4, e4, kp4, c4⟩ := t2_loop hw' (by omega) (by omega) (some (.scr (ns.map .int))) (some (.int (k : Int))) (rngD 0 4) (0 + 100 + 120 * 16) S3 o4 a5 (fun d hd => rng_mem hd) c3 (by rw [rng_len]; omega)
  have q4 : lt4 [some (.scr (ns.map .int)), some (.int (k : Int)), some (.ref S.length), some (.lst (wz.map .str)), o4, a5, none] S3 = .ok (.nx [some (.scr (ns.map .int)), some (.int (k : Int)), some (.ref S.length), some (.lst (wz.map .str)), b4, b5, none]) S4 := by
    have hr : ∀ S, rngR [.int 4] S = .ok (rngD 0 4) S := fun S => rngR_nat (n := 4) (by decide)
    unfold lt4
    rw [← e4]
    simp -implicitDefEqProofs [-loop_cons, hr]
  refine ⟨some (.ref S.length), some (.lst (wz.map .str)), b4, b5, S4, ?_⟩
  unfold bodyAt
  rw [seq_nx q1, seq_nx q2, seq_nx q3, seq_nx q4]
  rfl
theorem ats_ok (ns : List Int) : ∀ (ks : List D) (S : Sto) (a1 a2 a3 a4 a5 : Option D), (∀ d ∈ ks, ∃ k : Nat, k ≤ 3 ∧ d = .int k) →
    ∃ (o1 o2 o3 o4 o5 : Option D) (S' : Sto), loopD (tgName 1) bodyAt ks [some (.scr (ns.map .int)), a1, a2, a3, a4, a5, none] S = .ok (.nx [some (.scr (ns.map .int)), o1, o2, o3, o4, o5, none]) S'
  | [], S, a1, a2, a3, a4, a5, _ => ⟨a1, a2, a3, a4, a5, S, rfl⟩
  | d :: ks, S, a1, a2, a3, a4, a5, hd => by
    obtain ⟨k, hk, rfl⟩ := hd d List.mem_cons_self
    obtain ⟨b2, b3, b4, b5, S1, e1⟩ := at_turn ns hk S a2 a3 a4 a5
    obtain ⟨o1, o2, o3, o4, o5, S2, e2⟩ := ats_ok ns ks S1 (some (.int (k : Int))) b2 b3 b4 b5 fun x hx => hd x (List.mem_cons_of_mem _ hx)
    refine ⟨o1, o2, o3, o4, o5, S2, ?_⟩
    rw [loop_cons, e_tgName, loopO_some]
    show loopK _ _ _ (bodyAt [some (.scr (ns.map .int)), some (.int (k : Int)), a2, a3, a4, a5, none] S) = _
    rw [e1, loopK_nx, e2]
theorem end_ok (ρ : Tok.Env) (S : Sto) : ∃ S', endDen ρ S = .ok (.rt (.bl true)) S' := by
  have t0 : histT 0 [] = ("0" : Str) := by decide +kernel
  have s1 := said_hist_back (w := 6) (.inl rfl) (n := 0) (ds := []) (by decide +kernel) (by simp) (fun d h => by cases h)
  rw [t0] at s1
  have hh : headS "" = ("" : Str) := by decide +kernel
  have hv : numV (headS "") = none := by rw [hh]; decide +kernel
  have s2 : ∀ S, f_law_said [.int 6, .str ""] S = .ok (atD (.int 0)) S := fun S => said_at (by rw [asked_rhist (.inl rfl)]; exact (read_history (by decide +kernel) S).1 hv)
  have ag : f_law_agree 8 [fineD (.tup [.int ((0 : Nat) : Int), .ref S.length]), fineD (.tup [.int ((0 : Nat) : Int), .lst []])] (S ++ [.lst []]) = .ok (.bl true) (S ++ [.lst []]) :=
    agree_ok 7 _ _ _ (agR_fine (agR_pair agR_i (agR_ref (by simp) (by simp) fun x h => by cases h)))
  have eq : ∀ S, eqE S (atD (.int 0)) (.tup [.str "at", .int 0]) = some (.bl true) := fun S => by
    have e : eqE S (atD (.int 0)) (.tup [.str "at", .int 0]) = (eqB (atD (.int 0)) (.tup [.str "at", .int 0])).map .bl := rfl
    have e2 : eqB (atD (.int 0)) (.tup [.str "at", .int 0]) = some true := by decide +kernel
    rw [e, e2]
    rfl
  have z00 : ((0 : Nat) : Int) = 0 := rfl
  rw [z00] at s1 ag
  have f1 : D.tup [.str "fine", .tup [.int 0, .lst []]] = fineD (.tup [.int 0, .lst []]) := rfl
  refine ⟨S ++ [.lst []], ?_⟩
  unfold endDen
  have z0 : ∀ r : R D, sized [] r = r := fun r => sized_of (by simp)
  generalize hx1 : fineD (.tup [.int 0, .lst []]) = x1 at *
  generalize hx2 : fineD (.tup [.int 0, .ref S.length]) = x2 at *
  simp -implicitDefEqProofs [s1, hx2, z0, sized_of, f1, ag, s2, eq]
theorem law_true : ∀ ns : List Int, ns.length ≤ 63 → ∃ S', f_law [.scr (ns.map .int)] [] = .ok (.bl true) S' := by
  intro ns hns
  obtain ⟨n, mm, h1, h2, hn⟩ : ∃ (n : Nat) (mm : Int), (∀ S, minD S [.int 3, .int (ns.length : Int)] = some (.int mm)) ∧ (∀ S, maxD S [.int 1, .int mm] = some (.int (n : Int))) ∧ n ≤ 3 := by
    by_cases c : ns.length < 3
    · by_cases c2 : ns.length ≤ 1
      · exact ⟨1, ns.length, fun S => by have : (ns.length : Int) < 3 := by omega
                                         simp [minD, this], fun S => by have : ¬ ((1 : Int) < ns.length) := by omega
                                                                        simp [maxD, this], by omega⟩
      · exact ⟨ns.length, ns.length, fun S => by have : (ns.length : Int) < 3 := by omega
                                                 simp [minD, this], fun S => by have : ((1 : Int) < ns.length) := by omega
                                                                                simp [maxD, this], by omega⟩
    · exact ⟨3, 3, fun S => by have : ¬ ((ns.length : Int) < 3) := by omega
                               simp [minD, this], fun S => by simp [maxD], by omega⟩
  have hd : ∀ d ∈ rngD 0 n, ∃ k : Nat, k ≤ 3 ∧ d = .int k := fun d hd => by
    obtain ⟨k, hk, rfl⟩ := rng_mem hd
    exact ⟨k, by omega, rfl⟩
  obtain ⟨b1, b2, b3, b4, b5, S1, e1⟩ := ats_ok ns (rngD 0 n) [] none none none none none hd
  obtain ⟨S2, e2⟩ := end_ok [some (.scr (ns.map .int)), b1, b2, b3, b4, b5, none] S1
  refine ⟨S2, ?_⟩
  have hr : rngR [.int (n : Int)] [] = .ok (rngD 0 n) [] := rngR_nat (by omega)
  have hl : (ns.map D.int).length = ns.length := by simp
  have s1 : sFor (iRange1 (aCons (dOpN maxD (aCons (dC (.int 1)) (aCons (dOpN minD (aCons (dC (.int 3)) (aCons (dOpN lenD (aCons (dVar 0) aNil)) aNil))) aNil))) aNil)) (tgName 1) bodyAt [some (.scr (ns.map .int)), none, none, none, none, none, none] [] = .ok (.nx [some (.scr (ns.map .int)), b1, b2, b3, b4, b5, none]) S1 := by
    rw [← e1]
    simp -implicitDefEqProofs [-loop_cons, lenD, hl, h1, h2, hr]
  rw [law_def, dFn_eq]
  show fin (sSeq _ endDen [some (.scr (ns.map .int)), none, none, none, none, none, none] []) = _
  rw [seq_nx s1, e2]
  rfl
end K51
open PySem PySem.W PyProof.Rows
set_option maxRecDepth 100000 in
set_option maxHeartbeats 0 in
theorem PySem.Challenge.cw_tokenreads_k51_texts_of_deeds_and_histor_holds : PySem.Challenge.rw_tokenreads_k51_texts_of_deeds_and_histor.Holds := by
  w_on; o_law; k_head; (case hw => w_witness2)
  k_fill
  refine K51.walk (l := PySem.Challenge.rw_tokenreads_k51_texts_of_deeds_and_histor) rfl rfl (fun w h Y => PySem.W.kIn_of Y) ?F
  case F =>
    intro w mg fa h KX G hmg
    refine' K51.all_mk K51.law_true KX G hmg ?q0 ?q1 ?q2 ?q3 ?q4 ?q5 ?q6 ?q7 ?q8 ?q9 ?q10 ?q11 ?q12 ?q13 ?q14 ?q15 ?q16 ?q17 ?q18 ?q19 ?q20 ?q21 ?q22 ?q23 ?q24 ?q25 ?q26 ?q27 ?q28 ?q29 ?q30 ?q31 ?q32 ?q33 ?q34 ?q35 ?q36 ?q37 ?q38 ?q39 ?q40 ?q41 ?q42 ?q43 ?q44 ?q45 ?q46 ?q47 ?q48 ?q49 ?q50 ?q51 ?q52 ?q53 ?q54 ?q55 ?q56 ?q57 ?q58 ?q59 ?q60 ?q61 ?q62 ?q63 ?q64 ?q65 ?q66 ?q67 ?q68 ?q69 ?q70 ?q71 ?q72 ?q73 ?q74 ?q75 ?q76 ?q77 ?q78 ?q79 ?q80 ?q81 ?q82 ?q83 ?q84 ?q85 ?q86 ?q87 ?q88 ?q89 ?q90 ?q91 ?q92 ?q93 ?q94 ?q95 ?q96 ?q97 ?q98 ?q99 ?q100 ?q101 ?q102 ?q103 ?q104 ?q105 ?q106 ?q107 ?q108 ?q109 ?q110 ?q111 ?q112 ?q113 ?q114 ?q115 ?q116 ?q117 ?q118 ?q119 ?q120 ?q121 ?q122 ?q123 ?q124 ?q125 ?q126 ?q127 ?q128 ?q129 ?q130 ?q131 ?q132 ?q133 ?q134 ?q135 ?q136 ?q137 ?q138 ?q139 ?q140 ?q141 ?q142 ?q143 ?q144 ?q145 ?q146 ?q147 ?q148 ?q149 ?q150 ?q151 ?q152 ?q153 ?q154 ?q155 ?q156 ?q157 ?q158 ?q159 ?q160 ?q161 ?q162 ?q163 ?q164 ?q165 ?q166 ?q167 ?q168 ?q169 ?q170 ?q171 ?q172 ?q173 ?q174 ?q175 ?q176 ?q177 ?q178 ?q179 ?q180 ?q181 ?q182 ?q183 ?q184 ?q185 ?q186 ?q187 ?q188 ?q189 ?q190 ?q191 ?q192 ?q193 ?q194 ?q195 ?q196 ?q197 ?q198 ?q199 ?q200 ?q201 ?q202 ?q203 ?q204 ?q205 ?q206 ?q207 ?q208 ?q209 ?q210 ?q211 ?q212 ?q213 ?q214 ?q215 ?q216 ?q217 ?q218 ?q219 ?q220 ?q221 ?q222 ?q223 ?q224 ?q225 ?q226 ?q227 ?q228 ?q229 ?q230 ?q231 ?q232 ?q233 ?q234 ?q235 ?q236 ?q237 ?q238 ?q239 ?q240 ?q241 ?q242 ?q243 ?q244 ?q245 ?q246 ?q247 ?q248 ?q249 ?q250 ?q251 ?q252 ?q253 ?q254 ?q255 ?q256 ?q257 ?q258 ?q259 ?q260 ?q261 ?q262 ?q263 ?q264 ?q265 ?q266 ?q267 ?q268 ?q269 ?q270 ?q271 ?q272 ?q273 ?q274 ?q275 ?q276 ?q277 ?q278 ?q279 ?q280 ?q281
    (case q0 => k_is); (case q1 => k_is); (case q2 => k_is); (case q3 => k_is); (case q4 => k_is); (case q5 => k_is)
    (case q6 => k_is); (case q7 => k_is); (case q8 => k_is); (case q9 => k_is); (case q10 => k_is); (case q11 => k_is)
    (case q12 => k_is); (case q13 => k_is); (case q14 => k_is); (case q15 => k_is); (case q16 => k_is); (case q17 => k_is)
    (case q18 => k_is); (case q19 => k_is); (case q20 => k_is); (case q21 => k_is); (case q22 => k_is); (case q23 => k_is)
    (case q24 => k_is); (case q25 => k_is); (case q26 => k_is); (case q27 => k_is); (case q28 => k_is); (case q29 => k_is)
    (case q30 => k_is); (case q31 => k_is); (case q32 => k_is); (case q33 => k_is); (case q34 => k_is); (case q35 => k_is)
    (case q36 => k_is); (case q37 => k_is); (case q38 => k_is); (case q39 => k_is); (case q40 => k_is); (case q41 => k_is)
    (case q42 => k_is); (case q43 => k_is); (case q44 => k_is); (case q45 => k_is); (case q46 => k_is); (case q47 => k_is)
    (case q48 => k_is); (case q49 => k_is); (case q50 => k_is); (case q51 => k_is); (case q52 => k_is); (case q53 => k_is)
    (case q54 => k_is); (case q55 => k_is); (case q56 => k_is); (case q57 => k_is); (case q58 => k_is); (case q59 => k_is)
    (case q60 => k_is); (case q61 => k_is); (case q62 => k_is); (case q63 => k_is); (case q64 => k_is); (case q65 => k_is)
    (case q66 => k_is); (case q67 => k_is); (case q68 => k_is); (case q69 => k_is); (case q70 => k_is); (case q71 => k_is)
    (case q72 => k_is); (case q73 => k_is); (case q74 => k_is); (case q75 => k_is); (case q76 => k_is); (case q77 => k_is)
    (case q78 => k_is); (case q79 => k_is); (case q80 => k_is); (case q81 => k_is); (case q82 => k_is); (case q83 => k_is)
    (case q84 => k_is); (case q85 => k_is); (case q86 => k_is); (case q87 => k_is); (case q88 => k_is); (case q89 => k_is)
    (case q90 => k_is); (case q91 => k_is); (case q92 => k_is); (case q93 => k_is); (case q94 => k_is); (case q95 => k_is)
    (case q96 => k_is); (case q97 => k_is); (case q98 => k_is); (case q99 => k_is); (case q100 => k_is); (case q101 => k_is)
    (case q102 => k_is); (case q103 => k_is); (case q104 => k_is); (case q105 => k_is); (case q106 => k_is); (case q107 => k_is)
    (case q108 => k_is); (case q109 => k_is); (case q110 => k_is); (case q111 => k_is); (case q112 => k_is); (case q113 => k_is)
    (case q114 => k_is); (case q115 => k_is); (case q116 => k_is); (case q117 => k_is); (case q118 => k_is); (case q119 => k_is)
    (case q120 => k_is); (case q121 => k_is); (case q122 => k_is); (case q123 => k_is); (case q124 => k_is); (case q125 => k_is)
    (case q126 => k_is); (case q127 => k_is); (case q128 => k_is); (case q129 => k_is); (case q130 => k_is); (case q131 => k_is)
    (case q132 => k_is); (case q133 => k_is); (case q134 => k_is); (case q135 => k_is); (case q136 => k_is); (case q137 => k_is)
    (case q138 => k_is); (case q139 => k_is); (case q140 => k_is); (case q141 => k_is); (case q142 => k_is); (case q143 => k_is)
    (case q144 => k_is); (case q145 => k_is); (case q146 => k_is); (case q147 => k_is); (case q148 => k_is); (case q149 => k_is)
    (case q150 => k_is); (case q151 => k_is); (case q152 => k_is); (case q153 => k_is); (case q154 => k_is); (case q155 => k_is)
    (case q156 => k_is); (case q157 => k_is); (case q158 => k_is); (case q159 => k_is); (case q160 => k_is); (case q161 => k_is)
    (case q162 => k_is); (case q163 => k_is); (case q164 => k_is); (case q165 => k_is); (case q166 => k_is); (case q167 => k_is)
    (case q168 => k_is); (case q169 => k_is); (case q170 => k_is); (case q171 => k_is); (case q172 => k_is); (case q173 => k_is)
    (case q174 => k_is); (case q175 => k_is); (case q176 => k_is); (case q177 => k_is); (case q178 => k_is); (case q179 => k_is)
    (case q180 => k_is); (case q181 => k_is); (case q182 => k_is); (case q183 => k_is); (case q184 => k_is); (case q185 => k_is)
    (case q186 => k_is); (case q187 => k_is); (case q188 => k_is); (case q189 => k_is); (case q190 => k_is); (case q191 => k_is)
    (case q192 => k_is); (case q193 => k_is); (case q194 => k_is); (case q195 => k_is); (case q196 => k_is); (case q197 => k_is)
    (case q198 => k_is); (case q199 => k_is); (case q200 => k_is); (case q201 => k_is); (case q202 => k_is); (case q203 => k_is)
    (case q204 => k_is); (case q205 => k_is); (case q206 => k_is); (case q207 => k_is); (case q208 => k_is); (case q209 => k_is)
    (case q210 => k_is); (case q211 => k_is); (case q212 => k_is); (case q213 => k_is); (case q214 => k_is); (case q215 => k_is)
    (case q216 => k_is); (case q217 => k_is); (case q218 => k_is); (case q219 => k_is); (case q220 => k_is); (case q221 => k_is)
    (case q222 => k_is); (case q223 => k_is); (case q224 => k_is); (case q225 => k_is); (case q226 => k_is); (case q227 => k_is)
    (case q228 => k_is); (case q229 => k_is); (case q230 => k_is); (case q231 => k_is); (case q232 => k_is); (case q233 => k_is)
    (case q234 => k_is); (case q235 => k_is); (case q236 => k_is); (case q237 => k_is); (case q238 => k_is); (case q239 => k_is)
    (case q240 => k_is); (case q241 => k_is); (case q242 => k_is); (case q243 => k_is); (case q244 => k_is); (case q245 => k_is)
    (case q246 => k_is); (case q247 => k_is); (case q248 => k_is); (case q249 => k_is); (case q250 => k_is); (case q251 => k_is)
    (case q252 => k_is); (case q253 => k_is); (case q254 => k_is); (case q255 => k_is); (case q256 => k_is); (case q257 => k_is)
    (case q258 => k_is); (case q259 => k_is); (case q260 => k_is); (case q261 => k_is); (case q262 => k_keys); (case q263 => rfl)
    (case q264 => k_is); (case q265 => k_is); (case q266 => k_is); (case q267 => k_is); (case q268 => k_is); (case q269 => k_is)
    (case q270 => k_is); (case q271 => k_is); (case q272 => k_is); (case q273 => k_is); (case q274 => k_is); (case q275 => k_is)
    (case q276 => k_exc); (case q277 => k_exc); (case q278 => k_is); (case q279 => k_is); (case q280 => k_is); (case q281 => k_is)
