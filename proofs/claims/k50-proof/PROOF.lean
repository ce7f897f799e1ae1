import PyProof.Rows.All
import HandS.ForSpec
import HandS.ForMost
import HandS.Star
import HandS.IsInst
import HandS.Zip
import HandS.SetIn
import HandS.TupAny
import HandS.FStr
import HandS.ReplaceLit
import HandS.Conv
import HandS.ExcCtx
import KE.KUnpackStar
import HandS.Style
import HandS.ExcInit
import HandS.OwnIter
import HandS.IterVal
import HandS.ExcInitHot
import HandS.ExcField
import HandS.ExcIs
import KE.KExcIs
import PySem.Challenge.RW_tokenreads_k50_texts_of_books
import HandS.ForDict
import PyProof.StrLawsReplace
import PyProof.Rows.StrSplitJoin
import PyProof.Rows.StrSplitAre
set_option Elab.async false
set_option linter.all false
set_option maxRecDepth 100000
set_option autoImplicit false
namespace Tok
open PySem L2

/-! data as trees; what may change stands in a store -/
inductive D where
  | non | bl (b : Bool) | int (i : Int) | str (s : Str)
  | tup (xs : List D) | lst (xs : List D) | scr (xs : List D)
  | dct (ks : List Str) (vs : List D)
  | ref (l : Nat)
  | fn (i : Nat)
  deriving Inhabited
inductive SO where
  | lst (xs : List D) | ins (c : Nat) (fs : List (Str × D)) | dead
  deriving Inhabited
abbrev Sto := List SO
def SO.live : SO → Prop
  | .dead => False
  | _ => True
abbrev Env := List (Option D)
inductive R (α : Type) where
  | ok (a : α) (S : Sto) | exn (c : Nat) (fs : List (Str × D)) (S : Sto) | bad
def R.bind {α β : Type} (r : R α) (k : α → Sto → R β) : R β := match r with
  | .ok a S => k a S
  | .exn c fs S => .exn c fs S
  | .bad => .bad
@[simp] theorem R.bind_ok {α β : Type} {a : α} {S : Sto} {k : α → Sto → R β} : (R.ok a S).bind k = k a S := rfl
@[simp] theorem R.bind_exn {α β : Type} {c : Nat} {fs} {S : Sto} {k : α → Sto → R β} : (R.exn c fs S : R α).bind k = .exn c fs S := rfl
@[simp] theorem R.bind_bad {α β : Type} {k : α → Sto → R β} : (R.bad : R α).bind k = .bad := rfl
def R.ofO {α : Type} (o : Option α) (S : Sto) : R α := match o with
  | some a => .ok a S
  | none => .bad
@[simp] theorem R.ofO_some {α : Type} {a : α} {S : Sto} : R.ofO (some a) S = .ok a S := rfl
@[simp] theorem R.ofO_none {α : Type} {S : Sto} : R.ofO (none : Option α) S = .bad := rfl

/-- the ground: the written part, where the classes stand, where the defs stand -/
structure Gx where
  K : PySem.W.Frag
  CA : Nat → Addr
  FA : Nat → Addr

mutual
inductive Rep (G : Gx) (η : List Addr) (T : Hp) : D → V → Prop
  | non : Rep G η T .non .non
  | bl {b} : Rep G η T (.bl b) (.bl b)
  | int {i} : Rep G η T (.int i) (.int i)
  | str {s} : Rep G η T (.str s) (.str s)
  | tup {a : Addr} {vs : List V} {ds : List D} : SqT G.K T a vs → Reps G η T ds vs → Rep G η T (.tup ds) (.ref a)
  | lst {a : Addr} {vs : List V} {ds : List D} : T a = some (.lst vs) → Reps G η T ds vs → Rep G η T (.lst ds) (.ref a)
  | scr {a : Addr} {vs : List V} {ds : List D} : SqL G.K T a vs → Reps G η T ds vs → Rep G η T (.scr ds) (.ref a)
  | dct {a : Addr} {ks : List Str} {vs : List V} {ds : List D} : ks.Nodup → ks.length = vs.length → Rd T a (.dK ((ks.map Sum.inr).zip vs)) → Reps G η T ds vs → Rep G η T (.dct ks ds) (.ref a)
  | ref {l : Nat} {a : Addr} : η[l]? = some a → Rep G η T (.ref l) (.ref a)
  | fn {i : Nat} : Rep G η T (.fn i) (.ref (G.FA i))
inductive Reps (G : Gx) (η : List Addr) (T : Hp) : List D → List V → Prop
  | nil : Reps G η T [] []
  | cons {d : D} {v : V} {ds : List D} {vs : List V} : Rep G η T d v → Reps G η T ds vs → Reps G η T (d :: ds) (v :: vs)
end

structure Ext (η : List Addr) (T : Hp) (η' : List Addr) (T' : Hp) : Prop where
  pre : η <+: η'
  sub : ∀ a o, T a = some o → T' a = some o
theorem Ext.refl {η : List Addr} {T : Hp} : Ext η T η T := ⟨List.prefix_refl _, fun _ _ h => h⟩
theorem Ext.trans {η η' η'' : List Addr} {T T' T'' : Hp} (a : Ext η T η' T') (b : Ext η' T' η'' T'') : Ext η T η'' T'' :=
  ⟨a.pre.trans b.pre, fun x o h => b.sub x o (a.sub x o h)⟩
theorem pre_get {α : Type} {l l' : List α} (h : l <+: l') {i : Nat} {x : α} (e : l[i]? = some x) : l'[i]? = some x := by
  obtain ⟨t, rfl⟩ := h
  rw [List.getElem?_append_left (List.getElem?_eq_some_iff.mp e).1]
  exact e
theorem rd_mono {T T' : Hp} (h : ∀ a o, T a = some o → T' a = some o) {a : Addr} {u : HO} (r : Rd T a u) : Rd T' a u := by
  rcases r with r | ⟨o, r⟩
  · exact .inl (h _ _ r)
  · exact .inr ⟨o, h _ _ r⟩
theorem sqT_mono {K : PySem.W.Frag} {T T' : Hp} (h : ∀ a o, T a = some o → T' a = some o) {a : Addr} {xs : List V} (r : SqT K T a xs) : SqT K T' a xs := r.imp (rd_mono h) id
theorem sqL_mono {K : PySem.W.Frag} {T T' : Hp} (h : ∀ a o, T a = some o → T' a = some o) {a : Addr} {xs : List V} (r : SqL K T a xs) : SqL K T' a xs := r.imp (rd_mono h) id

section
variable {G : Gx} {η η' : List Addr} {T T' : Hp}
mutual
theorem Rep.mono (e : Ext η T η' T') : ∀ {d : D} {v : V}, Rep G η T d v → Rep G η' T' d v
  | _, _, .non => .non
  | _, _, .bl => .bl
  | _, _, .int => .int
  | _, _, .str => .str
  | _, _, .tup h r => .tup (sqT_mono e.sub h) (Reps.mono e r)
  | _, _, .lst h r => .lst (e.sub _ _ h) (Reps.mono e r)
  | _, _, .scr h r => .scr (sqL_mono e.sub h) (Reps.mono e r)
  | _, _, .dct n l h r => .dct n l (rd_mono e.sub h) (Reps.mono e r)
  | _, _, .ref h => .ref (pre_get e.pre h)
  | _, _, .fn => .fn
theorem Reps.mono (e : Ext η T η' T') : ∀ {ds : List D} {vs : List V}, Reps G η T ds vs → Reps G η' T' ds vs
  | _, _, .nil => .nil
  | _, _, .cons h r => .cons (Rep.mono e h) (Reps.mono e r)
end
theorem Reps.length : ∀ {ds : List D} {vs : List V}, Reps G η T ds vs → ds.length = vs.length
  | _, _, .nil => rfl
  | _, _, .cons _ r => congrArg (· + 1) (Reps.length r)
theorem Reps.get : ∀ {ds : List D} {vs : List V} {i : Nat} {d : D}, Reps G η T ds vs → ds[i]? = some d → ∃ v, vs[i]? = some v ∧ Rep G η T d v
  | _, _, _, _, .nil, e => by simp at e
  | _, _, 0, _, .cons r _, e => by
    simp at e; subst e; exact ⟨_, rfl, r⟩
  | _, _, i + 1, d, .cons _ t, e => by
    obtain ⟨u, h1, h2⟩ := Reps.get (i := i) (d := d) t (by simpa using e)
    exact ⟨u, by simpa using h1, h2⟩
theorem Reps.get' : ∀ {ds : List D} {vs : List V} {i : Nat} {v : V}, Reps G η T ds vs → vs[i]? = some v → ∃ d, ds[i]? = some d ∧ Rep G η T d v
  | _, _, _, _, .nil, e => by simp at e
  | _, _, 0, _, .cons r _, e => by
    simp at e; subst e; exact ⟨_, rfl, r⟩
  | _, _, i + 1, d, .cons _ t, e => by
    obtain ⟨u, h1, h2⟩ := Reps.get' (i := i) (v := d) t (by simpa using e)
    exact ⟨u, by simpa using h1, h2⟩
theorem Reps.append : ∀ {ds es : List D} {vs us : List V}, Reps G η T ds vs → Reps G η T es us → Reps G η T (ds ++ es) (vs ++ us)
  | _, _, _, _, .nil, s => s
  | _, _, _, _, .cons r t, s => .cons r (Reps.append t s)
theorem Reps.take : ∀ {ds : List D} {vs : List V} (n : Nat), Reps G η T ds vs → Reps G η T (ds.take n) (vs.take n)
  | _, _, 0, _ => .nil
  | _, _, _ + 1, .nil => .nil
  | _, _, n + 1, .cons r t => .cons r (Reps.take n t)
theorem Reps.drop : ∀ {ds : List D} {vs : List V} (n : Nat), Reps G η T ds vs → Reps G η T (ds.drop n) (vs.drop n)
  | _, _, 0, r => r
  | _, _, _ + 1, .nil => .nil
  | _, _, n + 1, .cons _ t => Reps.drop n t
theorem Reps.set {d : D} {v : V} (r : Rep G η T d v) : ∀ {ds : List D} {vs : List V} (i : Nat), Reps G η T ds vs → Reps G η T (ds.set i d) (vs.set i v)
  | _, _, _, .nil => .nil
  | _, _, 0, .cons _ t => .cons r t
  | _, _, i + 1, .cons q t => .cons q (Reps.set r i t)
theorem Reps.one {d : D} {v : V} (r : Rep G η T d v) : Reps G η T [d] [v] := .cons r .nil

def RepF (G : Gx) (η : List Addr) (T : Hp) (fs : List (Str × D)) (fv : List (Str × V)) : Prop := fv.map (·.1) = fs.map (·.1) ∧ Reps G η T (fs.map (·.2)) (fv.map (·.2))
def RepO (G : Gx) (η : List Addr) (T : Hp) (H : Hp) (a : Addr) : SO → Prop
  | .lst ds => ∃ vs, H a = some (.lst vs) ∧ Reps G η T ds vs
  | .ins c fs => ∃ dx fv, H a = some (.ins (G.CA c) dx fv) ∧ RepF G η T fs fv
  | .dead => True
structure GRel (G : Gx) (H : Hp) (S : Sto) (η : List Addr) (T F : Hp) : Prop where
  sub : ∀ a o, T a = some o → H a = some o
  subF : ∀ a o, F a = some o → H a = some o
  dis : ∀ a o, F a = some o → T a = none
  len : η.length = S.length
  nd : η.Nodup
  inH : ∀ a ∈ η, H a ≠ none
  off : ∀ (l : Nat) (o : SO) (a : Addr), S[l]? = some o → η[l]? = some a → o.live → T a = none
  fη : ∀ a ∈ η, F a = none
  obj : ∀ (l : Nat) (o : SO) (a : Addr), S[l]? = some o → η[l]? = some a → RepO G η T H a o
structure FRel (G : Gx) (ρ : Env) (σ : St) (η : List Addr) (T : Hp) : Prop where
  len : ρ.length = σ.length
  get : ∀ (i : Nat) (d : D), ρ[i]? = some (some d) → ∃ v, σ[i]? = some (some v) ∧ Rep G η T d v
theorem FRel.mono {ρ : Env} {σ : St} (e : Ext η T η' T') (f : FRel G ρ σ η T) : FRel G ρ σ η' T' := ⟨f.len, fun i d h => let ⟨v, a, b⟩ := f.get i d h; ⟨v, a, b.mono e⟩⟩
theorem FRel.set {ρ : Env} {σ : St} {d : D} {v : V} (f : FRel G ρ σ η T) (i : Nat) (r : Rep G η T d v) : FRel G (ρ.set i (some d)) (σ.set i (some v)) η T := by
  refine ⟨by simp [f.len], fun j e h => ?_⟩
  by_cases hj : j = i
  · subst hj
    rw [List.getElem?_set] at h
    simp only [if_true] at h
    split at h
    · rename_i hl
      cases h
      exact ⟨v, by rw [List.getElem?_set_self (by rw [← f.len]; exact hl)], r⟩
    · cases h
  · rw [List.getElem?_set_ne (Ne.symm hj)] at h
    obtain ⟨w, a, b⟩ := f.get j e h
    exact ⟨w, by rw [List.getElem?_set_ne (Ne.symm hj)]; exact a, b⟩
end

/-- an exception: its class, its own fields -/
def XRep (G : Gx) (η : List Addr) (T : Hp) (H : Hp) (c : Nat) (fs : List (Str × D)) (cls : Value) (d : Option Addr) : Prop :=
  cls = .ref (G.CA c) ∧ match fs with
    | [] => d = none
    | f :: r => ∃ dd fv, d = some dd ∧ H dd = some (.xd fv) ∧ RepF G η T (f :: r) fv

def Post {α β : Type} (G : Gx) (F : Hp) (W : WX) (σ : St) (Rp : List Addr → Hp → α → β → Prop) (r : R α) (η : List Addr) (T : Hp) (Q : β → Hp → Prop) : Prop := match r with
  | .ok d S' => ∀ v H' η' T', Ext η T η' T' → GRel G H' S' η' T' F → Rp η' T' d v → Q v H'
  | .exn c fs S' => ∀ cls dd H' η' T', Ext η T η' T' → GRel G H' S' η' T' F → XRep G η' T' H' c fs cls dd → W cls dd σ H'
  | .bad => False
section
variable {α β γ δ : Type} {G : Gx} {W : WX} {σ : St} {Rp : List Addr → Hp → α → β → Prop} {Rq : List Addr → Hp → γ → δ → Prop} {r : R α} {η η' : List Addr} {T T' F : Hp} {Q Q' : β → Hp → Prop}
theorem Post.mono (e : Ext η T η' T') (h : Post G F W σ Rp r η T Q) : Post G F W σ Rp r η' T' Q := by
  cases r with
  | ok d S => exact fun v H' η'' T'' e' g r => h v H' η'' T'' (e.trans e') g r
  | exn c fs S => exact fun v dd H' η'' T'' e' g r => h v dd H' η'' T'' (e.trans e') g r
  | bad => exact h
theorem Post.imp (h : Post G F W σ Rp r η T Q) (k : ∀ v H, Q v H → Q' v H) : Post G F W σ Rp r η T Q' := by
  cases r with
  | ok d S => exact fun v H' η'' T'' e' g r => k _ _ (h v H' η'' T'' e' g r)
  | exn c fs S => exact h
  | bad => exact h
theorem Post.bind {k : α → Sto → R γ} {Q : δ → Hp → Prop} (h : Post G F W σ Rq (r.bind k) η T Q) :
    Post G F W σ Rp r η T (fun v H1 => ∃ d S1 η1 T1, r = .ok d S1 ∧ Ext η T η1 T1 ∧ GRel G H1 S1 η1 T1 F ∧ Rp η1 T1 d v ∧ Post G F W σ Rq (k d S1) η1 T1 Q) := by
  cases r with
  | ok d S => exact fun v H' η' T' e g rp => ⟨d, S, η', T', rfl, e, g, rp, Post.mono e h⟩
  | exn c fs S => exact h
  | bad => exact h
theorem Post.ok {d : α} {S : Sto} {v : β} {H : Hp} (h : Post G F W σ Rp (.ok d S) η T Q) (g : GRel G H S η T F) (rp : Rp η T d v) : Q v H := h v H η T Ext.refl g rp
end

abbrev RpB : List Addr → Hp → Bool → Bool → Prop := fun _ _ a b => a = b
/-! ### readings by denotations -/
abbrev Den := Env → Sto → R D
abbrev DenT := Env → Sto → R Bool
abbrev DenA := Env → Sto → R (List D)
def tE (G : Gx) (W : WX) (m : Den) : TE := fun σ H Q => ∃ ρ S η T F, FRel G ρ σ η T ∧ GRel G H S η T F ∧ Post G F W σ (Rep G) (m ρ S) η T Q
def tT (G : Gx) (W : WX) (m : DenT) : TT := fun σ H Q => ∃ ρ S η T F, FRel G ρ σ η T ∧ GRel G H S η T F ∧ Post G F W σ RpB (m ρ S) η T Q
def tA (G : Gx) (W : WX) (m : DenA) : TA := fun σ H Q => ∃ ρ S η T F, FRel G ρ σ η T ∧ GRel G H S η T F ∧ Post G F W σ (Reps G) (m ρ S) η T Q

theorem _root_.L2.PE.imp {X : Cx} {e : Expr} {t t' : TE} (h : PE X e t) (k : ∀ σ H Q, t' σ H Q → t σ H Q) : PE X e t' := ⟨fun pins s σ H Q I q => h.run pins s σ H Q I (k σ H Q q)⟩
theorem _root_.L2.PT.imp {X : Cx} {e : Expr} {t t' : TT} (h : PT X e t) (k : ∀ σ H Q, t' σ H Q → t σ H Q) : PT X e t' := ⟨fun pins s σ H Q I q => h.run pins s σ H Q I (k σ H Q q)⟩
theorem _root_.L2.PW.imp {X : Cx} {e : Expr} {t t' : TT} (h : PW X e t) (k : ∀ σ H Q, t' σ H Q → t σ H Q) : PW X e t' := ⟨fun wh pins s σ H Q I q => h.run wh pins s σ H Q I (k σ H Q q)⟩
theorem _root_.L2.PA.imp {X : Cx} {e : List Expr} {t t' : TA} (h : PA X e t) (k : ∀ σ H Q, t' σ H Q → t σ H Q) : PA X e t' := ⟨fun pos pins s σ H Q I q => h.run pos pins s σ H Q I (k σ H Q q)⟩
theorem _root_.L2.PS.imp {X : Cx} {e : Stmt} {t t' : TS} (h : PS X e t) (k : ∀ D σ H, t' D σ H → t D σ H) : PS X e t' := ⟨fun pins s σ H D I q => h.run pins s σ H D I (k D σ H q)⟩
theorem _root_.L2.PSs.imp {X : Cx} {e : List Stmt} {t t' : TS} (h : PSs X e t) (k : ∀ D σ H, t' D σ H → t D σ H) : PSs X e t' := ⟨fun pins s σ H D I q => h.run pins s σ H D I (k D σ H q)⟩

section
variable {X : Cx} {G : Gx} {W : WX} {a b c : Expr} {ma mb mc : Den} {pos : Pos} {σ : St} {H : Hp}

/-- one after another -/
theorem tE_step {α β : Type} {Rq : List Addr → Hp → α → β → Prop} {m : Den} {k : D → Sto → R α} {ρ : Env} {S : Sto} {η : List Addr} {T F : Hp} {Q : β → Hp → Prop} {Q' : VK} (f : FRel G ρ σ η T) (g : GRel G H S η T F)
    (h : Post G F W σ Rq ((m ρ S).bind k) η T Q)
    (n : ∀ d v S1 H1 η1 T1, m ρ S = .ok d S1 → Ext η T η1 T1 → FRel G ρ σ η1 T1 → GRel G H1 S1 η1 T1 F → Rep G η1 T1 d v → Post G F W σ Rq (k d S1) η1 T1 Q → Q' v H1) : tE G W m σ H Q' :=
  ⟨ρ, S, η, T, F, f, g, (Post.bind h).imp fun v H1 ⟨d, S1, η1, T1, e0, e, g1, r, p⟩ => n d v S1 H1 η1 T1 e0 e (f.mono e) g1 r p⟩
theorem tT_step {α β : Type} {Rq : List Addr → Hp → α → β → Prop} {m : DenT} {k : Bool → Sto → R α} {ρ : Env} {S : Sto} {η : List Addr} {T F : Hp} {Q : β → Hp → Prop} {Q' : Bool → Hp → Prop} (f : FRel G ρ σ η T) (g : GRel G H S η T F)
    (h : Post G F W σ Rq ((m ρ S).bind k) η T Q)
    (n : ∀ d S1 H1 η1 T1, m ρ S = .ok d S1 → Ext η T η1 T1 → FRel G ρ σ η1 T1 → GRel G H1 S1 η1 T1 F → Post G F W σ Rq (k d S1) η1 T1 Q → Q' d H1) : tT G W m σ H Q' :=
  ⟨ρ, S, η, T, F, f, g, (Post.bind h).imp fun v H1 ⟨d, S1, η1, T1, e0, e, g1, r, p⟩ => by
    have r : d = v := r
    subst r
    exact n d S1 H1 η1 T1 e0 e (f.mono e) g1 p⟩
theorem tA_step {α β : Type} {Rq : List Addr → Hp → α → β → Prop} {m : DenA} {k : List D → Sto → R α} {ρ : Env} {S : Sto} {η : List Addr} {T F : Hp} {Q : β → Hp → Prop} {Q' : List V → Hp → Prop} (f : FRel G ρ σ η T) (g : GRel G H S η T F)
    (h : Post G F W σ Rq ((m ρ S).bind k) η T Q)
    (n : ∀ d v S1 H1 η1 T1, m ρ S = .ok d S1 → Ext η T η1 T1 → FRel G ρ σ η1 T1 → GRel G H1 S1 η1 T1 F → Reps G η1 T1 d v → Post G F W σ Rq (k d S1) η1 T1 Q → Q' v H1) : tA G W m σ H Q' :=
  ⟨ρ, S, η, T, F, f, g, (Post.bind h).imp fun v H1 ⟨d, S1, η1, T1, e0, e, g1, r, p⟩ => n d v S1 H1 η1 T1 e0 e (f.mono e) g1 r p⟩

/-! ### names and constants -/
def dVar (i : Nat) : Den := fun ρ S => match ρ[i]? with
  | some (some d) => .ok d S
  | _ => .bad
def dC (d : D) : Den := fun _ S => .ok d S
theorem d_var (i : Nat) {x : Str} (h : PE X (.Name x pos) (tVar i)) : PE X (.Name x pos) (tE G W (dVar i)) := h.imp fun σ H Q ⟨ρ, S, η, T, F, f, g, p⟩ => by
  unfold dVar at p
  split at p
  · rename_i d e
    obtain ⟨v, e1, r⟩ := f.get i d e
    exact ⟨v, e1, p.ok g r⟩
  · exact p.elim
theorem d_of {e : Expr} {v : V} {d : D} (h : PE X e (tC v)) (r : ∀ η T, Rep G η T d v) : PE X e (tE G W (dC d)) := h.imp fun σ H Q ⟨ρ, S, η, T, F, f, g, p⟩ => p.ok g (r η T)
theorem d_int {i j} : PE X (.Constant (.int i) j pos) (tE G W (dC (.int i))) := d_of pe_int fun _ _ => .int
theorem d_bl {i j} : PE X (.Constant (.bool i) j pos) (tE G W (dC (.bl i))) := d_of pe_bl fun _ _ => .bl
theorem d_non {j} : PE X (.Constant .none j pos) (tE G W (dC .non)) := d_of pe_non fun _ _ => .non
theorem d_str {i j} : PE X (.Constant (.str i) j pos) (tE G W (dC (.str i))) := d_of pe_str fun _ _ => .str

/-! ### operations by values: they read the store, they make new data -/
abbrev P1 := Sto → D → Option D
abbrev P2 := Sto → D → D → Option D
abbrev PN := Sto → List D → Option D
/-- the value of a primitive -/
def PostP (G : Gx) (F : Hp) (S : Sto) (o : Option D) (η : List Addr) (T : Hp) (Q : VK) : Prop := ∃ d, o = some d ∧ ∀ v H' η' T', Ext η T η' T' → GRel G H' S η' T' F → Rep G η' T' d v → Q v H'
def r2 (G : Gx) (f : P2) : R2 := fun x y H Q => ∃ S η T F dx dy, GRel G H S η T F ∧ Rep G η T dx x ∧ Rep G η T dy y ∧ PostP G F S (f S dx dy) η T Q
def r1 (G : Gx) (f : P1) : V → Hp → VK → Prop := fun x H Q => ∃ S η T F dx, GRel G H S η T F ∧ Rep G η T dx x ∧ PostP G F S (f S dx) η T Q
def rN (G : Gx) (f : PN) : List V → Hp → VK → Prop := fun xs H Q => ∃ S η T F ds, GRel G H S η T F ∧ Reps G η T ds xs ∧ PostP G F S (f S ds) η T Q
theorem postP_of {S : Sto} {o : Option D} {η : List Addr} {T F : Hp} {Q : VK} (h : Post G F W σ (Rep G) (R.ofO o S) η T Q) : PostP G F S o η T Q := by
  cases o with
  | none => exact h.elim
  | some d => exact ⟨d, rfl, h⟩
theorem PostP.val {S : Sto} {o : Option D} {d : D} {η : List Addr} {T F : Hp} {Q : VK} {v : V} {H : Hp} (h : PostP G F S o η T Q) (e : o = some d) (g : GRel G H S η T F) (r : Rep G η T d v) : Q v H := by
  obtain ⟨d', e', k⟩ := h
  rw [e] at e'; cases e'
  exact k v H η T Ext.refl g r
def dOp2 (f : P2) (ma mb : Den) : Den := fun ρ S => (ma ρ S).bind fun x S1 => (mb ρ S1).bind fun y S2 => R.ofO (f S2 x y) S2
def dOp1 (f : P1) (ma : Den) : Den := fun ρ S => (ma ρ S).bind fun x S1 => R.ofO (f S1 x) S1
def dOpN (f : PN) (ma : DenA) : Den := fun ρ S => (ma ρ S).bind fun x S1 => R.ofO (f S1 x) S1
theorem op2_reading {f : P2} {Q : VK} (h : tE G W (dOp2 f ma mb) σ H Q) : tOp (r2 G f) (tE G W ma) (tE G W mb) σ H Q := by
  obtain ⟨ρ, S, η, T, F, fr, g, p⟩ := h
  refine tE_step fr g p fun d v S1 H1 η1 T1 _ e1 f1 g1 r1 p1 => tE_step f1 g1 p1 fun d2 v2 S2 H2 η2 T2 _ e2 f2 g2 r2 p2 => ?_
  exact ⟨S2, η2, T2, F, d, d2, g2, r1.mono e2, r2, postP_of p2⟩
theorem d_op {op : Operator} {f : P2} (ho : OpR X (binaryOp op) (r2 G f)) (ha : PE X a (tE G W ma)) (hb : PE X b (tE G W mb)) : PE X (.BinOp a op b pos) (tE G W (dOp2 f ma mb)) :=
  (pe_op ho ha hb).imp fun _ _ _ => op2_reading
theorem d_un {op : UnaryOp} {f : P1} (ho : UnR X (unaryOp op) (r1 G f)) (ha : PE X a (tE G W ma)) : PE X (.UnaryOp op a pos) (tE G W (dOp1 f ma)) :=
  (pe_un ho ha).imp fun σ H Q ⟨ρ, S, η, T, F, fr, g, p⟩ => tE_step fr g p fun d v S1 H1 η1 T1 _ e1 f1 g1 r1 p1 => ⟨S1, η1, T1, F, d, g1, r1, postP_of p1⟩
theorem d_cmp {op : CmpOp} {f : P2} (ho : OpR X (compareOp op) (r2 G f)) (ha : PE X a (tE G W ma)) (hb : PE X b (tE G W mb)) (hm : behindInMarks op b = false) : PE X (.Compare a [op] [b] pos) (tE G W (dOp2 f ma mb)) :=
  (pe_cmpR ho ha hb hm).imp fun _ _ _ => op2_reading
/-! tests -/
def asB (r : R D) : R Bool := r.bind fun d S => match d with
  | .bl b => .ok b S
  | _ => .bad
def dTest (m : Den) : DenT := fun ρ S => asB (m ρ S)
theorem test_reading {m : Den} {Q : Bool → Hp → Prop} (h : tT G W (dTest m) σ H Q) : tE G W m σ H fun x H' => ∃ k, x = .bl k ∧ Q k H' := by
  obtain ⟨ρ, S, η, T, F, fr, g, p⟩ := h
  refine tE_step fr g p fun d v S1 H1 η1 T1 _ e1 f1 g1 r1 p1 => ?_
  cases r1 with
  | bl => exact ⟨_, rfl, p1.ok g1 rfl⟩
  | _ => exact p1.elim
theorem dt_cmp {op : CmpOp} {f : P2} (ho : OpR X (compareOp op) (r2 G f)) (ha : PE X a (tE G W ma)) (hb : PE X b (tE G W mb)) (hm : behindInMarks op b = false) : PT X (.Compare a [op] [b] pos) (tT G W (dTest (dOp2 f ma mb))) := by
  refine (pt_cmpR ho ha hb hm).imp fun σ H Q h => ?_
  have q := test_reading h
  exact op2_reading q
theorem dt_val {e : Expr} {m : Den} (h : PE X e (tE G W m)) (he : ∀ whole, isTrue e X.env whole = (do let v ← whole; standAt e.pos; holding [v] (truthy v)) := by intro _; rfl) : PT X e (tT G W (dTest m)) :=
  (pt_val h he).imp fun _ _ _ => test_reading
def dNotT (m : DenT) : DenT := fun ρ S => (m ρ S).bind fun b S1 => .ok (!b) S1
def dAndT (m n : DenT) : DenT := fun ρ S => (m ρ S).bind fun b S1 => if b then n ρ S1 else .ok false S1
def dOrT (m n : DenT) : DenT := fun ρ S => (m ρ S).bind fun b S1 => if b then .ok true S1 else n ρ S1
def dIfE (t : DenT) (m n : Den) : Den := fun ρ S => (t ρ S).bind fun b S1 => if b then m ρ S1 else n ρ S1
variable {tA' tB' : DenT} {rest : List Expr}
theorem dt_not (ha : PT X a (tT G W tA')) : PT X (.UnaryOp .Not a pos) (tT G W (dNotT tA')) :=
  (pt_not ha).imp fun σ H Q ⟨ρ, S, η, T, F, fr, g, p⟩ => tT_step fr g p fun d S1 H1 η1 T1 _ e1 f1 g1 p1 => p1.ok g1 rfl
theorem dw_and1 (ha : PT X a (tT G W tA')) : PW X (.BoolOp .And [a] pos) (tT G W tA') := pw_and1 ha
theorem dw_or1 (ha : PT X a (tT G W tA')) : PW X (.BoolOp .Or [a] pos) (tT G W tA') := pw_or1 ha
theorem dw_and (ha : PT X a (tT G W tA')) (hb : PW X (.BoolOp .And (b :: rest) pos) (tT G W tB')) : PW X (.BoolOp .And (a :: b :: rest) pos) (tT G W (dAndT tA' tB')) :=
  (pw_and ha hb).imp fun σ H Q ⟨ρ, S, η, T, F, fr, g, p⟩ => tT_step fr g p fun d S1 H1 η1 T1 _ e1 f1 g1 p1 => by
    cases d with
    | true => rw [if_pos rfl]; exact ⟨ρ, S1, η1, T1, F, f1, g1, p1⟩
    | false => rw [if_neg (by decide)]; exact p1.ok g1 rfl
theorem dw_or (ha : PT X a (tT G W tA')) (hb : PW X (.BoolOp .Or (b :: rest) pos) (tT G W tB')) : PW X (.BoolOp .Or (a :: b :: rest) pos) (tT G W (dOrT tA' tB')) :=
  (pw_or ha hb).imp fun σ H Q ⟨ρ, S, η, T, F, fr, g, p⟩ => tT_step fr g p fun d S1 H1 η1 T1 _ e1 f1 g1 p1 => by
    cases d with
    | true => rw [if_pos rfl]; exact p1.ok g1 rfl
    | false => rw [if_neg (by decide)]; exact ⟨ρ, S1, η1, T1, F, f1, g1, p1⟩
theorem d_if {c : Expr} (hc : PT X c (tT G W tA')) (ha : PE X a (tE G W ma)) (hb : PE X b (tE G W mb)) : PE X (.IfExp c a b pos) (tE G W (dIfE tA' ma mb)) :=
  (pe_ifExp hc ha hb).imp fun σ H Q ⟨ρ, S, η, T, F, fr, g, p⟩ => tT_step fr g p fun d S1 H1 η1 T1 _ e1 f1 g1 p1 => by
    cases d with
    | true => rw [if_pos rfl]; exact ⟨ρ, S1, η1, T1, F, f1, g1, p1⟩
    | false => rw [if_neg (by decide)]; exact ⟨ρ, S1, η1, T1, F, f1, g1, p1⟩
/-! and, or, not as values: all but the last are bools -/
def dNot (m : Den) : Den := fun ρ S => (dTest m ρ S).bind fun b S1 => .ok (.bl (!b)) S1
def dAnd (m n : Den) : Den := fun ρ S => (dTest m ρ S).bind fun b S1 => if b then n ρ S1 else .ok (.bl false) S1
def dOr (m n : Den) : Den := fun ρ S => (dTest m ρ S).bind fun b S1 => if b then .ok (.bl true) S1 else n ρ S1
theorem tE_test {α β : Type} {Rq : List Addr → Hp → α → β → Prop} {m : Den} {k : Bool → Sto → R α} {ρ : Env} {S : Sto} {η : List Addr} {T F : Hp} {Q : β → Hp → Prop} {Q' : VK} (f : FRel G ρ σ η T) (g : GRel G H S η T F)
    (h : Post G F W σ Rq ((dTest m ρ S).bind k) η T Q)
    (n : ∀ d S1 H1 η1 T1, FRel G ρ σ η1 T1 → GRel G H1 S1 η1 T1 F → Post G F W σ Rq (k d S1) η1 T1 Q → Q' (.bl d) H1) : tE G W m σ H Q' := by
  have h2 : tT G W (dTest m) σ H fun b H1 => Q' (.bl b) H1 := tT_step f g h fun d S1 H1 η1 T1 _ _ f1 g1 p => n d S1 H1 η1 T1 f1 g1 p
  obtain ⟨ρ', S', η', T', F', f', g', p'⟩ := test_reading h2
  exact ⟨ρ', S', η', T', F', f', g', p'.imp fun v H ⟨k, e, q⟩ => e ▸ q⟩
theorem d_one {op} (h : PE X a (tE G W ma)) : PE X (.BoolOp op [a] pos) (tE G W ma) := pe_one h
theorem d_and (ha : PE X a (tE G W ma)) (hb : PE X (.BoolOp .And (b :: rest) pos) (tE G W mb)) : PE X (.BoolOp .And (a :: b :: rest) pos) (tE G W (dAnd ma mb)) :=
  (pe_and ha hb).imp fun σ H Q ⟨ρ, S, η, T, F, fr, g, p⟩ => tE_test fr g p fun d S1 H1 η1 T1 f1 g1 p1 => ⟨d, rfl, by
    cases d with
    | true => rw [if_pos rfl]; exact ⟨ρ, S1, η1, T1, F, f1, g1, p1⟩
    | false => rw [if_neg (by decide)]; exact p1.ok g1 .bl⟩
theorem d_or (ha : PE X a (tE G W ma)) (hb : PE X (.BoolOp .Or (b :: rest) pos) (tE G W mb)) : PE X (.BoolOp .Or (a :: b :: rest) pos) (tE G W (dOr ma mb)) :=
  (pe_or ha hb).imp fun σ H Q ⟨ρ, S, η, T, F, fr, g, p⟩ => tE_test fr g p fun d S1 H1 η1 T1 f1 g1 p1 => ⟨d, rfl, by
    cases d with
    | true => rw [if_pos rfl]; exact p1.ok g1 .bl
    | false => rw [if_neg (by decide)]; exact ⟨ρ, S1, η1, T1, F, f1, g1, p1⟩⟩
theorem d_not (ha : PE X a (tE G W ma)) : PE X (.UnaryOp .Not a pos) (tE G W (dNot ma)) :=
  (pe_not ha).imp fun σ H Q ⟨ρ, S, η, T, F, fr, g, p⟩ => tE_test fr g p fun d S1 H1 η1 T1 f1 g1 p1 => ⟨d, rfl, p1.ok g1 .bl⟩
/-! argument lists -/
def aNil : DenA := fun _ S => .ok [] S
def aCons (m : Den) (n : DenA) : DenA := fun ρ S => (m ρ S).bind fun x S1 => (n ρ S1).bind fun xs S2 => .ok (x :: xs) S2
variable {es : List Expr} {na : DenA}
theorem a_nil : PA X [] (tA G W aNil) := pa_nil.imp fun σ H Q ⟨ρ, S, η, T, F, fr, g, p⟩ => p.ok g .nil
theorem a_cons {e : Expr} (ha : PE X e (tE G W ma)) (hr : PA X es (tA G W na)) (hs : starEach (e :: es) X.env = (false, eval e X.env) :: starEach es X.env := by rfl) : PA X (e :: es) (tA G W (aCons ma na)) :=
  (pa_cons ha hr hs).imp fun σ H Q ⟨ρ, S, η, T, F, fr, g, p⟩ => tE_step fr g p fun d v S1 H1 η1 T1 _ e1 f1 g1 r1 p1 => tA_step f1 g1 p1 fun d2 v2 S2 H2 η2 T2 _ e2 f2 g2 r2 p2 => p2.ok g2 (.cons (r1.mono e2) r2)
end
end Tok
namespace Tok
open PySem L2

/-! ## statements -/
inductive Fl where
  | nx (ρ : Env) | rt (d : D) | bk (ρ : Env) | ct (ρ : Env)
abbrev DenS := Env → Sto → R Fl
def PostS (G : Gx) (F : Hp) (W : WX) (r : R Fl) (η : List Addr) (T : Hp) (E : Ends) : Prop := match r with
  | .ok (.nx ρ') S' => ∀ σ' H' η' T', Ext η T η' T' → GRel G H' S' η' T' F → FRel G ρ' σ' η' T' → E.nx σ' H'
  | .ok (.rt d) S' => ∀ v H' η' T', Ext η T η' T' → GRel G H' S' η' T' F → Rep G η' T' d v → E.rt v H'
  | .ok (.bk ρ') S' => ∀ σ' H' η' T', Ext η T η' T' → GRel G H' S' η' T' F → FRel G ρ' σ' η' T' → E.bk σ' H'
  | .ok (.ct ρ') S' => ∀ σ' H' η' T', Ext η T η' T' → GRel G H' S' η' T' F → FRel G ρ' σ' η' T' → E.ct σ' H'
  | .exn c fs S' => ∀ cls dd σ' H' η' T', Ext η T η' T' → GRel G H' S' η' T' F → XRep G η' T' H' c fs cls dd → W cls dd σ' H'
  | .bad => False
def tS (G : Gx) (W : WX) (m : DenS) : TS := fun E σ H => ∃ ρ S η T F, FRel G ρ σ η T ∧ GRel G H S η T F ∧ PostS G F W (m ρ S) η T E
section
variable {G : Gx} {W : WX} {η η' : List Addr} {T T' F : Hp} {E : Ends} {r : R Fl}
theorem PostS.mono (e : Ext η T η' T') (h : PostS G F W r η T E) : PostS G F W r η' T' E := by
  unfold PostS at h ⊢
  split at h
  · exact fun v H' η'' T'' e' g r => h v H' η'' T'' (e.trans e') g r
  · exact fun v H' η'' T'' e' g r => h v H' η'' T'' (e.trans e') g r
  · exact fun v H' η'' T'' e' g r => h v H' η'' T'' (e.trans e') g r
  · exact fun v H' η'' T'' e' g r => h v H' η'' T'' (e.trans e') g r
  · exact fun v dd s H' η'' T'' e' g r => h v dd s H' η'' T'' (e.trans e') g r
  · exact h
/-- an expression ahead of a statement's end -/
theorem PostS.bind {α β : Type} {Rp : List Addr → Hp → α → β → Prop} {σ : St} {m : R α} {k : α → Sto → R Fl} (h : PostS G F W (m.bind k) η T E) :
    Post G F W σ Rp m η T (fun v H1 => ∃ d S1 η1 T1, m = .ok d S1 ∧ Ext η T η1 T1 ∧ GRel G H1 S1 η1 T1 F ∧ Rp η1 T1 d v ∧ PostS G F W (k d S1) η1 T1 E) := by
  cases m with
  | ok d S => exact fun v H' η' T' e g rp => ⟨d, S, η', T', rfl, e, g, rp, PostS.mono e h⟩
  | exn c fs S => exact fun cls dd H' η' T' e g r => h cls dd σ H' η' T' e g r
  | bad => exact h
end

section
variable {X : Cx} {G : Gx} {W : WX} {a b c e : Expr} {ma mb mc m : Den} {pos : Pos} {σ : St} {H : Hp} {st : Stmt} {rest : List Stmt} {ms ns : DenS} {E : Ends}
theorem sE_step {k : D → Sto → R Fl} {ρ : Env} {S : Sto} {η : List Addr} {T F : Hp} {Q' : VK} (f : FRel G ρ σ η T) (g : GRel G H S η T F)
    (h : PostS G F W ((m ρ S).bind k) η T E)
    (n : ∀ d v S1 H1 η1 T1, m ρ S = .ok d S1 → Ext η T η1 T1 → FRel G ρ σ η1 T1 → GRel G H1 S1 η1 T1 F → Rep G η1 T1 d v → PostS G F W (k d S1) η1 T1 E → Q' v H1) : tE G W m σ H Q' :=
  ⟨ρ, S, η, T, F, f, g, (PostS.bind h).imp fun v H1 ⟨d, S1, η1, T1, e0, e, g1, r, p⟩ => n d v S1 H1 η1 T1 e0 e (f.mono e) g1 r p⟩
theorem sT_step {t : DenT} {k : Bool → Sto → R Fl} {ρ : Env} {S : Sto} {η : List Addr} {T F : Hp} {Q' : Bool → Hp → Prop} (f : FRel G ρ σ η T) (g : GRel G H S η T F)
    (h : PostS G F W ((t ρ S).bind k) η T E)
    (n : ∀ d S1 H1 η1 T1, t ρ S = .ok d S1 → Ext η T η1 T1 → FRel G ρ σ η1 T1 → GRel G H1 S1 η1 T1 F → PostS G F W (k d S1) η1 T1 E → Q' d H1) : tT G W t σ H Q' :=
  ⟨ρ, S, η, T, F, f, g, (PostS.bind (Rp := RpB) h).imp fun v H1 ⟨d, S1, η1, T1, e0, e, g1, r, p⟩ => by
    have r : d = v := r
    subst r
    exact n d S1 H1 η1 T1 e0 e (f.mono e) g1 p⟩

def sNext : DenS := fun ρ S => .ok (.nx ρ) S
/-- a statement, then what follows it -/
def andThen (r : R Fl) (n : DenS) : R Fl := r.bind fun f S1 => match f with
  | .nx ρ1 => n ρ1 S1
  | f => .ok f S1
def sSeq (m n : DenS) : DenS := fun ρ S => andThen (m ρ S) n
theorem ss_nil : PSs X [] (tS G W sNext) := pss_nil.imp fun E σ H ⟨ρ, S, η, T, F, f, g, p⟩ => p σ H η T Ext.refl g f
theorem ss_cons (h1 : PS X st (tS G W ms)) (h2 : PSs X rest (tS G W ns)) : PSs X (st :: rest) (tS G W (sSeq ms ns)) :=
  (pss_cons h1 h2).imp fun E σ H ⟨ρ, S, η, T, F, f, g, p⟩ => by
    refine ⟨ρ, S, η, T, F, f, g, ?_⟩
    unfold sSeq andThen at p
    cases e : ms ρ S with
    | bad => rw [e] at p; exact p
    | exn c fs S => rw [e] at p; exact p
    | ok fl S1 =>
      rw [e] at p
      cases fl with
      | nx ρ1 => exact fun σ' H' η' T' ex g' f' => ⟨ρ1, S1, η', T', F, f', g', p.mono ex⟩
      | rt d => exact p
      | bk ρ1 => exact p
      | ct ρ1 => exact p
theorem ss_one (h1 : PS X st (tS G W ms)) : PSs X [st] (tS G W ms) := pss_one h1
def sRet (m : Den) : DenS := fun ρ S => (m ρ S).bind fun d S1 => .ok (.rt d) S1
def sRetN : DenS := fun _ S => .ok (.rt .non) S
def sDrop (m : Den) : DenS := fun ρ S => (m ρ S).bind fun _ S1 => .ok (.nx ρ) S1
def sIf (t : DenT) (m n : DenS) : DenS := fun ρ S => (t ρ S).bind fun b S1 => if b then m ρ S1 else n ρ S1
def sCont : DenS := fun ρ S => .ok (.ct ρ) S
def sBrk : DenS := fun ρ S => .ok (.bk ρ) S
theorem s_pass : PS X (.Pass pos) (tS G W sNext) := ps_pass.imp fun E σ H ⟨ρ, S, η, T, F, f, g, p⟩ => p σ H η T Ext.refl g f
theorem s_continue : PS X (.Continue pos) (tS G W sCont) := ps_continue.imp fun E σ H ⟨ρ, S, η, T, F, f, g, p⟩ => p σ H η T Ext.refl g f
theorem s_break : PS X (.Break pos) (tS G W sBrk) := ps_break.imp fun E σ H ⟨ρ, S, η, T, F, f, g, p⟩ => p σ H η T Ext.refl g f
theorem s_retN : PS X (.Return none pos) (tS G W sRetN) := ps_retN.imp fun E σ H ⟨ρ, S, η, T, F, f, g, p⟩ => p .non H η T Ext.refl g .non
theorem s_ret (h : PE X e (tE G W m)) : PS X (.Return (some e) pos) (tS G W (sRet m)) :=
  (ps_ret h).imp fun E σ H ⟨ρ, S, η, T, F, f, g, p⟩ => sE_step f g p fun d v S1 H1 η1 T1 _ e1 f1 g1 r1 p1 => p1 v H1 η1 T1 Ext.refl g1 r1
theorem s_expr (h : PE X e (tE G W m)) (hs : swapsWith e none pos.line X.env = pure false := by rfl) : PS X (.Expr e pos) (tS G W (sDrop m)) :=
  (ps_expr h hs).imp fun E σ H ⟨ρ, S, η, T, F, f, g, p⟩ => sE_step f g p fun d v S1 H1 η1 T1 _ e1 f1 g1 r1 p1 => p1 σ H1 η1 T1 Ext.refl g1 f1
theorem s_if {c : Expr} {x y : List Stmt} {t : DenT} (hc : PT X c (tT G W t)) (ha : PSs X x (tS G W ms)) (hb : PSs X y (tS G W ns)) : PS X (.If c x y pos) (tS G W (sIf t ms ns)) :=
  (ps_if hc ha hb).imp fun E σ H ⟨ρ, S, η, T, F, f, g, p⟩ => sT_step f g p fun d S1 H1 η1 T1 _ e1 f1 g1 p1 => by
    cases d with
    | true => rw [if_pos rfl]; exact ⟨ρ, S1, η1, T1, F, f1, g1, p1⟩
    | false => rw [if_neg (by decide)]; exact ⟨ρ, S1, η1, T1, F, f1, g1, p1⟩

/-! ## targets -/
abbrev Tgt := D → Env → Option Env
abbrev Tgts := List D → Env → Option Env
def tG (G : Gx) (vs : List Nat) (t : Tgt) : TG := fun v σ H Q => ∃ ρ S η T F d ρ', FRel G ρ σ η T ∧ GRel G H S η T F ∧ Rep G η T d v ∧ t d ρ = some ρ' ∧
  ∀ σ' H' η' T', Ext η T η' T' → GRel G H' S η' T' F → FRel G ρ' σ' η' T' → wipe σ' vs = wipe σ vs → Q σ' H'
def tGs (G : Gx) (vs : List Nat) (t : Tgts) : TGs := fun us σ H Q => ∃ ρ S η T F ds ρ', FRel G ρ σ η T ∧ GRel G H S η T F ∧ Reps G η T ds us ∧ t ds ρ = some ρ' ∧
  ∀ σ' H' η' T', Ext η T η' T' → GRel G H' S η' T' F → FRel G ρ' σ' η' T' → wipe σ' vs = wipe σ vs → Q σ' H'
theorem wipe_in {σ : St} {j : Nat} : ∀ {vs : List Nat}, j ∈ vs → j < σ.length → (wipe σ vs)[j]? = some none
  | v :: vs, h, hl => by
    unfold wipe
    by_cases e : v = j
    · subst e
      rw [List.getElem?_set_self (by rw [wipe_length]; exact hl)]
    · rw [List.getElem?_set_ne e]
      exact wipe_in ((List.mem_cons.mp h).resolve_left (Ne.symm e)) hl
theorem wipe_set {σ : St} {i : Nat} {x : Option V} {vs : List Nat} (h : i ∈ vs) : wipe (σ.set i x) vs = wipe σ vs := by
  apply List.ext_getElem?
  intro j
  by_cases hj : j ∈ vs
  · by_cases hl : j < σ.length
    · rw [wipe_in hj (by simpa using hl), wipe_in hj hl]
    · rw [List.getElem?_eq_none (by rw [wipe_length, List.length_set]; omega), List.getElem?_eq_none (by rw [wipe_length]; omega)]
  · rw [wipe_out hj, wipe_out hj, List.getElem?_set_ne (fun e => hj (by rw [← e]; exact h))]
theorem _root_.L2.PG.imp {X : Cx} {e : Expr} {t t' : TG} (h : PG X e t) (k : ∀ v σ H Q, t' v σ H Q → t v σ H Q) : PG X e t' := ⟨fun pins s σ H v u Q I r q => h.run pins s σ H v u Q I r (k v σ H Q q)⟩
theorem _root_.L2.PGs.imp {X : Cx} {e : List Expr} {t t' : TGs} (h : PGs X e t) (k : ∀ v σ H Q, t' v σ H Q → t v σ H Q) : PGs X e t' := ⟨fun pins s σ H v u Q I r q => h.run pins s σ H v u Q I r (k v σ H Q q)⟩
def tgName (i : Nat) : Tgt := fun d ρ => some (ρ.set i (some d))
variable {vl : List Nat}
theorem g_name {i : Nat} {x : Str} (h : PG X (.Name x pos) (gName i)) (hv : i ∈ vl) : PG X (.Name x pos) (tG G vl (tgName i)) :=
  h.imp fun v σ H Q ⟨ρ, S, η, T, F, d, ρ', f, g, r, e, k⟩ => by
    cases e
    exact k _ H η T Ext.refl g (f.set i r) (wipe_set hv)
def tgNil : Tgts := fun ds ρ => match ds with
  | [] => some ρ
  | _ => none
def tgCons (t : Tgt) (u : Tgts) : Tgts := fun ds ρ => match ds with
  | d :: r => (t d ρ).bind fun ρ1 => u r ρ1
  | [] => none
variable {es : List Expr}
theorem gs_nil : PGs X [] (tGs G vl tgNil) := pgs_nil.imp fun v σ H Q ⟨ρ, S, η, T, F, d, ρ', f, g, r, e, k⟩ => by
  cases r with
  | nil =>
    cases e
    exact ⟨rfl, k σ H η T Ext.refl g f rfl⟩
  | cons _ _ => cases e
theorem gs_cons {t : Tgt} {u : Tgts} (h1 : PG X e (tG G vl t)) (h2 : PGs X es (tGs G vl u)) (hs : (assignEach (e :: es) X.env).map (·.2) = assign e X.env :: (assignEach es X.env).map (·.2) := by rfl) : PGs X (e :: es) (tGs G vl (tgCons t u)) :=
  (pgs_cons h1 h2 hs).imp fun v σ H Q ⟨ρ, S, η, T, F, d, ρ', f, g, r, e, k⟩ => by
    cases r with
    | nil => cases e
    | @cons d v ds vs r rr =>
      unfold tgCons at e
      simp only at e
      cases q : t d ρ with
      | none => rw [q] at e; cases e
      | some ρ1 =>
        rw [q] at e
        exact ⟨_, _, rfl, ρ, S, η, T, F, d, ρ1, f, g, r, q, fun σ1 H1 η1 T1 e1 g1 f1 w1 => ⟨ρ1, S, η1, T1, F, ds, ρ', f1, g1, rr.mono e1, e, fun σ' H' η' T' e' g' f' w' => k σ' H' η' T' (e1.trans e') g' f' (w'.trans w1)⟩⟩
def tgTup (n : Nat) (t : Tgts) : Tgt := fun d ρ => match d with
  | .tup ds => if ds.length = n then t ds ρ else none
  | _ => none
theorem g_tup {k n : Nat} {t : Tgts} (hc : X.calm = true) (hK : G.K = X.K) (h : PGs X es (tGs G vl t)) (hn : (assignEach es X.env).length = n := by rfl) (hst : (assignEach es X.env).findIdx? (·.1) = none := by rfl) : PG X (.Tuple es k pos) (tG G vl (tgTup n t)) :=
  (pg_tup hc h hn hst).imp fun v σ H Q ⟨ρ, S, η, T, F, d, ρ', f, g, r, e, k⟩ => by
    unfold tgTup at e
    split at e
    · rename_i ds
      split at e
      · rename_i hl
        cases r with
        | @tup a vs ds h r =>
          exact ⟨a, vs, rfl, hK ▸ sqT_mono g.sub h, r.length ▸ hl, ρ, S, η, T, F, ds, ρ', f, g, r, e, k⟩
      · cases e
    · cases e
/-- target = value -/
def sAsg (m : Den) (t : Tgt) : DenS := fun ρ S => (m ρ S).bind fun d S1 => match t d ρ with
  | some ρ1 => .ok (.nx ρ1) S1
  | none => .bad
theorem asg_reading {t : Tgt} (h : tS G W (sAsg m t) E σ H) : tAsg (tE G W m) (tG G vl t) E σ H := by
  obtain ⟨ρ, S, η, T, F, f, g, p⟩ := h
  refine sE_step f g p fun d v S1 H1 η1 T1 _ e1 f1 g1 r1 p1 => ?_
  cases q : t d ρ with
  | none => rw [q] at p1; exact p1.elim
  | some ρ1 =>
    rw [q] at p1
    exact ⟨ρ, S1, η1, T1, F, d, ρ1, f1, g1, r1, q, fun σ' H' η' T' e' g' f' _ => p1 σ' H' η' T' e' g' f'⟩
theorem s_asg {tg : Expr} {t : Tgt} (he : PE X e (tE G W m)) (hg : PG X tg (tG G vl t)) (hs : swapsWithSole [tg] e pos.line X.env = pure false := by rfl) (hw : swappedStores [tg] e X.env = pure none := by rfl)
    (h1 : (assignEach [tg] X.env).map (·.2) = [assign tg X.env] := by rfl) : PS X (.Assign [tg] e pos) (tS G W (sAsg m t)) := (ps_asg he hg hs hw h1).imp fun _ _ _ => asg_reading
theorem s_set {i : Nat} {x : Str} {pos' : Pos} (h : PS X (.Assign [.Name x pos'] e pos) (tAsg (tE G W m) (gName i))) : PS X (.Assign [.Name x pos'] e pos) (tS G W (sAsg m (tgName i))) :=
  h.imp fun E σ H ⟨ρ, S, η, T, F, f, g, p⟩ => sE_step f g p fun d v S1 H1 η1 T1 _ e1 f1 g1 r1 p1 => p1 _ H1 η1 T1 Ext.refl g1 (f1.set i r1)

/-! ## what is walked -/
def Yields (G : Gx) (F : Hp) (J : It) (ds : List D) (η : List Addr) (T : Hp) : Prop := ∀ η1 T1 H1 S1 F1 i, Ext η T η1 T1 → GRel G H1 S1 η1 T1 F1 → (∀ a o, F a = some o → F1 a = some o) →
  (ds.length ≤ i → J.stop i H1) ∧ ∀ d, ds[i]? = some d → J.go i H1 ∧ ∀ x H2, J.yld i H1 x H2 → ∃ η2 T2, Ext η1 T1 η2 T2 ∧ GRel G H2 S1 η2 T2 F1 ∧ Rep G η2 T2 d x
abbrev DenI := Env → Sto → R (List D)
def tI (G : Gx) (W : WX) (m : DenI) : TI := fun σ H Rr => ∃ ρ S η T F, FRel G ρ σ η T ∧ GRel G H S η T F ∧ Post G F W σ (fun η T ds J => Yields G F J ds η T) (m ρ S) η T Rr
theorem _root_.L2.PI.imp {X : Cx} {tg e : Expr} {t t' : TI} (h : PI X tg e t) (k : ∀ σ H Q, t' σ H Q → t σ H Q) : PI X tg e t' := ⟨fun pins s σ H Q I q => h.run pins s σ H Q I (k σ H Q q)⟩
/-- a list or a tuple, as a tree -/
def iSeq (m : Den) : DenI := fun ρ S => (m ρ S).bind fun d S1 => match d with
  | .lst ds => .ok ds S1
  | _ => .bad
def iTupD (m : Den) : DenI := fun ρ S => (m ρ S).bind fun d S1 => match d with
  | .tup ds => .ok ds S1
  | _ => .bad
variable {tg : Expr}
theorem i_lst (hK : G.K = X.K) (h : PE X e (tE G W m)) : PI X tg e (tI G W (iSeq m)) := (pi_list h).imp fun σ H Q ⟨ρ, S, η, T, F, f, g, p⟩ => tE_step f g p fun d v S1 H1 η1 T1 _ e1 f1 g1 r1 p1 => by
  cases r1 with
  | @lst a vs ds h r =>
    have key : ∀ {T' H' : Hp} {S' η' F'}, (∀ a o, T1 a = some o → T' a = some o) → GRel G H' S' η' T' F' → SqL X.K H' a vs := fun e' g' => SqL.of (g'.sub _ _ (e' _ _ h))
    refine ⟨a, rfl, ⟨vs, key (fun _ _ h => h) g1⟩, p1 _ H1 η1 T1 Ext.refl g1 ?_⟩
    intro η2 T2 H2 S2 F2 i e2 g2 _
    refine ⟨fun hl => ⟨vs, key e2.sub g2, by rw [← r.length]; exact hl⟩, fun d hd => ?_⟩
    obtain ⟨x, hx, rx⟩ := r.get hd
    refine ⟨⟨vs, x, key e2.sub g2, hx⟩, fun y H3 hy => ?_⟩
    obtain ⟨rfl, hy⟩ := hy
    have := hy vs (key e2.sub g2)
    rw [hx] at this; cases this
    exact ⟨η2, T2, Ext.refl, g2, rx.mono e2⟩
  | _ => exact p1.elim
theorem i_tup (hK : G.K = X.K) (h : PE X e (tE G W m)) : PI X tg e (tI G W (iTupD m)) := (pi_tup h).imp fun σ H Q ⟨ρ, S, η, T, F, f, g, p⟩ => tE_step f g p fun d v S1 H1 η1 T1 _ e1 f1 g1 r1 p1 => by
  cases r1 with
  | @tup a vs ds h r =>
    have key : ∀ {T' H' : Hp} {S' η' F'}, (∀ a o, T1 a = some o → T' a = some o) → GRel G H' S' η' T' F' → SqT X.K H' a vs := fun e' g' => hK ▸ sqT_mono g'.sub (sqT_mono e' h)
    refine ⟨a, rfl, ⟨vs, key (fun _ _ h => h) g1⟩, p1 _ H1 η1 T1 Ext.refl g1 ?_⟩
    intro η2 T2 H2 S2 F2 i e2 g2 _
    refine ⟨fun hl => ⟨vs, key e2.sub g2, by rw [← r.length]; exact hl⟩, fun d hd => ?_⟩
    obtain ⟨x, hx, rx⟩ := r.get hd
    refine ⟨⟨vs, x, key e2.sub g2, hx⟩, fun y H3 hy => ?_⟩
    obtain ⟨rfl, hy⟩ := hy
    have := hy vs (key e2.sub g2)
    rw [hx] at this; cases this
    exact ⟨η2, T2, Ext.refl, g2, rx.mono e2⟩
  | _ => exact p1.elim
/-- range -/
def rngD (lo : Int) (n : Nat) : List D := (List.range n).map fun (k : Nat) => .int (lo + (k : Int))
def iRange1 (m : DenA) : DenI := fun ρ S => (m ρ S).bind fun ds S1 => match ds with
  | [.int j] => if -(2 ^ 62) ≤ j ∧ j < 2 ^ 62 then .ok (rngD 0 j.toNat) S1 else .bad
  | _ => .bad
def iRange2 (m : DenA) : DenI := fun ρ S => (m ρ S).bind fun ds S1 => match ds with
  | [.int i, .int j] => if -(2 ^ 62) ≤ i ∧ i < 2 ^ 62 ∧ -(2 ^ 62) ≤ j ∧ j < 2 ^ 62 then .ok (rngD i (j - i).toNat) S1 else .bad
  | _ => .bad
theorem yields_range {F : Hp} {lo : Int} {n : Nat} {η : List Addr} {T : Hp} : Yields G F (Itr lo n) (rngD lo n) η T := by
  intro η2 T2 H2 S2 F2 i e2 g2 _
  refine ⟨fun hl => (by simpa [rngD] using hl : n ≤ i), fun d hd => ?_⟩
  have hi : i < n := by simpa [rngD] using (List.getElem?_eq_some_iff.mp hd).1
  refine ⟨hi, fun y H3 hy => ?_⟩
  obtain ⟨rfl, rfl⟩ := hy
  refine ⟨η2, T2, Ext.refl, g2, ?_⟩
  have : d = .int (lo + (i : Int)) := by
    simp [rngD, List.getElem?_map, List.getElem?_range hi] at hd
    exact hd.symm
  subst this
  exact .int
theorem i_range1 {x : Expr} {ta : DenA} (h : PI X tg x (iRng1 (tA G W ta))) : PI X tg x (tI G W (iRange1 ta)) := h.imp fun σ H Q ⟨ρ, S, η, T, F, f, g, p⟩ => tA_step f g p fun d v S1 H1 η1 T1 _ e1 f1 g1 r1 p1 => by
  split at p1
  · cases r1 with
    | cons r rr =>
      cases r; cases rr
      split at p1
      · rename_i h
        exact ⟨_, rfl, h.1, h.2, p1 _ H1 η1 T1 Ext.refl g1 yields_range⟩
      · exact p1.elim
  · exact p1.elim
theorem i_range2 {x : Expr} {ta : DenA} (h : PI X tg x (iRng2 (tA G W ta))) : PI X tg x (tI G W (iRange2 ta)) := h.imp fun σ H Q ⟨ρ, S, η, T, F, f, g, p⟩ => tA_step f g p fun d v S1 H1 η1 T1 _ e1 f1 g1 r1 p1 => by
  split at p1
  · cases r1 with
    | cons r rr =>
      cases rr with
      | cons r' rr =>
      cases r; cases r'; cases rr
      split at p1
      · rename_i h
        exact ⟨_, _, rfl, h, p1 _ H1 η1 T1 Ext.refl g1 yields_range⟩
      · exact p1.elim
  · exact p1.elim

/-! ## for -/
def loopD (t : Tgt) (body : DenS) : List D → DenS
  | [], ρ, S => .ok (.nx ρ) S
  | d :: ds, ρ, S => match t d ρ with
    | none => .bad
    | some ρ1 => (body ρ1 S).bind fun f S1 => match f with
      | .nx ρ2 => loopD t body ds ρ2 S1
      | .ct ρ2 => loopD t body ds ρ2 S1
      | .bk ρ2 => .ok (.nx ρ2) S1
      | .rt d => .ok (.rt d) S1
def sFor (mi : DenI) (t : Tgt) (body : DenS) : DenS := fun ρ S => (mi ρ S).bind fun ds S1 => loopD t body ds ρ S1
theorem s_for {iter : Expr} {body : List Stmt} {mi : DenI} {t : Tgt} {mb : DenS} (hp : PassesOwn (model X.prog X.w) X.A X.env X.xe) (hc : X.calm = true) (hi : PI X tg iter (tI G W mi)) (hg : PG X tg (tG G vl t)) (hb : PSs X body (tS G W mb))
    (hs : ∀ x, foldedSetIterable iter X.env x = pure x := by intro _; rfl) : PS X (.For tg iter body [] pos) (tS G W (sFor mi t mb)) :=
  (ps_for hp hc hi hg hb hs).imp fun E σ H ⟨ρ, S, η, T, F, f, g, p⟩ => by
    refine ⟨ρ, S, η, T, F, f, g, (PostS.bind (Rp := fun η T ds J => Yields G F J ds η T) p).imp fun J H1 ⟨ds, S1, η1, T1, e0, e1, g1, y, p1⟩ => ?_⟩
    refine ⟨fun i m σ' H' => m = ds.length - i ∧ i ≤ ds.length ∧ ∃ ρ' S' η' T', Ext η1 T1 η' T' ∧ FRel G ρ' σ' η' T' ∧ GRel G H' S' η' T' F ∧ PostS G F W (loopD t mb (ds.drop i) ρ' S') η' T' E, ⟨_, rfl, Nat.zero_le _, ρ, S1, η1, T1, Ext.refl, f.mono e1, g1, p1⟩, ?_⟩
    rintro i m σ' H' ⟨rfl, hi, ρ', S', η', T', e', f', g', p'⟩
    have yy := y η' T' H' S' F i e' g' (fun _ _ h => h)
    by_cases hlt : i < ds.length
    · obtain ⟨d, hd⟩ : ∃ d, ds[i]? = some d := ⟨ds[i], by simp [hlt]⟩
      have hdr : ds.drop i = d :: ds.drop (i + 1) := by
        rw [List.drop_eq_getElem_cons hlt]
        congr 1
        have := List.getElem?_eq_getElem hlt
        rw [hd] at this; cases this; rfl
      rw [hdr] at p'
      unfold loopD at p'
      obtain ⟨go, yl⟩ := yy.2 d hd
      cases q : t d ρ' with
      | none => rw [q] at p'; exact p'.elim
      | some ρ1 =>
        rw [q] at p'
        dsimp only at p'
        refine .inr ⟨go, fun σ2 H2 => i + 1 ≤ ds.length ∧ ∃ ρ' S' η' T', Ext η1 T1 η' T' ∧ FRel G ρ' σ2 η' T' ∧ GRel G H2 S' η' T' F ∧ PostS G F W (loopD t mb (ds.drop (i + 1)) ρ' S') η' T' E, fun σ2 H2 hn => ⟨ds.length - (i + 1), by omega, rfl, hn⟩, fun x H2 hy => ?_⟩
        obtain ⟨η2, T2, e2, g2, rx⟩ := yl x H2 hy
        refine ⟨ρ', S', η2, T2, F, d, ρ1, f'.mono e2, g2, rx, q, fun σ3 H3 η3 T3 e3 g3 f3 _ => ?_⟩
        refine ⟨ρ1, S', η3, T3, F, f3, g3, ?_⟩
        have p3 := p'.mono (e2.trans e3)
        have base := (e'.trans e2).trans e3
        revert p3
        cases mb ρ1 S' with
        | bad => exact id
        | exn c fs S4 => exact id
        | ok fl S4 =>
          intro p3
          cases fl with
          | nx ρ4 => exact fun σ5 H5 η5 T5 e5 g5 f5 => ⟨hlt, ρ4, S4, η5, T5, base.trans e5, f5, g5, p3.mono e5⟩
          | ct ρ4 => exact fun σ5 H5 η5 T5 e5 g5 f5 => ⟨hlt, ρ4, S4, η5, T5, base.trans e5, f5, g5, p3.mono e5⟩
          | bk ρ4 => exact p3
          | rt d => exact p3
    · have he : i = ds.length := by omega
      have hdr : ds.drop i = [] := by rw [he]; simp
      rw [hdr] at p'
      exact .inl ⟨yy.1 (by omega), p' σ' H' η' T' Ext.refl g' f'⟩
end
end Tok
namespace Tok
open PySem L2

/-! ## new objects -/
section
variable {G : Gx} {H : Hp} {S : Sto} {η : List Addr} {T F : Hp}
theorem ext_fresh {p : Addr} {o : HO} (h : T p = none) : Ext η T η (upd T p o) := ⟨List.prefix_refl _, fun a u e => by rw [upd_ne (ne_of_none e h)]; exact e⟩
theorem GRel.tnone (g : GRel G H S η T F) {p : Addr} (hp : H p = none) : T p = none := by
  cases e : T p with
  | none => rfl
  | some o => rw [g.sub p o e] at hp; cases hp
theorem GRel.fnone (g : GRel G H S η T F) {p : Addr} (hp : H p = none) : F p = none := by
  cases e : F p with
  | none => rfl
  | some o => rw [g.subF p o e] at hp; cases hp
theorem GRel.nmem (g : GRel G H S η T F) {p : Addr} (hp : H p = none) {l : Nat} {a : Addr} (h : η[l]? = some a) : a ≠ p := fun e => by
  subst e
  exact g.inH a (List.mem_of_getElem? h) hp
theorem RepF.mono {η' : List Addr} {T' : Hp} (e : Ext η T η' T') {fs : List (Str × D)} {fv : List (Str × V)} (h : RepF G η T fs fv) : RepF G η' T' fs fv := ⟨h.1, h.2.mono e⟩
theorem RepO.mono {η' : List Addr} {T' H' : Hp} {a : Addr} (e : Ext η T η' T') (h : H' a = H a) {o : SO} (r : RepO G η T H a o) : RepO G η' T' H' a o := by
  cases o with
  | lst ds => obtain ⟨vs, q, r⟩ := r; exact ⟨vs, h.trans q, r.mono e⟩
  | ins c fs => obtain ⟨dx, fv, q, r⟩ := r; exact ⟨dx, fv, h.trans q, r.mono e⟩
  | dead => trivial
/-- a new object of the trees -/
theorem GRel.fresh (g : GRel G H S η T F) {p : Addr} (hp : H p = none) (o : HO) : GRel G (upd H p o) S η (upd T p o) F where
  sub := fun a u e => by
    by_cases h : a = p
    · subst h; rw [upd_same] at e ⊢; exact e
    · rw [upd_ne h] at e ⊢; exact g.sub a u e
  subF := fun a u e => by rw [upd_ne (ne_of_none (g.subF a u e) hp)]; exact g.subF a u e
  dis := fun a u e => by rw [upd_ne (ne_of_none (g.subF a u e) hp)]; exact g.dis a u e
  len := g.len
  nd := g.nd
  inH := fun a ha => by
    by_cases h : a = p
    · subst h; rw [upd_same]; simp
    · rw [upd_ne h]; exact g.inH a ha
  off := fun l u a h1 h2 hl => by rw [upd_ne (g.nmem hp h2)]; exact g.off l u a h1 h2 hl
  fη := g.fη
  obj := fun l u a h1 h2 => (g.obj l u a h1 h2).mono (ext_fresh (g.tnone hp)) (upd_ne (g.nmem hp h2))
/-- a new object beside all that is told -/
theorem GRel.beside (g : GRel G H S η T F) {p : Addr} (hp : H p = none) (o : HO) : GRel G (upd H p o) S η T F where
  sub := fun a u e => by rw [upd_ne (ne_of_none (g.sub a u e) hp)]; exact g.sub a u e
  subF := fun a u e => by rw [upd_ne (ne_of_none (g.subF a u e) hp)]; exact g.subF a u e
  dis := g.dis
  len := g.len
  nd := g.nd
  inH := fun a ha => by
    by_cases h : a = p
    · subst h; rw [upd_same]; simp
    · rw [upd_ne h]; exact g.inH a ha
  off := g.off
  fη := g.fη
  obj := fun l u a h1 h2 => (g.obj l u a h1 h2).mono Ext.refl (upd_ne (g.nmem hp h2))
theorem nodup_snoc {α : Type} {l : List α} {x : α} (h : l.Nodup) (hx : x ∉ l) : (l ++ [x]).Nodup := List.nodup_append.mpr ⟨h, by simp, fun a ha b hb e => by simp at hb; subst hb; subst e; exact hx ha⟩
theorem ext_loc {p : Addr} : Ext η T (η ++ [p]) T := ⟨List.prefix_append _ _, fun _ _ h => h⟩
/-- a new object of the store -/
theorem GRel.newLoc (g : GRel G H S η T F) {p : Addr} (hp : H p = none) {o : HO} {so : SO} (r : RepO G (η ++ [p]) T (upd H p o) p so) : GRel G (upd H p o) (S ++ [so]) (η ++ [p]) T F := by
  have hm : p ∉ η := fun h => g.inH p h hp
  refine ⟨fun a u e => ?_, fun a u e => ?_, g.dis, by simp [g.len], nodup_snoc g.nd hm, fun a ha => ?_, fun l u a h1 h2 hl => ?_, fun a ha => ?_, fun l u a h1 h2 => ?_⟩
  · rw [upd_ne (ne_of_none (g.sub a u e) hp)]; exact g.sub a u e
  · rw [upd_ne (ne_of_none (g.subF a u e) hp)]; exact g.subF a u e
  · by_cases h : a = p
    · subst h; rw [upd_same]; simp
    · rw [upd_ne h]
      rcases List.mem_append.mp ha with ha | ha
      · exact g.inH a ha
      · simp at ha; exact absurd ha h
  · by_cases hl' : l < S.length
    · rw [List.getElem?_append_left hl'] at h1
      rw [List.getElem?_append_left (by rw [g.len]; exact hl')] at h2
      exact g.off l u a h1 h2 hl
    · have : l = η.length := by
        have := (List.getElem?_eq_some_iff.mp h1).1
        simp at this
        rw [g.len]; omega
      subst this
      rw [List.getElem?_append_right (Nat.le_refl _)] at h2
      simp at h2
      subst h2
      exact g.tnone hp
  · rcases List.mem_append.mp ha with ha | ha
    · exact g.fη a ha
    · simp at ha; subst ha; exact g.fnone hp
  · by_cases hl' : l < S.length
    · rw [List.getElem?_append_left hl'] at h1
      rw [List.getElem?_append_left (by rw [g.len]; exact hl')] at h2
      exact (g.obj l u a h1 h2).mono ext_loc (upd_ne (g.nmem hp h2))
    · have : l = η.length := by
        have := (List.getElem?_eq_some_iff.mp h1).1
        simp at this
        rw [g.len]; omega
      subst this
      rw [List.getElem?_append_right (Nat.le_refl _)] at h2
      rw [g.len, List.getElem?_append_right (Nat.le_refl _)] at h1
      simp at h1 h2
      subst h1 h2
      exact r
theorem loc_at (g : GRel G H S η T F) {l : Nat} {o : SO} (h : S[l]? = some o) : ∃ a, η[l]? = some a := by
  have : l < η.length := by rw [g.len]; exact (List.getElem?_eq_some_iff.mp h).1
  exact ⟨η[l], by simp [this]⟩
theorem nd_at {l m : Nat} {a : Addr} (nd : η.Nodup) (h1 : η[l]? = some a) (h2 : η[m]? = some a) : l = m := by
  obtain ⟨k1, e1⟩ := List.getElem?_eq_some_iff.mp h1
  obtain ⟨k2, e2⟩ := List.getElem?_eq_some_iff.mp h2
  exact (List.getElem_inj nd).mp (e1.trans e2.symm)
/-- an object of the store is written -/
theorem GRel.write (g : GRel G H S η T F) {l : Nat} {a : Addr} {so so' : SO} {o : HO} (hS : S[l]? = some so) (hl : so.live) (ha : η[l]? = some a) (r : RepO G η T (upd H a o) a so') : GRel G (upd H a o) (S.set l so') η T F := by
  have hof := g.off l so a hS ha hl
  have hlt := (List.getElem?_eq_some_iff.mp hS).1
  refine ⟨fun b u e => ?_, fun b u e => ?_, g.dis, by simp [g.len], g.nd, fun b hb => ?_, fun m u b h1 h2 hu => ?_, g.fη, fun m u b h1 h2 => ?_⟩
  · rw [upd_ne (ne_of_none e hof)]; exact g.sub b u e
  · rw [upd_ne (ne_of_none e (g.fη a (List.mem_of_getElem? ha)))]; exact g.subF b u e
  · by_cases h : b = a
    · subst h; rw [upd_same]; simp
    · rw [upd_ne h]; exact g.inH b hb
  · by_cases hm : m = l
    · subst hm; rw [ha] at h2; cases h2; exact hof
    · rw [List.getElem?_set_ne (Ne.symm hm)] at h1
      exact g.off m u b h1 h2 hu
  · by_cases hm : m = l
    · subst hm
      rw [ha] at h2; cases h2
      rw [List.getElem?_set_self hlt] at h1
      cases h1
      exact r
    · rw [List.getElem?_set_ne (Ne.symm hm)] at h1
      exact (g.obj m u b h1 h2).mono Ext.refl (upd_ne fun e => hm (nd_at g.nd (by rw [e] at h2; exact h2) ha))
/-- an object of the store becomes a tree -/
theorem GRel.freeze (g : GRel G H S η T F) {l : Nat} {a : Addr} {so : SO} {o : HO} (hS : S[l]? = some so) (hl : so.live) (ha : η[l]? = some a) (hH : H a = some o) : GRel G H (S.set l .dead) η (upd T a o) F ∧ Ext η T η (upd T a o) := by
  have hof := g.off l so a hS ha hl
  have ex : Ext η T η (upd T a o) := ext_fresh hof
  have hlt := (List.getElem?_eq_some_iff.mp hS).1
  refine ⟨⟨fun b u e => ?_, g.subF, fun b u e => ?_, by simp [g.len], g.nd, g.inH, fun m u b h1 h2 hu => ?_, g.fη, fun m u b h1 h2 => ?_⟩, ex⟩
  · by_cases h : b = a
    · subst h; rw [upd_same] at e; cases e; exact hH
    · rw [upd_ne h] at e; exact g.sub b u e
  · rw [upd_ne (ne_of_none e (g.fη a (List.mem_of_getElem? ha)))]; exact g.dis b u e
  · by_cases hm : m = l
    · subst hm; rw [List.getElem?_set_self hlt] at h1; cases h1; exact hu.elim
    · rw [List.getElem?_set_ne (Ne.symm hm)] at h1
      rw [upd_ne fun e => hm (nd_at g.nd (by rw [e] at h2; exact h2) ha)]
      exact g.off m u b h1 h2 hu
  · by_cases hm : m = l
    · subst hm; rw [List.getElem?_set_self hlt] at h1; cases h1; trivial
    · rw [List.getElem?_set_ne (Ne.symm hm)] at h1
      exact (g.obj m u b h1 h2).mono ex rfl
/-- the frame may be widened by an object beside -/
theorem GRel.frame (g : GRel G H S η T F) {p : Addr} {o : HO} (hH : H p = some o) (hT : T p = none) (hη : p ∉ η) : GRel G H S η T (upd F p o) where
  sub := g.sub
  subF := fun a u e => by
    by_cases h : a = p
    · subst h; rw [upd_same] at e; cases e; exact hH
    · rw [upd_ne h] at e; exact g.subF a u e
  dis := fun a u e => by
    by_cases h : a = p
    · subst h; exact hT
    · rw [upd_ne h] at e; exact g.dis a u e
  len := g.len
  nd := g.nd
  inH := g.inH
  off := g.off
  fη := fun a ha => by
    have : a ≠ p := fun e => hη (by rw [← e]; exact ha)
    rw [upd_ne this]
    exact g.fη a ha
  obj := g.obj
theorem GRel.unframe {F' : Hp} (g : GRel G H S η T F) (h : ∀ a o, F' a = some o → F a = some o) : GRel G H S η T F' where
  sub := g.sub
  subF := fun a u e => g.subF a u (h a u e)
  dis := fun a u e => g.dis a u (h a u e)
  len := g.len
  nd := g.nd
  inH := g.inH
  off := g.off
  fη := fun a ha => by
    cases e : F' a with
    | none => rfl
    | some v =>
      have q := h a v e
      rw [g.fη a ha] at q
      cases q
  obj := g.obj
theorem rep_tup {p : Addr} {vs : List V} {ds : List D} (h : T p = some (.tup vs)) (r : Reps G η T ds vs) : Rep G η T (.tup ds) (.ref p) := .tup (SqT.of h) r
theorem rep_lst {p : Addr} {vs : List V} {ds : List D} (h : T p = some (.lst vs)) (r : Reps G η T ds vs) : Rep G η T (.lst ds) (.ref p) := .lst h r
/-- the value of a primitive is a new tuple, a new list -/
theorem PostP.tup {o : Option D} {ds : List D} {vs : List V} {Q : VK} (h : PostP G F S o η T Q) (e : o = some (.tup ds)) (g : GRel G H S η T F) (r : Reps G η T ds vs) {p : Addr} (hp : H p = none) : Q (.ref p) (upd H p (.tup vs)) := by
  obtain ⟨d, e', k⟩ := h
  rw [e] at e'; cases e'
  have ex : Ext η T η (upd T p (.tup vs)) := ext_fresh (g.tnone hp)
  exact k _ _ η _ ex (g.fresh hp _) (rep_tup upd_same (r.mono ex))
theorem PostP.lst {o : Option D} {ds : List D} {vs : List V} {Q : VK} (h : PostP G F S o η T Q) (e : o = some (.lst ds)) (g : GRel G H S η T F) (r : Reps G η T ds vs) {p : Addr} (hp : H p = none) : Q (.ref p) (upd H p (.lst vs)) := by
  obtain ⟨d, e', k⟩ := h
  rw [e] at e'; cases e'
  have ex : Ext η T η (upd T p (.lst vs)) := ext_fresh (g.tnone hp)
  exact k _ _ η _ ex (g.fresh hp _) (rep_lst upd_same (r.mono ex))
theorem Post.tup {W : WX} {σ : St} {ds : List D} {vs : List V} {Q : VK} (h : Post G F W σ (Rep G) (.ok (.tup ds) S) η T Q) (g : GRel G H S η T F) (r : Reps G η T ds vs) {p : Addr} (hp : H p = none) : Q (.ref p) (upd H p (.tup vs)) := by
  have ex : Ext η T η (upd T p (.tup vs)) := ext_fresh (g.tnone hp)
  exact h _ _ η _ ex (g.fresh hp _) (rep_tup upd_same (r.mono ex))
theorem Post.lst {W : WX} {σ : St} {ds : List D} {vs : List V} {Q : VK} (h : Post G F W σ (Rep G) (.ok (.lst ds) S) η T Q) (g : GRel G H S η T F) (r : Reps G η T ds vs) {p : Addr} (hp : H p = none) : Q (.ref p) (upd H p (.lst vs)) := by
  have ex : Ext η T η (upd T p (.lst vs)) := ext_fresh (g.tnone hp)
  exact h _ _ η _ ex (g.fresh hp _) (rep_lst upd_same (r.mono ex))
/-- .. a new list of the store -/
theorem Post.lstS {W : WX} {σ : St} {ds : List D} {vs : List V} {Q : VK} (h : Post G F W σ (Rep G) (.ok (.ref S.length) (S ++ [.lst ds])) η T Q) (g : GRel G H S η T F) (r : Reps G η T ds vs) {p : Addr} (hp : H p = none) : Q (.ref p) (upd H p (.lst vs)) := by
  refine h _ _ (η ++ [p]) T ext_loc (g.newLoc hp ⟨vs, upd_same, r.mono ext_loc⟩) (.ref ?_)
  rw [← g.len]
  simp
end

/-! ## displays -/
section
variable {X : Cx} {G : Gx} {W : WX} {a b c e : Expr} {ma mb mc m : Den} {pos : Pos} {σ : St} {H : Hp} {es : List Expr} {na : DenA}
theorem sqT_up (hK : G.K = X.K) {S : Sto} {η : List Addr} {T F : Hp} (g : GRel G H S η T F) {a : Addr} {vs : List V} (h : SqT G.K T a vs) : SqT X.K H a vs := hK ▸ sqT_mono g.sub h
theorem sqL_up (hK : G.K = X.K) {S : Sto} {η : List Addr} {T F : Hp} (g : GRel G H S η T F) {a : Addr} {vs : List V} (h : SqL G.K T a vs) : SqL X.K H a vs := hK ▸ sqL_mono g.sub h
/-- *e in a display -/
def aStar (m : Den) (n : DenA) : DenA := fun ρ S => (m ρ S).bind fun x S1 => match x with
  | .tup xs => (n ρ S1).bind fun ys S2 => .ok (xs ++ ys) S2
  | .lst xs => (n ρ S1).bind fun ys S2 => .ok (xs ++ ys) S2
  | _ => .bad
theorem a_star (hK : G.K = X.K) {p : Pos} (h : PE X e (tE G W m)) (hr : PA X es (tA G W na)) (hs : starEach (.Starred e p :: es) X.env = (true, eval e X.env) :: starEach es X.env := by rfl) : PA X (.Starred e p :: es) (tA G W (aStar m na)) :=
  (StX.pa_star h hr hs).imp fun σ H Q ⟨ρ, S, η, T, F, fr, g, p⟩ => tE_step fr g p fun d v S1 H1 η1 T1 _ e1 f1 g1 r1 p1 => by
    cases r1 with
    | @tup a vs ds h r => exact ⟨a, vs, rfl, .inl (sqT_up hK g1 h), tA_step f1 g1 p1 fun d2 v2 S2 H2 η2 T2 _ e2 f2 g2 r2 p2 => p2.ok g2 ((r.mono e2).append r2)⟩
    | @lst a vs ds h r => exact ⟨a, vs, rfl, .inr (SqL.of (g1.sub _ _ h)), tA_step f1 g1 p1 fun d2 v2 S2 H2 η2 T2 _ e2 f2 g2 r2 p2 => p2.ok g2 ((r.mono e2).append r2)⟩
    | _ => exact p1.elim
def sized (xs : List D) (r : R D) : R D := if xs.length ≤ sizeLine then r else .bad
def dTup (n : DenA) : Den := fun ρ S => (n ρ S).bind fun xs S1 => sized xs (.ok (.tup xs) S1)
def dLst (n : DenA) : Den := fun ρ S => (n ρ S).bind fun xs S1 => sized xs (.ok (.lst xs) S1)
/-- a list that will be changed -/
def dLstS (n : DenA) : Den := fun ρ S => (n ρ S).bind fun xs S1 => sized xs (.ok (.ref S1.length) (S1 ++ [.lst xs]))
theorem d_tup {k : Nat} (h : PA X es (tA G W na)) : PE X (.Tuple es k pos) (tE G W (dTup na)) := (pe_tup h).imp fun σ H Q ⟨ρ, S, η, T, F, fr, g, p⟩ => tA_step fr g p fun d v S1 H1 η1 T1 _ e1 f1 g1 r1 p1 => by
  unfold sized at p1
  split at p1
  · rename_i hl
    exact ⟨r1.length ▸ hl, fun p hp => p1.tup g1 r1 hp⟩
  · exact p1.elim
theorem d_lst (h : PA X es (tA G W na)) : PE X (.List es pos) (tE G W (dLst na)) := (pe_lst h).imp fun σ H Q ⟨ρ, S, η, T, F, fr, g, p⟩ => tA_step fr g p fun d v S1 H1 η1 T1 _ e1 f1 g1 r1 p1 => by
  unfold sized at p1
  split at p1
  · rename_i hl
    exact ⟨r1.length ▸ hl, fun p hp => p1.lst g1 r1 hp⟩
  · exact p1.elim
theorem d_lstS (h : PA X es (tA G W na)) : PE X (.List es pos) (tE G W (dLstS na)) := (pe_lst h).imp fun σ H Q ⟨ρ, S, η, T, F, fr, g, p⟩ => tA_step fr g p fun d v S1 H1 η1 T1 _ e1 f1 g1 r1 p1 => by
  unfold sized at p1
  split at p1
  · rename_i hl
    exact ⟨r1.length ▸ hl, fun p hp => p1.lstS g1 r1 hp⟩
  · exact p1.elim
/-- a list of the store as a tree, from here on -/
def dFrz (m : Den) : Den := fun ρ S => (m ρ S).bind fun d S1 => match d with
  | .ref l => match S1[l]? with
    | some (.lst ds) => .ok (.lst ds) (S1.set l .dead)
    | _ => .bad
  | _ => .bad
theorem d_frz (h : PE X e (tE G W m)) : PE X e (tE G W (dFrz m)) := h.imp fun σ H Q ⟨ρ, S, η, T, F, fr, g, p⟩ => tE_step fr g p fun d v S1 H1 η1 T1 _ e1 f1 g1 r1 p1 => by
  cases r1 with
  | @ref l a h =>
    dsimp only at p1
    split at p1
    · rename_i ds hS
      obtain ⟨vs, hH, r⟩ := g1.obj l _ a hS h
      obtain ⟨g2, ex⟩ := g1.freeze hS trivial h hH
      exact p1 _ H1 η1 _ ex g2 (rep_lst upd_same (r.mono ex))
    · exact p1.elim
  | _ => exact p1.elim
end
end Tok
namespace Tok
open PySem L2

/-! ## comprehensions -/
def R.bindN {α β : Type} (r : R α) (k : α → Sto → R β) : R β := match r with
  | .ok a S => k a S
  | _ => .bad
@[simp] theorem R.bindN_ok {α β : Type} {a : α} {S : Sto} {k : α → Sto → R β} : (R.ok a S).bindN k = k a S := rfl
theorem Post.bindN {α β γ δ : Type} {G : Gx} {W W' : WX} {σ σ' : St} {Rp : List Addr → Hp → α → β → Prop} {Rq : List Addr → Hp → γ → δ → Prop} {r : R α} {η : List Addr} {T F F' : Hp} {k : α → Sto → R γ} {Q : δ → Hp → Prop}
    (h : Post G F W σ Rq (r.bindN k) η T Q) :
    Post G F' W' σ' Rp r η T (fun v H1 => ∃ d S1 η1 T1, Ext η T η1 T1 ∧ GRel G H1 S1 η1 T1 F' ∧ Rp η1 T1 d v ∧ Post G F W σ Rq (k d S1) η1 T1 Q) := by
  cases r with
  | ok d S => exact fun v H' η' T' e g rp => ⟨d, S, η', T', e, g, rp, Post.mono e h⟩
  | exn c fs S => exact h.elim
  | bad => exact h.elim
def wipeD (ρ : Env) : List Nat → Env
  | [] => ρ
  | v :: vs => (wipeD ρ vs).set v none
theorem wipeD_length (ρ : Env) : ∀ vs : List Nat, (wipeD ρ vs).length = ρ.length
  | [] => rfl
  | v :: vs => by unfold wipeD; rw [List.length_set, wipeD_length ρ vs]
theorem wipeD_some {ρ : Env} {i : Nat} {d : D} : ∀ {vs : List Nat}, (wipeD ρ vs)[i]? = some (some d) → ρ[i]? = some (some d) ∧ i ∉ vs
  | [], h => ⟨h, by simp⟩
  | v :: vs, h => by
    unfold wipeD at h
    by_cases hi : v = i
    · subst hi
      rw [List.getElem?_set] at h
      split at h
      · split at h <;> simp at h
      · rename_i q; exact absurd rfl q
    · rw [List.getElem?_set_ne hi] at h
      obtain ⟨h1, h2⟩ := wipeD_some h
      exact ⟨h1, fun m => (List.mem_cons.mp m).elim (fun e => hi e.symm) h2⟩
theorem FRel.wipe {G : Gx} {ρ : Env} {σ : St} {η : List Addr} {T : Hp} (f : FRel G ρ σ η T) (vs : List Nat) : FRel G (wipeD ρ vs) (wipe σ vs) η T :=
  ⟨by rw [wipeD_length, wipe_length, f.len], fun i d h => by
    obtain ⟨h1, h2⟩ := wipeD_some h
    obtain ⟨v, a, b⟩ := f.get i d h1
    exact ⟨v, by rw [wipe_out h2]; exact a, b⟩⟩
def lcD (t : Tgt) (tt : DenT) (te : Den) : List D → Env → Sto → R (List D)
  | [], _, S => .ok [] S
  | d :: ds, ρ, S => match t d ρ with
    | none => .bad
    | some ρ1 => (tt ρ1 S).bindN fun b S1 => if b then (te ρ1 S1).bindN fun y S2 => (lcD t tt te ds ρ S2).bind fun ys S3 => .ok (y :: ys) S3 else lcD t tt te ds ρ S1
def tYesD : DenT := fun _ S => .ok true S
abbrev W0 : WX := fun _ _ _ _ => False
theorem R.bind_assoc {α β γ : Type} (r : R α) (k : α → Sto → R β) (l : β → Sto → R γ) : (r.bind k).bind l = r.bind fun a S => (k a S).bind l := by cases r <;> rfl
theorem R.bindN_bind {α β γ : Type} (r : R α) (k : α → Sto → R β) (l : β → Sto → R γ) : (r.bindN k).bind l = r.bindN fun a S => (k a S).bind l := by cases r <;> rfl

section
variable {X : Cx} {G : Gx} {W : WX} {pos : Pos} {σ : St} {H : Hp} {t : Tgt} {tt : DenT} {te : Den} {vs : List Nat}
/-- the loop of a comprehension; the end Qd takes the new list at Dl -/
theorem lc_reading {J : It} {ds : List D} {ρ : Env} {S : Sto} {η : List Addr} {T F : Hp} {H1 : Hp} {Dl : Addr} {Qd : VK} {fin : List D → Sto → R D} (f : FRel G ρ σ η T) (g : GRel G H1 S η T F) (y : Yields G F J ds η T) (hz : ds.length ≤ sizeLine)
    (hD : H1 Dl = none) (p : Post G F W σ (Rep G) ((lcD t tt te ds (wipeD ρ vs) S).bind fin) η T Qd)
    (hfin : ∀ ys us S' H' η' T', Ext η T η' T' → GRel G H' S' η' T' F → H' Dl = some (.lst us) → T' Dl = none → Dl ∉ η' → Reps G η' T' ys us → ys.length ≤ sizeLine → Post G F W σ (Rep G) (fin ys S') η' T' Qd → Qd (.ref Dl) H') :
    ∃ Wd : Nat → Nat → Hp → Prop, (∃ m, Wd 0 m (upd H1 Dl (.lst []))) ∧ ∀ i m H, Wd i m H → (J.stop i H ∧ Qd (.ref Dl) H) ∨ (J.go i H ∧ ∃ Nx : Hp → Prop, (∀ H', Nx H' → ∃ m', m' < m ∧ Wd (i + 1) m' H') ∧
      ∀ x H', J.yld i H x H' → tG G vs t x (wipe σ vs) H' fun σ2 H2 => wipe σ2 vs = wipe σ vs ∧ tT G W0 tt σ2 H2 fun b H3 =>
        if b = true then tE G W0 te σ2 H3 fun y H4 => ∃ acc, H4 Dl = some (.lst acc) ∧ acc.length < sizeLine ∧ Nx (upd H4 Dl (.lst (acc ++ [y]))) else Nx H3) := by
  -- the word: what is made so far, beside all that is told
  let Wd : Nat → Nat → Hp → Prop := fun i m H => m = ds.length - i ∧ i ≤ ds.length ∧ ∃ S' η' T' ys us, Ext η T η' T' ∧ GRel G H S' η' T' F ∧ H Dl = some (.lst us) ∧ T' Dl = none ∧ F Dl = none ∧ Dl ∉ η' ∧ Reps G η' T' ys us ∧ ys.length ≤ i ∧
    Post G F W σ (Rep G) ((lcD t tt te (ds.drop i) (wipeD ρ vs) S').bind fun zs S3 => fin (ys ++ zs) S3) η' T' Qd
  have hDF := g.fnone hD
  have hDT := g.tnone hD
  have hDη : Dl ∉ η := fun h => g.inH _ h hD
  refine ⟨Wd, ⟨ds.length, rfl, Nat.zero_le _, S, η, T, [], [], Ext.refl, g.beside hD _, upd_same, hDT, hDF, hDη, .nil, Nat.zero_le _, p⟩, ?_⟩
  rintro i m H2 ⟨rfl, hi, S', η', T', ys, us, e', g', hH, hT, hF, hη, r, hl, p'⟩
  by_cases hlt : i < ds.length
  · obtain ⟨d, hd⟩ : ∃ d, ds[i]? = some d := ⟨ds[i], by simp [hlt]⟩
    have hdr : ds.drop i = d :: ds.drop (i + 1) := by
      rw [List.drop_eq_getElem_cons hlt]
      congr 1
      have := List.getElem?_eq_getElem hlt
      rw [hd] at this; cases this; rfl
    -- the new list is framed
    have gF : GRel G H2 S' η' T' (upd F Dl (.lst us)) := g'.frame hH hT hη
    have subF : ∀ a o, F a = some o → upd F Dl (.lst us) a = some o := fun a o h => by rw [upd_ne (ne_of_none h hF)]; exact h
    obtain ⟨go, yl⟩ := (y η' T' H2 S' _ i e' gF subF).2 d hd
    rw [hdr] at p'
    unfold lcD at p'
    refine .inr ⟨go, fun H3 => Wd (i + 1) (ds.length - (i + 1)) H3, fun H3 h3 => ⟨_, by omega, h3⟩, fun x H3 hy => ?_⟩
    obtain ⟨η3, T3, e3, g3, rx⟩ := yl x H3 hy
    cases q : t d (wipeD ρ vs) with
    | none => rw [q] at p'; exact p'.elim
    | some ρ1 =>
      rw [q] at p'
      dsimp only at p'
      rw [R.bindN_bind] at p'
      refine ⟨wipeD ρ vs, S', η3, T3, _, d, ρ1, (f.mono (e'.trans e3)).wipe vs, g3, rx, q, fun σ4 H4 η4 T4 e4 g4 f4 hw => ⟨?_, ?_⟩⟩
      · rw [hw]
        -- wipe of wipe
        apply List.ext_getElem?
        intro j
        by_cases hj : j ∈ vs
        · by_cases hl : j < σ.length
          · rw [wipe_in hj (by rw [wipe_length]; exact hl), wipe_in hj hl]
          · rw [List.getElem?_eq_none (by rw [wipe_length, wipe_length]; omega), List.getElem?_eq_none (by rw [wipe_length]; omega)]
        · rw [wipe_out hj]
      · refine ⟨ρ1, S', η4, T4, _, f4, g4, (Post.bindN (Rp := RpB) (p'.mono (e3.trans e4))).imp ?_⟩
        rintro b H5 ⟨b', S5, η5, T5, e5, g5, hb, p5⟩
        have hb : b' = b := hb
        subst hb
        have b5 := ((e'.trans e3).trans e4).trans e5
        have f5 := f4.mono e5
        -- the list at Dl behind a state with the frame
        have at_ : ∀ {H6 S6 η6 T6}, GRel G H6 S6 η6 T6 (upd F Dl (.lst us)) → H6 Dl = some (.lst us) ∧ T6 Dl = none ∧ Dl ∉ η6 := fun g6 => ⟨g6.subF _ _ upd_same, g6.dis _ _ upd_same, fun hm => by
          have z := g6.fη _ hm
          rw [upd_same] at z; cases z⟩
        cases b' with
        | false =>
          rw [if_neg (by decide)] at p5 ⊢
          obtain ⟨a1, a2, a3⟩ := at_ g5
          exact ⟨rfl, hlt, S5, η5, T5, ys, us, b5, g5.unframe subF, a1, a2, hF, a3, r.mono (((e3.trans e4).trans e5)), by omega, p5⟩
        | true =>
          rw [if_pos rfl] at p5 ⊢
          rw [R.bindN_bind] at p5
          refine ⟨ρ1, S5, η5, T5, _, f5, g5, (Post.bindN p5).imp ?_⟩
          rintro v H6 ⟨dv, S6, η6, T6, e6, g6, rv, p6⟩
          obtain ⟨a1, a2, a3⟩ := at_ g6
          have b6 := b5.trans e6
          have r6 : Reps G η6 T6 ys us := r.mono (((e3.trans e4).trans e5).trans e6)
          refine ⟨us, a1, by have := r6.length; omega, rfl, hlt, S6, η6, T6, ys ++ [dv], us ++ [v], b6, ?_, upd_same, a2, hF, a3, r6.append (Reps.one rv), by simp; omega, ?_⟩
          · have gu := g6.unframe subF
            refine ⟨fun a u e => ?_, fun a u e => ?_, gu.dis, gu.len, gu.nd, fun a ha => ?_, gu.off, gu.fη, fun l u a h1 h2 => ?_⟩
            · rw [upd_ne (ne_of_none e a2)]; exact gu.sub a u e
            · rw [upd_ne (ne_of_none e hF)]; exact gu.subF a u e
            · by_cases h : a = Dl
              · subst h; exact absurd ha a3
              · rw [upd_ne h]; exact gu.inH a ha
            · exact (gu.obj l u a h1 h2).mono Ext.refl (upd_ne fun e => a3 (by rw [← e]; exact List.mem_of_getElem? h2))
          · rw [R.bind_assoc] at p6
            have e7 : (fun (zs : List D) S3 => fin ((ys ++ [dv]) ++ zs) S3) = fun zs S3 => fin (ys ++ dv :: zs) S3 := by
              funext zs S3; simp
            rw [e7]
            exact p6
  · have he : i = ds.length := by omega
    have hdr : ds.drop i = [] := by rw [he]; simp
    rw [hdr] at p'
    refine .inl ⟨(y η' T' H2 S' F i e' g' (fun _ _ h => h)).1 (by omega), ?_⟩
    have p2 : Post G F W σ (Rep G) (fin (ys ++ []) S') η' T' Qd := p'
    rw [List.append_nil] at p2
    exact hfin ys us S' H2 η' T' e' g' hH hT hη r (by omega) p2

/-- an object beside becomes a tree, or one of the store -/
theorem _root_.Tok.GRel.adopt {S : Sto} {η : List Addr} {T F : Hp} {p : Addr} {o : HO} (g : GRel G H S η T F) (hH : H p = some o) (hT : T p = none) (hF : F p = none) (hη : p ∉ η) : GRel G H S η (upd T p o) F := by
  refine ⟨fun b u e => ?_, g.subF, fun b u e => ?_, g.len, g.nd, g.inH, fun m u b h1 h2 hu => ?_, g.fη, fun m u b h1 h2 => ?_⟩
  · by_cases h : b = p
    · subst h; rw [upd_same] at e; cases e; exact hH
    · rw [upd_ne h] at e; exact g.sub b u e
  · rw [upd_ne (ne_of_none e hF)]; exact g.dis b u e
  · rw [upd_ne fun e => hη (by rw [← e]; exact List.mem_of_getElem? h2)]
    exact g.off m u b h1 h2 hu
  · exact (g.obj m u b h1 h2).mono (ext_fresh hT) rfl
theorem _root_.Tok.GRel.adoptS {S : Sto} {η : List Addr} {T F : Hp} {p : Addr} {so : SO} (g : GRel G H S η T F) (hH : H p ≠ none) (hT : T p = none) (hF : F p = none) (hη : p ∉ η) (r : RepO G (η ++ [p]) T H p so) : GRel G H (S ++ [so]) (η ++ [p]) T F := by
  refine ⟨g.sub, g.subF, g.dis, by simp [g.len], nodup_snoc g.nd hη, fun a ha => ?_, fun l u a h1 h2 hl => ?_, fun a ha => ?_, fun l u a h1 h2 => ?_⟩
  · rcases List.mem_append.mp ha with ha | ha
    · exact g.inH a ha
    · simp at ha; subst ha; exact hH
  · by_cases hl' : l < S.length
    · rw [List.getElem?_append_left hl'] at h1
      rw [List.getElem?_append_left (by rw [g.len]; exact hl')] at h2
      exact g.off l u a h1 h2 hl
    · have : l = η.length := by
        have := (List.getElem?_eq_some_iff.mp h1).1
        simp at this
        rw [g.len]; omega
      subst this
      rw [List.getElem?_append_right (Nat.le_refl _)] at h2
      simp at h2
      subst h2
      exact hT
  · rcases List.mem_append.mp ha with ha | ha
    · exact g.fη a ha
    · simp at ha; subst ha; exact hF
  · by_cases hl' : l < S.length
    · rw [List.getElem?_append_left hl'] at h1
      rw [List.getElem?_append_left (by rw [g.len]; exact hl')] at h2
      exact (g.obj l u a h1 h2).mono ext_loc rfl
    · have : l = η.length := by
        have := (List.getElem?_eq_some_iff.mp h1).1
        simp at this
        rw [g.len]; omega
      subst this
      rw [List.getElem?_append_right (Nat.le_refl _)] at h2
      rw [g.len, List.getElem?_append_right (Nat.le_refl _)] at h1
      simp at h1 h2
      subst h1 h2
      exact r
def dLc (mi : DenI) (t : Tgt) (tt : DenT) (te : Den) (vs : List Nat) : Den := fun ρ S => (mi ρ S).bind fun ds S1 => if ds.length ≤ sizeLine then (lcD t tt te ds (wipeD ρ vs) S1).bind fun ys S2 => .ok (.lst ys) S2 else .bad
def dLcS (mi : DenI) (t : Tgt) (tt : DenT) (te : Den) (vs : List Nat) : Den := fun ρ S => (mi ρ S).bind fun ds S1 => if ds.length ≤ sizeLine then (lcD t tt te ds (wipeD ρ vs) S1).bind fun ys S2 => .ok (.ref S2.length) (S2 ++ [.lst ys]) else .bad
theorem lc_tE {mi : DenI} {Q : VK} (h : tE G W (dLc mi t tt te vs) σ H Q) : tLc (tI G W mi) (tG G vs t) (tT G W0 tt) (tE G W0 te) vs σ H Q := by
  obtain ⟨ρ, S, η, T, F, f, g, p⟩ := h
  refine ⟨ρ, S, η, T, F, f, g, (Post.bind (Rp := fun η T ds J => Yields G F J ds η T) p).imp fun J H1 ⟨ds, S1, η1, T1, e0, e1, g1, y, p1⟩ Dl hD => ?_⟩
  split at p1
  · rename_i hz
    refine lc_reading (f.mono e1) g1 y hz hD p1 fun ys us S' H' η' T' e' g' hH hT hη r hl p2 => ?_
    have hF : F Dl = none := g1.fnone hD
    have ex : Ext η' T' η' (upd T' Dl (.lst us)) := ext_fresh hT
    exact p2 _ H' η' _ ex (g'.adopt hH hT hF hη) (rep_lst upd_same (r.mono ex))
  · exact p1.elim
theorem lcS_tE {mi : DenI} {Q : VK} (h : tE G W (dLcS mi t tt te vs) σ H Q) : tLc (tI G W mi) (tG G vs t) (tT G W0 tt) (tE G W0 te) vs σ H Q := by
  obtain ⟨ρ, S, η, T, F, f, g, p⟩ := h
  refine ⟨ρ, S, η, T, F, f, g, (Post.bind (Rp := fun η T ds J => Yields G F J ds η T) p).imp fun J H1 ⟨ds, S1, η1, T1, e0, e1, g1, y, p1⟩ Dl hD => ?_⟩
  split at p1
  · rename_i hz
    refine lc_reading (f.mono e1) g1 y hz hD p1 fun ys us S' H' η' T' e' g' hH hT hη r hl p2 => ?_
    have hF : F Dl = none := g1.fnone hD
    refine p2 _ H' (η' ++ [Dl]) T' ext_loc (g'.adoptS (by rw [hH]; simp) hT hF hη ⟨us, hH, r.mono ext_loc⟩) (.ref ?_)
    rw [← g'.len]; simp
  · exact p1.elim
theorem pts_yes {X : Cx} : PTs X [] (tT G W tYesD) := by
  refine ⟨fun pins s σ H Q I hw => pts_nil.run pins s σ H Q I ?_⟩
  obtain ⟨ρ, S, η, T, F, f, g, p⟩ := hw
  exact p.ok g rfl
section
variable {elt tg iter : Expr} {ifs : List Expr} {scope : Scope} {own : List (Str × Nat)} {mi : DenI}
theorem d_lc (hc : X.calm = true) (hN : X.N.Nodup) (hi : PI X tg iter (tI G W mi)) (ok : BlkOk X.N X.env.scope scope own)
    (hg : ∀ (s : Shared) (H : Hp) (C : Addr) (cl : List (Str × Addr)) (fp : List Addr), PG (X.blk s H scope (compEnvC scope cl C X.env) fp) tg (tG G (own.map (·.2)) t))
    (ht : ∀ (s : Shared) (H : Hp) (C : Addr) (cl : List (Str × Addr)) (fp : List Addr), PTs (X.blk s H scope (compEnvC scope cl C X.env) fp) ifs (tT G W0 tt))
    (he : ∀ (s : Shared) (H : Hp) (C : Addr) (cl : List (Str × Addr)) (fp : List Addr), PE (X.blk s H scope (compEnvC scope cl C X.env) fp) elt (tE G W0 te)) (hs : ∀ x, foldedSetIterable iter X.env x = pure x := by intro _; rfl) :
    PE X (.ListComp elt [⟨tg, iter, ifs, 0⟩] scope pos) (tE G W (dLc mi t tt te (own.map (·.2)))) := (pe_lc hc hN hi ok hg ht he hs).imp fun _ _ _ => lc_tE
theorem d_lcS (hc : X.calm = true) (hN : X.N.Nodup) (hi : PI X tg iter (tI G W mi)) (ok : BlkOk X.N X.env.scope scope own)
    (hg : ∀ (s : Shared) (H : Hp) (C : Addr) (cl : List (Str × Addr)) (fp : List Addr), PG (X.blk s H scope (compEnvC scope cl C X.env) fp) tg (tG G (own.map (·.2)) t))
    (ht : ∀ (s : Shared) (H : Hp) (C : Addr) (cl : List (Str × Addr)) (fp : List Addr), PTs (X.blk s H scope (compEnvC scope cl C X.env) fp) ifs (tT G W0 tt))
    (he : ∀ (s : Shared) (H : Hp) (C : Addr) (cl : List (Str × Addr)) (fp : List Addr), PE (X.blk s H scope (compEnvC scope cl C X.env) fp) elt (tE G W0 te)) (hs : ∀ x, foldedSetIterable iter X.env x = pure x := by intro _; rfl) :
    PE X (.ListComp elt [⟨tg, iter, ifs, 0⟩] scope pos) (tE G W (dLcS mi t tt te (own.map (·.2)))) := (pe_lc hc hN hi ok hg ht he hs).imp fun _ _ _ => lcS_tE
variable {i : Nat} {y : Str} {py spos : Pos}
theorem s_setLc (hc : X.calm = true) (hN : X.N.Nodup) (hy : X.N[i]? = some y) (hyl : X.env.scope.names.lookup y = some .local)
    (hsw : swapsWith (.ListComp elt [⟨tg, iter, ifs, 0⟩] scope pos) (some (.Name y py)) spos.line X.env = pure true) (hi : PI X tg iter (tI G W mi)) (ok : BlkOk X.N X.env.scope scope own)
    (hg : ∀ (s : Shared) (H : Hp) (C : Addr) (cl : List (Str × Addr)) (fp : List Addr), PG (X.blk s H scope (compEnvC scope cl C X.env) fp) tg (tG G (own.map (·.2)) t))
    (ht : ∀ (s : Shared) (H : Hp) (C : Addr) (cl : List (Str × Addr)) (fp : List Addr), PTs (X.blk s H scope (compEnvC scope cl C X.env) fp) ifs (tT G W0 tt))
    (he : ∀ (s : Shared) (H : Hp) (C : Addr) (cl : List (Str × Addr)) (fp : List Addr), PE (X.blk s H scope (compEnvC scope cl C X.env) fp) elt (tE G W0 te)) (hs : ∀ x, foldedSetIterable iter X.env x = pure x := by intro _; rfl) :
    PS X (.Assign [.Name y py] (.ListComp elt [⟨tg, iter, ifs, 0⟩] scope pos) spos) (tS G W (sAsg (dLc mi t tt te (own.map (·.2))) (tgName i))) :=
  (ps_setLc hc hN hy hyl hsw hi ok hg ht he hs).imp fun E σ H ⟨ρ, S, η, T, F, f, g, p⟩ => lc_tE (sE_step f g p fun d v S1 H1 η1 T1 _ e1 f1 g1 r1 p1 => p1 _ H1 η1 T1 Ext.refl g1 (f1.set i r1))
theorem s_setLcS (hc : X.calm = true) (hN : X.N.Nodup) (hy : X.N[i]? = some y) (hyl : X.env.scope.names.lookup y = some .local)
    (hsw : swapsWith (.ListComp elt [⟨tg, iter, ifs, 0⟩] scope pos) (some (.Name y py)) spos.line X.env = pure true) (hi : PI X tg iter (tI G W mi)) (ok : BlkOk X.N X.env.scope scope own)
    (hg : ∀ (s : Shared) (H : Hp) (C : Addr) (cl : List (Str × Addr)) (fp : List Addr), PG (X.blk s H scope (compEnvC scope cl C X.env) fp) tg (tG G (own.map (·.2)) t))
    (ht : ∀ (s : Shared) (H : Hp) (C : Addr) (cl : List (Str × Addr)) (fp : List Addr), PTs (X.blk s H scope (compEnvC scope cl C X.env) fp) ifs (tT G W0 tt))
    (he : ∀ (s : Shared) (H : Hp) (C : Addr) (cl : List (Str × Addr)) (fp : List Addr), PE (X.blk s H scope (compEnvC scope cl C X.env) fp) elt (tE G W0 te)) (hs : ∀ x, foldedSetIterable iter X.env x = pure x := by intro _; rfl) :
    PS X (.Assign [.Name y py] (.ListComp elt [⟨tg, iter, ifs, 0⟩] scope pos) spos) (tS G W (sAsg (dLcS mi t tt te (own.map (·.2))) (tgName i))) :=
  (ps_setLc hc hN hy hyl hsw hi ok hg ht he hs).imp fun E σ H ⟨ρ, S, η, T, F, f, g, p⟩ => lcS_tE (sE_step f g p fun d v S1 H1 η1 T1 _ e1 f1 g1 r1 p1 => p1 _ H1 η1 T1 Ext.refl g1 (f1.set i r1))
end
end
end Tok
namespace Tok
open PySem L2

theorem opR_mk {X : Cx} {f : Value → Value → Sem Value} {r : R2} (h : ∀ x y H Q, r x y H Q → ∃ r' : R2, OpR X f r' ∧ r' x y H Q) : OpR X f r := fun pins s σ H x y v u Q I rx ry q => by
  obtain ⟨r', h1, h2⟩ := h x y H Q q
  exact h1 pins s σ H x y v u Q I rx ry h2
theorem callR_mk {X : Cx} {f : Value} {r : List V → Hp → VK → Prop} (h : ∀ xs H Q, r xs H Q → ∃ r' : List V → Hp → VK → Prop, CallR X f r' ∧ r' xs H Q) : CallR X f r := fun pins s σ H xs us Q I rx q => by
  obtain ⟨r', h1, h2⟩ := h xs H Q q
  exact h1 pins s σ H xs us Q I rx h2
theorem ixR_mk {X : Cx} {r : R2} (h : ∀ x y H Q, r x y H Q → ∃ r' : R2, IxR X r' ∧ r' x y H Q) : IxR X r := fun va sl pins s σ H x y v u Q I rx ry q z => by
  obtain ⟨r', h1, h2⟩ := h x y H Q q
  exact h1 va sl pins s σ H x y v u Q I rx ry h2 z
theorem mtR_mk {X : Cx} {id : String} {r : V → List V → Hp → VK → Prop} (h : ∀ x xs H Q, r x xs H Q → ∃ r' : V → List V → Hp → VK → Prop, MtR X id r' ∧ r' x xs H Q) : MtR X id r := fun pins s σ H x xs v us Q I rx rs q => by
  obtain ⟨r', h1, h2⟩ := h x xs H Q q
  exact h1 pins s σ H x xs v us Q I rx rs h2
theorem slR_mk {X : Cx} {r : V → Option Int → Option Int → Hp → VK → Prop} (h : ∀ x lo hi H Q, r x lo hi H Q → ∃ r' : V → Option Int → Option Int → Hp → VK → Prop, SlR X r' ∧ r' x lo hi H Q) : SlR X r := fun pins s σ H x v vl vu lo hi sl Q I rx hs pl pu q => by
  obtain ⟨r', h1, h2⟩ := h x lo hi H Q q
  exact h1 pins s σ H x v vl vu lo hi sl Q I rx hs pl pu h2

/-! ## arithmetic, + of texts, lists, tuples -/
def addD : P2 := fun _ x y => match x, y with
  | .int i, .int j => some (.int (i + j))
  | .str a, .str b => if a.length + b.length ≤ sizeLine then some (.str (a ++ b)) else none
  | .lst a, .lst b => if a.length + b.length ≤ sizeLine then some (.lst (a ++ b)) else none
  | .tup a, .tup b => if a ≠ [] ∧ b ≠ [] ∧ a.length + b.length ≤ sizeLine then some (.tup (a ++ b)) else none
  | _, _ => none
def subD : P2 := fun _ x y => match x, y with
  | .int i, .int j => some (.int (i - j))
  | _, _ => none
def repL (k : Nat) (xs : List D) : List D := (List.replicate k xs).flatten
def mulD : P2 := fun _ x y => match x, y with
  | .int i, .int j => if (-(2 ^ 64) < i ∧ i < 2 ^ 64) ∨ (-(2 ^ 64) < j ∧ j < 2 ^ 64) then some (.int (i * j)) else none
  | .lst xs, .int k => if -(2 ^ 63) ≤ k ∧ k < 2 ^ 63 ∧ xs.length * k.toNat ≤ sizeLine then some (.lst (repL k.toNat xs)) else none
  | _, _ => none
def modD : P2 := fun _ x y => match x, y with
  | .int i, .int j => if 0 < j then some (.int (i % j)) else none
  | _, _ => none
def fdivD : P2 := fun _ x y => match x, y with
  | .int i, .int j => if 0 < j ∧ j < 1073741824 then some (.int (i / j)) else none
  | _, _ => none
def powD : P2 := fun _ x y => match x, y with
  | .int i, .int j => if 0 ≤ j ∧ j ≤ 1000 ∧ i.natAbs < 2 ^ 1000 then some (.int (i ^ j.toNat)) else none
  | _, _ => none
def andI : P2 := fun _ x y => match x, y with
  | .int i, .int j => some (.int (Builtin.bitAnd i j))
  | _, _ => none
section
variable {X : Cx} {G : Gx}
theorem Reps.rep {η : List Addr} {T : Hp} {ds : List D} {vs : List V} (h : Reps G η T ds vs) : ∀ k : Nat, Reps G η T (repL k ds) (List.replicate k vs).flatten
  | 0 => .nil
  | k + 1 => by
    unfold repL
    rw [List.replicate_succ, List.replicate_succ, List.flatten_cons, List.flatten_cons]
    exact h.append (Reps.rep h k)
theorem o_add (hK : G.K = X.K) : OpR X (binaryOp .Add) (r2 G addD) := opR_mk fun x y H Q ⟨S, η, T, F, dx, dy, g, rx, ry, d, e, k⟩ => by
  unfold addD at e
  split at e
  · cases rx; cases ry; cases e
    exact ⟨_, op_add, _, _, rfl, rfl, k _ _ _ _ Ext.refl g .int⟩
  · cases rx; cases ry
    split at e
    · cases e
      exact ⟨_, op_add_str, _, _, rfl, rfl, by assumption, k _ _ _ _ Ext.refl g .str⟩
    · cases e
  · cases rx with
    | @lst a vs _ ha ra =>
      cases ry with
      | @lst b us _ hb rb =>
        split at e
        · cases e
          exact ⟨_, op_cat, _, _, _, _, rfl, rfl, g.sub _ _ ha, g.sub _ _ hb, by rw [← ra.length, ← rb.length]; assumption, fun p hp => (show PostP G F S (some (.lst _)) η T Q from ⟨_, rfl, k⟩).lst rfl g (ra.append rb) hp⟩
        · cases e
  · cases rx with
    | @tup a vs as ha ra =>
      cases ry with
      | @tup b us bs hb rb =>
        split at e
        · rename_i hc
          cases e
          have h1 : vs ≠ [] := fun z => by subst z; cases ra; exact hc.1 rfl
          have h2 : us ≠ [] := fun z => by subst z; cases rb; exact hc.2.1 rfl
          exact ⟨_, op_catT, a, b, vs, us, rfl, rfl, sqT_up hK g ha, sqT_up hK g hb, h1, by rw [← ra.length, ← rb.length]; exact hc.2.2, fun z => absurd z h2, fun _ p hp => (show PostP G F S (some (.tup _)) η T Q from ⟨_, rfl, k⟩).tup rfl g (ra.append rb) hp⟩
        · cases e
  · cases e

abbrev KVk (G : Gx) (F : Hp) (S : Sto) (η : List Addr) (T : Hp) (d : D) (Q : VK) : Prop := ∀ v H' η' T', Ext η T η' T' → GRel G H' S η' T' F → Rep G η' T' d v → Q v H'
theorem newL {F : Hp} {S : Sto} {η : List Addr} {T H : Hp} {ds : List D} {vs : List V} {Q : VK} (k : KVk G F S η T (.lst ds) Q) (g : GRel G H S η T F) (r : Reps G η T ds vs) : ∀ p, H p = none → Q (.ref p) (upd H p (.lst vs)) := fun p hp => (show PostP G F S (some (.lst ds)) η T Q from ⟨_, rfl, k⟩).lst rfl g r hp
theorem newT {F : Hp} {S : Sto} {η : List Addr} {T H : Hp} {ds : List D} {vs : List V} {Q : VK} (k : KVk G F S η T (.tup ds) Q) (g : GRel G H S η T F) (r : Reps G η T ds vs) : ∀ p, H p = none → Q (.ref p) (upd H p (.tup vs)) := fun p hp => (show PostP G F S (some (.tup ds)) η T Q from ⟨_, rfl, k⟩).tup rfl g r hp
theorem o_sub : OpR X (binaryOp .Sub) (r2 G subD) := opR_mk fun x y H Q ⟨S, η, T, F, dx, dy, g, rx, ry, d, e, k⟩ => by
  unfold subD at e
  split at e
  · cases rx; cases ry; cases e
    exact ⟨_, op_sub, _, _, rfl, rfl, k _ _ _ _ Ext.refl g .int⟩
  · cases e
theorem o_mul : OpR X (binaryOp .Mult) (r2 G mulD) := opR_mk fun x y H Q ⟨S, η, T, F, dx, dy, g, rx, ry, d, e, k⟩ => by
  unfold mulD at e
  split at e
  · cases rx; cases ry
    split at e
    · cases e
      exact ⟨_, op_mul, _, _, rfl, rfl, by assumption, k _ _ _ _ Ext.refl g .int⟩
    · cases e
  · cases rx with
    | @lst a vs _ ha ra =>
      cases ry
      split at e
      · rename_i hc
        cases e
        exact ⟨_, op_rep, _, _, _, rfl, rfl, g.sub _ _ ha, hc.1, hc.2.1, by rw [← ra.length]; exact hc.2.2, newL k g (ra.rep _)⟩
      · cases e
  · cases e
theorem o_mod : OpR X (binaryOp .Mod) (r2 G modD) := opR_mk fun x y H Q ⟨S, η, T, F, dx, dy, g, rx, ry, d, e, k⟩ => by
  unfold modD at e
  split at e
  · cases rx; cases ry
    split at e
    · cases e
      exact ⟨_, op_mod, _, _, rfl, rfl, by assumption, k _ _ _ _ Ext.refl g .int⟩
    · cases e
  · cases e
theorem o_fdiv : OpR X (binaryOp .FloorDiv) (r2 G fdivD) := opR_mk fun x y H Q ⟨S, η, T, F, dx, dy, g, rx, ry, d, e, k⟩ => by
  unfold fdivD at e
  split at e
  · cases rx; cases ry
    split at e
    · cases e
      exact ⟨_, op_fdiv, _, _, rfl, rfl, by assumption, k _ _ _ _ Ext.refl g .int⟩
    · cases e
  · cases e
theorem op_powW : OpR X (binaryOp .Pow) (rI (fun i j => 0 ≤ j ∧ j ≤ 1000 ∧ i.natAbs < 2 ^ 1000) fun i j => .int (i ^ j.toNat)) := opI fun i j _ _ _ _ _ hc q => by
  refine PyProof.Rows.pow_int hc.1 ?_ q
  have h1 : Builtin.Int.intBits i ≤ 1000 := intBits_le_iff.mpr hc.2.2
  have h2 : (Builtin.Int.intBits i : Int) * j ≤ 1000 * 1000 := Int.mul_le_mul (by omega) hc.2.1 hc.1 (by omega)
  exact Int.le_trans h2 (by decide)
theorem o_pow : OpR X (binaryOp .Pow) (r2 G powD) := opR_mk fun x y H Q ⟨S, η, T, F, dx, dy, g, rx, ry, d, e, k⟩ => by
  unfold powD at e
  split at e
  · cases rx; cases ry
    split at e
    · cases e
      exact ⟨_, op_powW, _, _, rfl, rfl, by assumption, k _ _ _ _ Ext.refl g .int⟩
    · cases e
  · cases e
theorem o_and : OpR X (binaryOp .BitAnd) (r2 G andI) := opR_mk fun x y H Q ⟨S, η, T, F, dx, dy, g, rx, ry, d, e, k⟩ => by
  unfold andI at e
  split at e
  · cases rx; cases ry; cases e
    exact ⟨_, op_and, _, _, rfl, rfl, k _ _ _ _ Ext.refl g .int⟩
  · cases e
def negD : P1 := fun _ x => match x with
  | .int i => some (.int (-i))
  | _ => none
theorem u_neg : UnR X (unaryOp .USub) (r1 G negD) := fun pins s σ H x v Q I rv ⟨S, η, T, F, dx, g, rx, d, e, k⟩ => by
  unfold negD at e
  split at e
  · cases rx; cases e
    exact un_neg pins s σ H _ v Q I rv ⟨_, rfl, k _ _ _ _ Ext.refl g .int⟩
  · cases e

/-! ## comparisons -/
mutual
def toPy : D → Option PyData
  | .non => some .none
  | .bl b => some (.bool b)
  | .int i => some (.int i)
  | .str s => some (.str s)
  | .tup xs => (toPys xs).map .tuple
  | .lst xs => (toPys xs).map .list
  | .scr xs => (toPys xs).map .list
  | .dct _ _ => none
  | .ref _ => none
  | .fn _ => none
def toPys : List D → Option (List PyData)
  | [] => some []
  | x :: xs => (toPy x).bind fun a => (toPys xs).map fun as => a :: as
end
mutual
theorem dp_of (hK : G.K = X.K) {H : Hp} {S : Sto} {η : List Addr} {T F : Hp} (g : GRel G H S η T F) : ∀ (d : D) {v : V} {p : PyData}, Rep G η T d v → toPy d = some p → Dp X.K H v p
  | .non, _, _, h, e => by cases h; cases e; exact .non
  | .bl _, _, _, h, e => by cases h; cases e; exact .bl _
  | .int _, _, _, h, e => by cases h; cases e; exact .int _
  | .str _, _, _, h, e => by cases h; cases e; exact .str _
  | .tup ds, _, _, h, e => by
    cases h with
    | tup h r =>
      cases q : toPys ds with
      | none => simp [toPy, q] at e
      | some ps =>
        simp only [toPy, q, Option.map_some, Option.some.injEq] at e
        subst e
        exact .tup (sqT_up hK g h) (dps_of hK g ds r q)
  | .lst ds, _, _, h, e => by
    cases h with
    | lst h r =>
      cases q : toPys ds with
      | none => simp [toPy, q] at e
      | some ps =>
        simp only [toPy, q, Option.map_some, Option.some.injEq] at e
        subst e
        exact .lst (SqL.of (g.sub _ _ h)) (dps_of hK g ds r q)
  | .scr ds, _, _, h, e => by
    cases h with
    | scr h r =>
      cases q : toPys ds with
      | none => simp [toPy, q] at e
      | some ps =>
        simp only [toPy, q, Option.map_some, Option.some.injEq] at e
        subst e
        exact .lst (sqL_up hK g h) (dps_of hK g ds r q)
  | .dct _ _, _, _, _, e => by simp [toPy] at e
  | .ref _, _, _, _, e => by simp [toPy] at e
  | .fn _, _, _, _, e => by simp [toPy] at e
theorem dps_of (hK : G.K = X.K) {H : Hp} {S : Sto} {η : List Addr} {T F : Hp} (g : GRel G H S η T F) : ∀ (ds : List D) {vs : List V} {ps : List PyData}, Reps G η T ds vs → toPys ds = some ps → DpAll X.K H vs ps
  | [], _, _, h, e => by cases h; cases e; exact .nil
  | d :: ds, _, _, h, e => by
    cases h with
    | cons h r =>
      cases q : toPy d with
      | none => simp [toPys, q] at e
      | some p =>
        cases q2 : toPys ds with
        | none => simp [toPys, q, q2] at e
        | some ps =>
          simp only [toPys, q, q2, Option.bind_some, Option.map_some, Option.some.injEq] at e
          subst e
          exact .cons (dp_of hK g d h q) (dps_of hK g ds r q2)
end
/-- == of data -/
def eqB : D → D → Option Bool
  | .str a, .str b => some (decide (a = b))
  | .int a, .int b => some (decide (a = b))
  | .bl a, .bl b => some (decide (a = b))
  | .non, .str _ => some false
  | .str _, .non => some false
  | .non, .int _ => some false
  | .int _, .non => some false
  | .int _, .str _ => some false
  | .str _, .int _ => some false
  | .non, .non => some true
  | x, y => match toPy x, toPy y with
    | some a, some b => if SeqAt.shaped a = true ∧ SeqAt.shaped b = true then some (PyData.eqv a b) else none
    | _, _ => none
def eqD : P2 := fun _ x y => (eqB x y).map .bl
def neD : P2 := fun _ x y => (eqB x y).map fun b => .bl (!b)
theorem eqB_reading (hK : G.K = X.K) (hu : X.A.units + 64 < cLine) {dx dy : D} {x y : V} {b : Bool} {H : Hp} {S : Sto} {η : List Addr} {T F : Hp} (g : GRel G H S η T F) (rx : Rep G η T dx x) (ry : Rep G η T dy y) (e : eqB dx dy = some b) :
    (∀ Q : VK, Q (.bl b) H → ∃ r', OpR X (compareOp .Eq) r' ∧ r' x y H Q) ∧ (∀ Q : VK, Q (.bl (!b)) H → ∃ r', OpR X (compareOp .NotEq) r' ∧ r' x y H Q) := by
  have sc : ∀ {b' : Bool}, scal x y = true → decide (x = y) = b' → (∀ Q : VK, Q (.bl b') H → ∃ r', OpR X (compareOp .Eq) r' ∧ r' x y H Q) ∧ (∀ Q : VK, Q (.bl (!b')) H → ∃ r', OpR X (compareOp .NotEq) r' ∧ r' x y H Q) := fun h1 h2 =>
    ⟨fun Q q => ⟨_, op_eq, h1, by rw [h2]; exact q⟩, fun Q q => ⟨_, op_ne, h1, by rw [h2]; exact q⟩⟩
  unfold eqB at e
  split at e
  iterate 10
    · cases rx; cases ry; cases e
      exact sc rfl (by simp)
  · split at e
    · rename_i a c qa qc
      split at e
      · rename_i hs
        cases e
        exact ⟨fun Q q => ⟨_, op_eqD hu, a, c, dp_of hK g _ rx qa, dp_of hK g _ ry qc, hs.1, hs.2, q⟩, fun Q q => ⟨_, op_neD hu, a, c, dp_of hK g _ rx qa, dp_of hK g _ ry qc, hs.1, hs.2, q⟩⟩
      · cases e
    · cases e
theorem o_eq (hK : G.K = X.K) (hu : X.A.units + 64 < cLine) : OpR X (compareOp .Eq) (r2 G eqD) := opR_mk fun x y H Q ⟨S, η, T, F, dx, dy, g, rx, ry, d, e, k⟩ => by
  unfold eqD at e
  cases q : eqB dx dy with
  | none => rw [q] at e; cases e
  | some b => rw [q] at e; cases e; exact (eqB_reading hK hu g rx ry q).1 Q (k _ _ _ _ Ext.refl g .bl)
theorem o_ne (hK : G.K = X.K) (hu : X.A.units + 64 < cLine) : OpR X (compareOp .NotEq) (r2 G neD) := opR_mk fun x y H Q ⟨S, η, T, F, dx, dy, g, rx, ry, d, e, k⟩ => by
  unfold neD at e
  cases q : eqB dx dy with
  | none => rw [q] at e; cases e
  | some b => rw [q] at e; cases e; exact (eqB_reading hK hu g rx ry q).2 Q (k _ _ _ _ Ext.refl g .bl)
def cmpI (p : Int → Int → Bool) : P2 := fun _ x y => match x, y with
  | .int i, .int j => some (.bl (p i j))
  | _, _ => none
theorem o_cmpI {op : CmpOp} {p : Int → Int → Bool} (h : OpR X (compareOp op) (rI0 fun i j => .bl (p i j))) : OpR X (compareOp op) (r2 G (cmpI p)) := opR_mk fun x y H Q ⟨S, η, T, F, dx, dy, g, rx, ry, d, e, k⟩ => by
  unfold cmpI at e
  split at e
  · cases rx; cases ry; cases e
    exact ⟨_, h, _, _, rfl, rfl, k _ _ _ _ Ext.refl g .bl⟩
  · cases e
def ltD : P2 := cmpI fun i j => decide (i < j)
def leD : P2 := cmpI fun i j => decide (i ≤ j)
def gtD : P2 := cmpI fun i j => decide (j < i)
def geD : P2 := cmpI fun i j => decide (j ≤ i)
theorem o_lt : OpR X (compareOp .Lt) (r2 G ltD) := o_cmpI op_lt
theorem o_le : OpR X (compareOp .LtE) (r2 G leD) := o_cmpI op_le
theorem o_gt : OpR X (compareOp .Gt) (r2 G gtD) := o_cmpI op_gt
theorem o_ge : OpR X (compareOp .GtE) (r2 G geD) := o_cmpI op_ge
def isND : P2 := fun _ x y => match y with
  | .non => some (.bl (match x with | .non => true | _ => false))
  | _ => none
def notND : P2 := fun _ x y => match y with
  | .non => some (.bl (match x with | .non => false | _ => true))
  | _ => none
theorem o_isN : OpR X (compareOp .Is) (r2 G isND) := opR_mk fun x y H Q ⟨S, η, T, F, dx, dy, g, rx, ry, d, e, k⟩ => by
  unfold isND at e
  split at e
  · cases ry; cases e
    exact ⟨_, op_isN, rfl, k _ _ _ _ Ext.refl g (by cases rx <;> exact .bl)⟩
  · cases e
theorem o_notN : OpR X (compareOp .IsNot) (r2 G notND) := opR_mk fun x y H Q ⟨S, η, T, F, dx, dy, g, rx, ry, d, e, k⟩ => by
  unfold notND at e
  split at e
  · cases ry; cases e
    exact ⟨_, op_notN, rfl, k _ _ _ _ Ext.refl g (by cases rx <;> exact .bl)⟩
  · cases e
end
end Tok
namespace Tok
open PySem L2

section
variable {X : Cx} {G : Gx} {W : WX} {a b c e : Expr} {ma mb mc m : Den} {pos : Pos} {σ : St} {H : Hp} {es : List Expr} {na : DenA}

/-! ## subscripts -/
theorem atI_rep {η : List Addr} {T : Hp} {ds : List D} {vs : List V} {i : Int} {d : D} (r : Reps G η T ds vs) (e : atI ds i = some d) : ∃ v, atI vs i = some v ∧ Rep G η T d v := by
  unfold atI at e ⊢
  rw [← r.length]
  cases q : ixN ds.length i with
  | none => rw [q] at e; cases e
  | some j =>
    rw [q] at e
    exact r.get e
def ixD : P2 := fun S x y => match x, y with
  | .tup xs, .int i => atI xs i
  | .lst xs, .int i => atI xs i
  | .scr xs, .int i => atI xs i
  | .str z, .int i => if z.length ≤ sizeLine then (atI z.cps.toList i).map fun c => .str ⟨#[c]⟩ else none
  | .ref l, .int i => match S[l]? with
    | some (.lst xs) => atI xs i
    | _ => none
  | _, _ => none
theorem i_ix (hK : G.K = X.K) : IxR X (r2 G ixD) := ixR_mk fun x y H Q ⟨S, η, T, F, dx, dy, g, rx, ry, d, e, k⟩ => by
  unfold ixD at e
  split at e
  · cases rx with
    | tup h r =>
      cases ry
      obtain ⟨v, hv, rv⟩ := atI_rep r e
      exact ⟨_, ix_tup, _, _, _, v, rfl, rfl, sqT_up hK g h, hv, k _ _ _ _ Ext.refl g rv⟩
  · cases rx with
    | lst h r =>
      cases ry
      obtain ⟨v, hv, rv⟩ := atI_rep r e
      exact ⟨_, ix_list, _, _, _, v, rfl, rfl, SqL.of (g.sub _ _ h), hv, k _ _ _ _ Ext.refl g rv⟩
  · cases rx with
    | scr h r =>
      cases ry
      obtain ⟨v, hv, rv⟩ := atI_rep r e
      exact ⟨_, ix_list, _, _, _, v, rfl, rfl, sqL_up hK g h, hv, k _ _ _ _ Ext.refl g rv⟩
  · rename_i z i
    cases rx; cases ry
    split at e
    · rename_i hz
      cases q : atI z.cps.toList i with
      | none => rw [q] at e; cases e
      | some c =>
        rw [q] at e; cases e
        exact ⟨_, ix_str, _, _, c, rfl, rfl, hz, q, k _ _ _ _ Ext.refl g .str⟩
    · cases e
  · cases rx with
    | @ref l p h =>
      cases ry
      split at e
      · rename_i xs hS
        obtain ⟨vs, hH, r⟩ := g.obj _ _ p hS h
        obtain ⟨v, hv, rv⟩ := atI_rep r e
        exact ⟨_, ix_list, _, _, _, v, rfl, rfl, SqL.of hH, hv, k _ _ _ _ Ext.refl g rv⟩
      · cases e
  · cases e
theorem d_ix (hK : G.K = X.K) (ha : PE X a (tE G W ma)) (hb : PE X b (tE G W mb)) (hs : PlainIx b := by exact fun _ _ => rfl) : PE X (.Subscript a b pos) (tE G W (dOp2 ixD ma mb)) := (pe_ix (i_ix hK) ha hb hs).imp fun _ _ _ => op2_reading
/-! slices -/
abbrev DenO := Env → Sto → R (Option Int)
abbrev RpO : List Addr → Hp → Option Int → Option Int → Prop := fun _ _ a b => a = b
def tO (G : Gx) (W : WX) (m : DenO) : TO := fun σ H Q => ∃ ρ S η T F, FRel G ρ σ η T ∧ GRel G H S η T F ∧ Post G F W σ RpO (m ρ S) η T Q
theorem _root_.L2.PO.imp {X : Cx} {e : Option Expr} {t t' : TO} (h : PO X e t) (k : ∀ σ H Q, t' σ H Q → t σ H Q) : PO X e t' := ⟨fun pins s σ H Q I q => h.run pins s σ H Q I (k σ H Q q)⟩
def oNone : DenO := fun _ S => .ok none S
def oSome (m : Den) : DenO := fun ρ S => (m ρ S).bind fun d S1 => match d with
  | .int i => .ok (some i) S1
  | _ => .bad
theorem o_none : PO X none (tO G W oNone) := po_none.imp fun σ H Q ⟨ρ, S, η, T, F, f, g, p⟩ => p.ok g rfl
theorem o_some (h : PE X e (tE G W m)) : PO X (some e) (tO G W (oSome m)) := (po_some h).imp fun σ H Q ⟨ρ, S, η, T, F, f, g, p⟩ => tE_step f g p fun d v S1 H1 η1 T1 _ e1 f1 g1 r1 p1 => by
  cases r1 with
  | int => exact ⟨_, rfl, p1.ok g1 rfl⟩
  | _ => exact p1.elim
theorem tO_step {α β : Type} {Rq : List Addr → Hp → α → β → Prop} {m : DenO} {k : Option Int → Sto → R α} {ρ : Env} {S : Sto} {η : List Addr} {T F : Hp} {Q : β → Hp → Prop} {Q' : Option Int → Hp → Prop} (f : FRel G ρ σ η T) (g : GRel G H S η T F)
    (h : Post G F W σ Rq ((m ρ S).bind k) η T Q)
    (n : ∀ d S1 H1 η1 T1, Ext η T η1 T1 → FRel G ρ σ η1 T1 → GRel G H1 S1 η1 T1 F → Post G F W σ Rq (k d S1) η1 T1 Q → Q' d H1) : tO G W m σ H Q' :=
  ⟨ρ, S, η, T, F, f, g, (Post.bind h).imp fun v H1 ⟨d, S1, η1, T1, e0, e, g1, r, p⟩ => by
    have r : d = v := r
    subst r
    exact n d S1 H1 η1 T1 e (f.mono e) g1 p⟩
def cutL {α : Type} (xs : List α) (lo hi : Option Int) : List α := (xs.drop (HT.sIx xs.length 0 lo)).take (HT.sIx xs.length xs.length hi - HT.sIx xs.length 0 lo)
def slD (x : D) (lo hi : Option Int) : Option D := match x with
  | .lst xs => some (.lst (cutL xs lo hi))
  | .tup xs => some (.tup (cutL xs lo hi))
  | .str z => if z.length ≤ sizeLine then some (.str (cutS z lo hi)) else none
  | _ => none
def dSl (mx : Den) (ml mh : DenO) : Den := fun ρ S => (mx ρ S).bind fun x S1 => (ml ρ S1).bind fun l S2 => (mh ρ S2).bind fun h S3 => R.ofO (slD x l h) S3
def rSl (G : Gx) : V → Option Int → Option Int → Hp → VK → Prop := fun x lo hi H Q => ∃ S η T F dx, GRel G H S η T F ∧ Rep G η T dx x ∧ PostP G F S (slD dx lo hi) η T Q
theorem cut_rep {η : List Addr} {T : Hp} {ds : List D} {vs : List V} (lo hi : Option Int) (r : Reps G η T ds vs) : Reps G η T (cutL ds lo hi) (cutV vs lo hi) := by
  unfold cutL cutV
  rw [r.length]
  exact (r.drop _).take _
theorem cut_whole {α : Type} {xs : List α} {lo hi : Option Int} (h1 : HT.sIx xs.length 0 lo = 0) (h2 : HT.sIx xs.length xs.length hi = xs.length) : cutL xs lo hi = xs := by
  unfold cutL
  rw [h1, h2]
  simp
theorem sl_rd (hK : G.K = X.K) : SlR X (rSl G) := slR_mk fun x lo hi H Q ⟨S, η, T, F, dx, g, rx, d, e, k⟩ => by
  unfold slD at e
  split at e
  · cases rx with
    | lst h r =>
      cases e
      exact ⟨_, sl_list, _, _, rfl, SqL.of (g.sub _ _ h), newL k g (cut_rep lo hi r)⟩
  · cases rx with
    | @tup a vs ds h r =>
      cases e
      refine ⟨_, sl_tupA, _, _, rfl, sqT_up hK g h, fun hw => ?_, fun _ => newT k g (cut_rep lo hi r)⟩
      rw [← r.length] at hw
      rw [cut_whole hw.1 hw.2] at k
      exact k _ _ _ _ Ext.refl g (.tup h r)
  · cases rx
    split at e
    · rename_i hz
      cases e
      exact ⟨_, sl_str, _, rfl, hz, k _ _ _ _ Ext.refl g .str⟩
    · cases e
  · cases e
theorem d_slice (hK : G.K = X.K) {lo hi : Option Expr} {ml mh : DenO} {p2 : Pos} (ha : PE X a (tE G W ma)) (hl : PO X lo (tO G W ml)) (hh : PO X hi (tO G W mh)) : PE X (.Subscript a (.Slice lo hi none p2) pos) (tE G W (dSl ma ml mh)) :=
  (pe_slice (sl_rd hK) ha hl hh).imp fun σ H Q ⟨ρ, S, η, T, F, f, g, p⟩ => tE_step f g p fun d v S1 H1 η1 T1 _ e1 f1 g1 r1 p1 => tO_step f1 g1 p1 fun l S2 H2 η2 T2 e2 f2 g2 p2 => tO_step f2 g2 p2 fun h S3 H3 η3 T3 e3 f3 g3 p3 =>
    ⟨S3, η3, T3, F, d, g3, r1.mono (e2.trans e3), postP_of p3⟩

/-! ## calls of built-ins -/
theorem d_callB {id : String} {f : PN} {x : Str} {p : Pos} (hc : CallR X (.builtin id) (rN G f)) (hg : Gl X x) (hm : X.mg x = none) (hv : bootBuiltins x = some (.builtin id)) (ha : PA X (e :: es) (tA G W na)) (hn : x ≠ "__name__" := by decide) (hdb : (x == ("__debug__" : Str)) = false := by decide)
    (he : starEach (e :: es) X.env = (false, eval e X.env) :: starEach es X.env := by rfl) (hpl : (backTo pos (starEach es X.env)).any (·.1) = false := by rfl) : PE X (.Call (.Name x p) (e :: es) [] pos) (tE G W (dOpN f na)) :=
  (pe_callB hc hg hm hv ha hn hdb he hpl).imp fun σ H Q ⟨ρ, S, η, T, F, fr, g, p⟩ => tA_step fr g p fun d v S1 H1 η1 T1 _ e1 f1 g1 r1 p1 => ⟨S1, η1, T1, F, d, g1, r1, postP_of p1⟩
theorem d_callTy {T' : String} {f : PN} {x : Str} {p : Pos} (hc : CallR X (.type T') (rN G f)) (hg : Gl X x) (hm : X.mg x = none) (hv : bootBuiltins x = some (.type T')) (ha : PA X (e :: es) (tA G W na)) (hn : x ≠ "__name__" := by decide) (hdb : (x == ("__debug__" : Str)) = false := by decide)
    (he : starEach (e :: es) X.env = (false, eval e X.env) :: starEach es X.env := by rfl) (hpl : (backTo pos (starEach es X.env)).any (·.1) = false := by rfl) : PE X (.Call (.Name x p) (e :: es) [] pos) (tE G W (dOpN f na)) :=
  (pe_callTy hc hg hm hv ha hn hdb he hpl).imp fun σ H Q ⟨ρ, S, η, T, F, fr, g, p⟩ => tA_step fr g p fun d v S1 H1 η1 T1 _ e1 f1 g1 r1 p1 => ⟨S1, η1, T1, F, d, g1, r1, postP_of p1⟩
def lenD : PN := fun S xs => match xs with
  | [.str z] => if z.length ≤ sizeLine then some (.int z.length) else none
  | [.tup ds] => some (.int ds.length)
  | [.lst ds] => some (.int ds.length)
  | [.scr ds] => some (.int ds.length)
  | [.ref l] => match S[l]? with
    | some (.lst ds) => some (.int ds.length)
    | _ => none
  | _ => none
theorem c_len (hK : G.K = X.K) : CallR X (.builtin "len") (rN G lenD) := callR_mk fun xs H Q ⟨S, η, T, F, ds, g, rx, d, e, k⟩ => by
  unfold lenD at e
  split at e
  · cases rx with | cons r rr => cases r; cases rr; exact (by
      split at e
      · rename_i hz
        cases e
        exact ⟨_, call_len, _, _, rfl, ⟨hz, rfl⟩, k _ _ _ _ Ext.refl g .int⟩
      · cases e)
  · cases rx with | cons r rr => cases rr; cases r with | tup h r =>
      cases e
      exact ⟨_, call_len, _, _, rfl, .inr ⟨_, sqT_up hK g h, r.length⟩, k _ _ _ _ Ext.refl g .int⟩
  · cases rx with | cons r rr => cases rr; cases r with | lst h r =>
      cases e
      exact ⟨_, call_len, _, _, rfl, .inl ⟨_, SqL.of (g.sub _ _ h), r.length⟩, k _ _ _ _ Ext.refl g .int⟩
  · cases rx with | cons r rr => cases rr; cases r with | scr h r =>
      cases e
      exact ⟨_, call_len, _, _, rfl, .inl ⟨_, sqL_up hK g h, r.length⟩, k _ _ _ _ Ext.refl g .int⟩
  · cases rx with | cons r rr => cases rr; cases r with | @ref l p h =>
      split at e
      · rename_i xs hS
        cases e
        obtain ⟨vs, hH, r⟩ := g.obj _ _ p hS h
        exact ⟨_, call_len, _, _, rfl, .inl ⟨_, SqL.of hH, r.length⟩, k _ _ _ _ Ext.refl g .int⟩
      · cases e
  · cases e
/-- tuple(x), list(x) of a list or a tuple -/
def tupleD : PN := fun S xs => match xs with
  | [.lst ds] => some (.tup ds)
  | [.tup ds] => some (.tup ds)
  | [.ref l] => match S[l]? with
    | some (.lst ds) => some (.tup ds)
    | _ => none
  | _ => none
def listD : PN := fun _ xs => match xs with
  | [.lst ds] => some (.lst ds)
  | [.tup ds] => some (.lst ds)
  | _ => none
theorem c_tuple (hK : G.K = X.K) : CallR X (.type "tuple") (rN G tupleD) := callR_mk fun xs H Q ⟨S, η, T, F, ds, g, rx, d, e, k⟩ => by
  unfold tupleD at e
  split at e
  · cases rx with | cons r rr => cases rr; cases r with | lst h r =>
      cases e
      exact ⟨_, call_tuple_of, _, _, rfl, .inl ⟨SqL.of (g.sub _ _ h), newT k g r⟩⟩
  · cases rx with | cons r rr => cases rr; cases r with | tup h r =>
      cases e
      exact ⟨_, call_tuple_of, _, _, rfl, .inr ⟨sqT_up hK g h, k _ _ _ _ Ext.refl g (.tup h r)⟩⟩
  · cases rx with | cons r rr => cases rr; cases r with | @ref l p h =>
      split at e
      · rename_i xs hS
        cases e
        obtain ⟨vs, hH, r⟩ := g.obj _ _ p hS h
        exact ⟨_, call_tuple_of, _, _, rfl, .inl ⟨SqL.of hH, newT k g r⟩⟩
      · cases e
  · cases e
theorem c_list (hK : G.K = X.K) : CallR X (.type "list") (rN G listD) := callR_mk fun xs H Q ⟨S, η, T, F, ds, g, rx, d, e, k⟩ => by
  unfold listD at e
  split at e
  · cases rx with | cons r rr => cases rr; cases r with | lst h r =>
      cases e
      exact ⟨_, call_list_of, _, _, rfl, .inl (SqL.of (g.sub _ _ h)), newL k g r⟩
  · cases rx with | cons r rr => cases rr; cases r with | tup h r =>
      cases e
      exact ⟨_, call_list_of, _, _, rfl, .inr (sqT_up hK g h), newL k g r⟩
  · cases e
def intD : PN := fun _ xs => match xs with
  | [.int i] => some (.int i)
  | [.bl b] => some (.int (if b then 1 else 0))
  | [.str a] => if a.length ≤ 640 then (intText? a).map .int else none
  | _ => none
theorem c_int : CallR X (.type "int") (rN G intD) := callR_mk fun xs H Q ⟨S, η, T, F, ds, g, rx, d, e, k⟩ => by
  unfold intD at e
  split at e
  · cases rx with | cons r rr => cases rr; cases r; cases e; exact ⟨_, call_int1, .inl ⟨_, rfl, k _ _ _ _ Ext.refl g .int⟩⟩
  · cases rx with | cons r rr => cases rr; cases r; cases e; exact ⟨_, call_int1, .inr ⟨_, rfl, k _ _ _ _ Ext.refl g .int⟩⟩
  · rename_i a
    cases rx with | cons r rr => cases rr; cases r; exact (by
      split at e
      · cases q : intText? a with
        | none => rw [q] at e; cases e
        | some n => rw [q] at e; cases e; exact ⟨_, call_int_str, a, n, rfl, q, by assumption, k _ _ _ _ Ext.refl g .int⟩
      · cases e)
  · cases e
def strD : PN := fun _ xs => match xs with
  | [.int i] => if i.natAbs < 2 ^ 1000 then some (.str (toString i)) else none
  | _ => none
theorem c_str : CallR X (.type "str") (rN G strD) := callR_mk fun xs H Q ⟨S, η, T, F, ds, g, rx, d, e, k⟩ => by
  unfold strD at e
  split at e
  · rename_i i
    cases rx with | cons r rr => cases rr; cases r; exact (by
      split at e
      · rename_i hi
        cases e
        refine ⟨_, call_str_int, _, rfl, ?_, k _ _ _ _ Ext.refl g .str⟩
        by_cases h0 : i.natAbs = 0
        · rw [h0]; decide
        · have := (Nat.log2_lt h0).mpr hi
          omega
      · cases e)
  · cases e
def absD : PN := fun _ xs => match xs with
  | [.int i] => some (.int (if i < 0 then -i else i))
  | _ => none
theorem c_abs : CallR X (.builtin "abs") (rN G absD) := callR_mk fun xs H Q ⟨S, η, T, F, ds, g, rx, d, e, k⟩ => by
  unfold absD at e
  split at e
  · cases rx with | cons r rr => cases rr; cases r; cases e; exact ⟨_, call_abs, _, rfl, k _ _ _ _ Ext.refl g .int⟩
  · cases e
def maxD : PN := fun _ xs => match xs with
  | [.int i, .int j] => some (.int (if j > i then j else i))
  | _ => none
def minD : PN := fun _ xs => match xs with
  | [.int i, .int j] => some (.int (if j < i then j else i))
  | _ => none
theorem c_max (hc : X.calm = true) : CallR X (.builtin "max") (rN G maxD) := callR_mk fun xs H Q ⟨S, η, T, F, ds, g, rx, d, e, k⟩ => by
  unfold maxD at e
  split at e
  · cases rx with | cons r rr => cases rr with | cons r2 rr => cases rr; cases r; cases r2; cases e; exact ⟨_, call_max2 hc, _, _, rfl, k _ _ _ _ Ext.refl g .int⟩
  · cases e
theorem c_min (hc : X.calm = true) : CallR X (.builtin "min") (rN G minD) := callR_mk fun xs H Q ⟨S, η, T, F, ds, g, rx, d, e, k⟩ => by
  unfold minD at e
  split at e
  · cases rx with | cons r rr => cases rr with | cons r2 rr => cases rr; cases r; cases r2; cases e; exact ⟨_, call_min2 hc, _, _, rfl, k _ _ _ _ Ext.refl g .int⟩
  · cases e
/-- all([..]), any([..]) of bools -/
def blsOf : List D → Option (List Bool)
  | [] => some []
  | .bl b :: r => (blsOf r).map (b :: ·)
  | _ :: _ => none
theorem bls_rep {η : List Addr} {T : Hp} : ∀ {ds : List D} {vs : List V} {bs : List Bool}, Reps G η T ds vs → blsOf ds = some bs → vs = bs.map V.bl
  | [], _, _, .nil, e => by cases e; rfl
  | .bl b :: r, _, _, .cons h t, e => by
    cases h
    unfold blsOf at e
    cases q : blsOf r with
    | none => rw [q] at e; cases e
    | some cs => rw [q] at e; cases e; rw [bls_rep t q]; rfl
def allD : PN := fun _ xs => match xs with
  | [.lst ds] => (blsOf ds).map fun bs => .bl (bs.all id)
  | _ => none
def anyD : PN := fun _ xs => match xs with
  | [.lst ds] => (blsOf ds).map fun bs => .bl (bs.any id)
  | _ => none
theorem c_all (hc : X.calm = true) : CallR X (.builtin "all") (rN G allD) := callR_mk fun xs H Q ⟨S, η, T, F, ds, g, rx, d, e, k⟩ => by
  unfold allD at e
  split at e
  · rename_i ds
    cases rx with | cons r rr => cases rr; cases r with | lst h r =>
      cases q : blsOf ds with
      | none => rw [q] at e; cases e
      | some bs => rw [q] at e; cases e; exact ⟨_, cr_all hc, _, bs, rfl, bls_rep r q ▸ SqL.of (g.sub _ _ h), k _ _ _ _ Ext.refl g .bl⟩
  · cases e
theorem c_any (hc : X.calm = true) : CallR X (.builtin "any") (rN G anyD) := callR_mk fun xs H Q ⟨S, η, T, F, ds, g, rx, d, e, k⟩ => by
  unfold anyD at e
  split at e
  · rename_i ds
    cases rx with | cons r rr => cases rr; cases r with | lst h r =>
      cases q : blsOf ds with
      | none => rw [q] at e; cases e
      | some bs => rw [q] at e; cases e; exact ⟨_, cr_any hc, _, bs, rfl, bls_rep r q ▸ SqL.of (g.sub _ _ h), k _ _ _ _ Ext.refl g .bl⟩
  · cases e
end
end Tok
namespace Tok
open PySem L2

section
variable {X : Cx} {G : Gx} {W : WX} {a b c e : Expr} {ma mb mc m : Den} {pos : Pos} {σ : St} {H : Hp} {es : List Expr} {na : DenA}

/-! ## in -/
def strsOf : List D → Option (List Str)
  | [] => some []
  | .str s :: r => (strsOf r).map (s :: ·)
  | _ :: _ => none
theorem strs_rep {η : List Addr} {T : Hp} : ∀ {ds : List D} {vs : List V} {bs : List Str}, Reps G η T ds vs → strsOf ds = some bs → vs = bs.map V.str
  | [], _, _, .nil, e => by cases e; rfl
  | .str b :: r, _, _, .cons h t, e => by
    cases h
    unfold strsOf at e
    cases q : strsOf r with
    | none => rw [q] at e; cases e
    | some cs => rw [q] at e; cases e; rw [strs_rep t q]; rfl
theorem flat_strV (ys : List Str) : (ys.map V.str).all flatV = true := by
  induction ys with
  | nil => rfl
  | cons y r ih => rw [List.map_cons, List.all_cons, ih]; rfl
theorem inV_strs (x : Str) : ∀ ys : List Str, inV (.str x) (ys.map V.str) = decide (x ∈ ys)
  | [] => rfl
  | y :: r => by
    have ih := inV_strs x r
    unfold inV at ih ⊢
    rw [List.map_cons, List.any_cons, ih]
    have : eqV (.str y) (.str x) = decide (x = y) := by
      show (y == x) = decide (x = y)
      by_cases h : x = y
      · subst h; simp
      · have h' : ¬ y = x := fun e => h e.symm
        rw [decide_eq_false h]
        exact beq_eq_false_iff_ne.mpr h'
    rw [this]
    by_cases h : x = y <;> simp [h]
def seqOf (S : Sto) : D → Option (List D)
  | .tup xs => some xs
  | .lst xs => some xs
  | .ref l => match S[l]? with
    | some (.lst xs) => some xs
    | _ => none
  | _ => none
theorem seq_rep (hK : G.K = X.K) {S : Sto} {η : List Addr} {T F : Hp} (g : GRel G H S η T F) {d : D} {v : V} {ds : List D} (r : Rep G η T d v) (e : seqOf S d = some ds) : ∃ a vs, v = .ref a ∧ (SqL X.K H a vs ∨ SqT X.K H a vs) ∧ Reps G η T ds vs := by
  unfold seqOf at e
  split at e
  · cases e; cases r with | @tup a vs _ h r => exact ⟨a, vs, rfl, .inr (sqT_up hK g h), r⟩
  · cases e; cases r with | @lst a vs _ h r => exact ⟨a, vs, rfl, .inl (SqL.of (g.sub _ _ h)), r⟩
  · cases r with
    | @ref l p h =>
      split at e
      · rename_i xs hS
        cases e
        obtain ⟨vs, hH, r⟩ := g.obj _ _ p hS h
        exact ⟨p, vs, rfl, .inl (SqL.of hH), r⟩
      · cases e
  · cases e
def inB (S : Sto) (x y : D) : Option Bool := match x, y with
  | .str s, .str z => match s.cps.toList with
    | [c] => some (decide (c ∈ z.cps.toList))
    | _ => none
  | .str s, y => (seqOf S y).bind fun ys => (strsOf ys).map fun zs => decide (s ∈ zs)
  | _, _ => none
def inD : P2 := fun S x y => (inB S x y).map .bl
def notInD : P2 := fun S x y => (inB S x y).map fun b => .bl (!b)
theorem inB_reading (hK : G.K = X.K) {dx dy : D} {x y : V} {b : Bool} {S : Sto} {η : List Addr} {T F : Hp} (g : GRel G H S η T F) (rx : Rep G η T dx x) (ry : Rep G η T dy y) (e : inB S dx dy = some b) :
    (∀ Q : VK, Q (.bl b) H → ∃ r', OpR X (compareOp .In) r' ∧ r' x y H Q) ∧ (∀ Q : VK, Q (.bl (!b)) H → ∃ r', OpR X (compareOp .NotIn) r' ∧ r' x y H Q) := by
  unfold inB at e
  split at e
  · rename_i s z
    cases rx; cases ry
    split at e
    · rename_i c hc
      have es : s = ⟨#[c]⟩ := Str.ext' (by rw [← Array.toList_inj, hc])
      cases e
      subst es
      exact ⟨fun Q q => ⟨_, op_in_sign, _, _, rfl, rfl, q⟩, fun Q q => ⟨_, op_notIn_sign, _, _, rfl, rfl, q⟩⟩
    · cases e
  · rename_i s _ _
    cases rx
    cases q1 : seqOf S dy with
    | none => rw [q1] at e; cases e
    | some ys =>
      cases q2 : strsOf ys with
      | none => rw [q1] at e; simp [q2] at e
      | some zs =>
        rw [q1] at e
        simp only [Option.bind_some, q2, Option.map_some, Option.some.injEq] at e
        subst e
        obtain ⟨a, vs, rfl, hs, r⟩ := seq_rep hK g ry q1
        have ev := strs_rep r q2
        subst ev
        refine ⟨fun Q q => ⟨_, op_in_seq, a, _, rfl, hs, rfl, flat_strV zs, ?_⟩, fun Q q => ⟨_, op_notIn_seq, a, _, rfl, hs, rfl, flat_strV zs, ?_⟩⟩
        · rw [if_neg (by decide), inV_strs]; exact q
        · rw [if_pos rfl, inV_strs]; exact q
  · cases e
theorem o_in (hK : G.K = X.K) : OpR X (compareOp .In) (r2 G inD) := opR_mk fun x y H Q ⟨S, η, T, F, dx, dy, g, rx, ry, d, e, k⟩ => by
  unfold inD at e
  cases q : inB S dx dy with
  | none => rw [q] at e; cases e
  | some b => rw [q] at e; cases e; exact (inB_reading hK g rx ry q).1 Q (k _ _ _ _ Ext.refl g .bl)
theorem o_notIn (hK : G.K = X.K) : OpR X (compareOp .NotIn) (r2 G notInD) := opR_mk fun x y H Q ⟨S, η, T, F, dx, dy, g, rx, ry, d, e, k⟩ => by
  unfold notInD at e
  cases q : inB S dx dy with
  | none => rw [q] at e; cases e
  | some b => rw [q] at e; cases e; exact (inB_reading hK g rx ry q).2 Q (k _ _ _ _ Ext.refl g .bl)
/-! a chain of two -/
def dChain (f f' : P2) (ma mb mc : Den) : Den := fun ρ S => (ma ρ S).bind fun x S1 => (mb ρ S1).bind fun y S2 => (R.ofO (f S2 x y) S2).bind fun z S3 => match z with
  | .bl true => (mc ρ S3).bind fun w S4 => R.ofO (f' S4 y w) S4
  | .bl false => .ok (.bl false) S3
  | _ => .bad
/-! ## isinstance -/
inductive Ty where
  | non | bl | int | str | lst | tup | own (c : Nat)
  deriving DecidableEq
def Ty.val (G : Gx) : Ty → Value
  | .non => .type "NoneType"
  | .bl => .type "bool"
  | .int => .type "int"
  | .str => .type "str"
  | .lst => .type "list"
  | .tup => .type "tuple"
  | .own c => .ref (G.CA c)
def tyD (S : Sto) : D → Option Ty
  | .non => some .non
  | .bl _ => some .bl
  | .int _ => some .int
  | .str _ => some .str
  | .lst _ => some .lst
  | .tup _ => some .tup
  | .ref l => match S[l]? with
    | some (.lst _) => some .lst
    | some (.ins c _) => some (.own c)
    | _ => none
  | _ => none
def isT : Ty → Ty → Bool
  | .bl, .int => true
  | a, b => decide (a = b)
/-- what isinstance must know of the own classes -/
structure IsOk (G : Gx) (K : PySem.W.Frag) (cs : List Nat) : Prop where
  obj : ∀ c ∈ cs, Cls K (G.CA c) ∧ PySem.W.findIn K (.ref (G.CA c)) "__class__" = some (some (.builtin "object.__class__")) ∧ PySem.W.mroIn K (G.CA c) (.type "object") = some true
  dsc : PySem.W.specialIn K (.builtin "object.__class__") "__get__" = some (some (.builtin "getset_descriptor.__get__")) ∧ PySem.W.takesIn K (.builtin "object.__class__") = some true
  own : ∀ t u : Ty, (∀ c, t = .own c → c ∈ cs) → (∀ c, u = .own c → c ∈ cs) → (∃ c, t = .own c ∨ u = .own c) → PySem.W.kitOne K (t.val G) (u.val G) = some (isT t u)
theorem kit_is {K : PySem.W.Frag} {cs : List Nat} (h : IsOk G K cs) (t u : Ty) (ht : ∀ c, t = .own c → c ∈ cs) (hu : ∀ c, u = .own c → c ∈ cs) (hn : u ≠ .non) : PySem.W.kitOne K (t.val G) (u.val G) = some (isT t u) := by
  cases t <;> cases u <;> first
    | exact absurd rfl hn
    | exact h.own _ _ ht hu ⟨_, .inl rfl⟩
    | exact h.own _ _ ht hu ⟨_, .inr rfl⟩
    | exact kit_ty (by decide +kernel)
theorem ty_of {K : PySem.W.Frag} {cs : List Nat} (hK : G.K = K) (h : IsOk G K cs) {S : Sto} {η : List Addr} {T F : Hp} (g : GRel G H S η T F) {d : D} {v : V} {t : Ty} (r : Rep G η T d v) (e : tyD S d = some t) (ht : ∀ c, t = .own c → c ∈ cs) : TyX K H v (t.val G) := by
  unfold tyD at e
  split at e
  · cases e; cases r; exact .base .non
  · cases e; cases r; exact .base (.bl _)
  · cases e; cases r; exact .base (.int _)
  · cases e; cases r; exact .base (.str _)
  · cases e; cases r with | lst h r => exact .base (.lst (g.sub _ _ h))
  · cases e
    cases r with
    | tup h r =>
      rcases h with h | h
      · rcases h with h | ⟨o, h⟩
        · exact .base (.tup (g.sub _ _ h))
        · exact .fTuple (g.sub _ _ h)
      · obtain ⟨o, its, n, hl, hc, _⟩ := h
        subst hK
        exact .kTuple hl hc
  · cases r with
    | @ref l p hp =>
      split at e
      · rename_i xs hS
        cases e
        obtain ⟨vs, hH, _⟩ := g.obj _ _ p hS hp
        exact .base (.lst hH)
      · rename_i c fs hS
        cases e
        obtain ⟨dx, fv, hH, _⟩ := g.obj _ _ p hS hp
        obtain ⟨h1, h2, h3⟩ := h.obj c (ht c rfl)
        exact .base (.ins hH h1 h2 h.dsc.1 h.dsc.2 h3)
      · cases e
  · cases e
def okTy (cs : List Nat) : Ty → Bool
  | .own c => cs.contains c
  | _ => true
theorem okTy_mem {cs : List Nat} {t : Ty} (h : okTy cs t = true) : ∀ c, t = .own c → c ∈ cs := fun c e => by
  subst e
  simpa [okTy] using h
def isiD (cs : List Nat) (u : Ty) (S : Sto) (d : D) : Option D := (tyD S d).bind fun t => if okTy cs t = true then some (.bl (isT t u)) else none
def isi2D (cs : List Nat) (us : List Ty) (S : Sto) (d : D) : Option D := (tyD S d).bind fun t => if okTy cs t = true then some (.bl (us.any (isT t))) else none
/-- isinstance(x, T): T's name is a built-in's, or a class of the text -/
theorem d_isi {cs : List Nat} {u : Ty} {n : Expr} {uv : V} {p : Pos} (hK : G.K = X.K) (h : IsOk G X.K cs) (hu : okTy cs u = true) (hn : u ≠ .non) (hg : Gl X "isinstance") (hm : X.mg "isinstance" = none) (ha : PE X a (tE G W ma)) (hc : PE X n (tC uv)) (hv : ClsV uv (u.val G))
    (s1 : starEach [a, n] X.env = (false, eval a X.env) :: starEach [n] X.env := by rfl) (s2 : starEach [n] X.env = (false, eval n X.env) :: starEach [] X.env := by rfl) (hpl : (backTo pos (starEach [n] X.env)).any (·.1) = false := by rfl) :
    PE X (.Call (.Name "isinstance" p) [a, n] [] pos) (tE G W (dOp1 (isiD cs u) ma)) :=
  (pe_callB call_isi hg hm (by decide +kernel) (pa_cons ha (pa_cons hc pa_nil s2) s1) (by decide) (by decide) s1 hpl).imp fun σ H Q ⟨ρ, S, η, T, F, fr, g, p⟩ => tE_step fr g p fun d v S1 H1 η1 T1 _ e1 f1 g1 r1 p1 => by
    obtain ⟨d', e, k⟩ := postP_of p1
    unfold isiD at e
    cases q : tyD S1 d with
    | none => rw [q] at e; cases e
    | some t =>
      rw [q] at e
      simp only [Option.bind_some] at e
      split at e
      · rename_i ht
        cases e
        exact ⟨_, _, _, _, _, rfl, hv, ty_of hK h g1 r1 q (okTy_mem ht), kit_is h t u (okTy_mem ht) (okTy_mem hu) hn, k _ _ _ _ Ext.refl g1 .bl⟩
      · cases e
theorem kitAny_is {K : PySem.W.Frag} {cs : List Nat} (h : IsOk G K cs) (t : Ty) (ht : ∀ c, t = .own c → c ∈ cs) : ∀ us : List Ty, (∀ u ∈ us, okTy cs u = true ∧ u ≠ .non) → PySem.W.kitAny K (t.val G) (us.map (Ty.val G)) = some (us.any (isT t))
  | [], _ => rfl
  | u :: r, hu => by
    obtain ⟨h1, h2⟩ := hu u List.mem_cons_self
    refine kitAny_cons (kit_is h t u ht (okTy_mem h1) h2) (fun e => ?_) fun e => ?_
    · rw [kitAny_is h t ht r fun v hv => hu v (List.mem_cons_of_mem _ hv), List.any_cons, e, Bool.false_or]
    · rw [List.any_cons, e, Bool.true_or]
/-- isinstance(x, (T1, T2)) of two built-ins -/
theorem d_isi2 {cs : List Nat} {n1 n2 : Expr} {u1 u2 : Ty} {v1 v2 : V} {p : Pos} {k : Nat} {tp : Pos} (hK : G.K = X.K) (h : IsOk G X.K cs) (hu : okTy cs u1 = true ∧ u1 ≠ .non ∧ okTy cs u2 = true ∧ u2 ≠ .non) (hg : Gl X "isinstance") (hm : X.mg "isinstance" = none) (ha : PE X a (tE G W ma))
    (hc : PE X (.Tuple [n1, n2] k tp) (tTup (tCons (tC v1) (tCons (tC v2) tNil)))) (hv : ClsV v1 (u1.val G) ∧ ClsV v2 (u2.val G))
    (s1 : starEach [a, .Tuple [n1, n2] k tp] X.env = (false, eval a X.env) :: starEach [.Tuple [n1, n2] k tp] X.env := by rfl) (s2 : starEach [.Tuple [n1, n2] k tp] X.env = (false, eval (.Tuple [n1, n2] k tp) X.env) :: starEach [] X.env := by rfl) (hpl : (backTo pos (starEach [.Tuple [n1, n2] k tp] X.env)).any (·.1) = false := by rfl) :
    PE X (.Call (.Name "isinstance" p) [a, .Tuple [n1, n2] k tp] [] pos) (tE G W (dOp1 (isi2D cs [u1, u2]) ma)) :=
  (pe_callB call_isiT hg hm (by decide +kernel) (pa_cons ha (pa_cons hc pa_nil s2) s1) (by decide) (by decide) s1 hpl).imp fun σ H Q ⟨ρ, S, η, T, F, fr, g, p⟩ => tE_step fr g p fun d v S1 H1 η1 T1 _ e1 f1 g1 r1 p1 => by
    obtain ⟨d', e, kk⟩ := postP_of p1
    unfold isi2D at e
    cases q : tyD S1 d with
    | none => rw [q] at e; cases e
    | some t =>
      rw [q] at e
      simp only [Option.bind_some] at e
      split at e
      · rename_i ht
        cases e
        refine ⟨(by show 2 ≤ sizeLine; decide), fun tp hp => ?_⟩
        have gb := g1.beside hp (.tup [v1, v2])
        refine ⟨v, tp, [v1, v2], _, [u1.val G, u2.val G], _, rfl, upd_same, .cons hv.1 (.cons hv.2 .nil), ty_of hK h gb r1 q (okTy_mem ht), ?_, kk _ _ _ _ Ext.refl gb .bl⟩
        exact kitAny_is h t (okTy_mem ht) [u1, u2] fun u hu' => by
          rcases List.mem_cons.mp hu' with e | hu'
          · rw [e]; exact ⟨hu.1, hu.2.1⟩
          · rcases List.mem_cons.mp hu' with e | hu'
            · rw [e]; exact ⟨hu.2.2.1, hu.2.2.2⟩
            · cases hu'
      · cases e
end
end Tok
namespace Tok
open PySem L2

/-! ## defs -/
abbrev DF := List D → Sto → R D
def spD (G : Gx) (n : Nat) (f : DF) : Sp := fun vs H Q E => vs.length = n ∧ ∃ ds S η T F, GRel G H S η T F ∧ Reps G η T ds vs ∧ Post G F (fun cls d _ H => E cls d H) [] (Rep G) (f ds S) η T Q
structure Fn (G : Gx) (P : Program) (w : World) (K : PySem.W.Frag) (mg : Str → Option Value) (base : Heap) (x : Str) (k : Nat) (ps : List Str) (f : DF) : Prop where
  ex : ∃ (fa : Addr) (fd : FuncData), FnOk P w K mg base (L2N.CX P w) k fa fd ps (spD G ps.length f) ∧ mg x = some (.ref fa) ∧ PySem.W.keepIn K (.ref fa) = true ∧ Binds K fd ps []
def startD (n : Nat) (ds : List D) : Env := ds.map some ++ List.replicate (n - ds.length) none
def dFn (n : Nat) (body : DenS) : DF := fun ds S => (body (startD n ds) S).bind fun f S1 => match f with
  | .rt d => .ok d S1
  | .nx _ => .ok .non S1
  | _ => .bad
/-- a wish of exceptions that does not look at the slots -/
def NoSl (W : WX) : Prop := ∀ cls d σ σ' H, W cls d σ H → W cls d σ' H
theorem noSl0 : NoSl W0 := fun _ _ _ _ _ h => h
theorem noSlE {E : XK} : NoSl (fun cls d _ H => E cls d H) := fun _ _ _ _ _ h => h
theorem start_rel {G : Gx} {N : List Str} {ds : List D} {vs : List V} {η : List Addr} {T : Hp} (r : Reps G η T ds vs) : FRel G (startD N.length ds) (L2.start N vs) η T := by
  have hl := r.length
  refine ⟨by unfold startD L2.start; simp [hl], fun i d h => ?_⟩
  unfold startD at h
  by_cases hi : i < ds.length
  · rw [List.getElem?_append_left (by simpa using hi), List.getElem?_map] at h
    cases q : ds[i]? with
    | none => rw [q] at h; cases h
    | some d' =>
      rw [q] at h
      simp at h
      subst h
      obtain ⟨v, hv, rv⟩ := r.get q
      refine ⟨v, ?_, rv⟩
      unfold L2.start
      rw [List.getElem?_append_left (by simp; omega), List.getElem?_map, hv]
      rfl
  · rw [List.getElem?_append_right (by simpa using hi), List.getElem?_replicate] at h
    split at h <;> simp at h
theorem fn_mk {G : Gx} {P : Program} {w : World} {K : PySem.W.Frag} {mg : Str → Option Value} {base : Heap} {x qual : Str} {st : Stmt} {fa : Addr} {fd : FuncData} {N ps : List Str} {k : Nat} {body : DenS} (Ff : Fun K x qual st fa fd) (Sc : FnScope N ps (defScope st))
    (hb : ∀ (cdv : Value) (A : Around) (outer : List PySem.Env) (s : Shared) (H : Hp) (E : XK), Room k (A.deeper (PyProof.Rows.envOfC qual (defScope st) s.heap.objs.size fa cdv)) →
      PSs (cxOf (L2N.CX P w) P w K mg base N qual (defScope st) fa cdv A outer s H E) (defBody st) (tS G (fun cls d _ H => E cls d H) body)) :
    FnOk P w K mg base (L2N.CX P w) (k + 1) fa fd ps (spD G ps.length (dFn N.length body)) := by
  obtain ⟨oc, od, kV, doc, pm, an, cdv, ct, osl, rfl, lk, hcd⟩ := Ff.ex
  refine fn_of lk hcd Sc (fun vs H Q E h => h.1) fun A outer s H vs Q E hr h => ?_
  obtain ⟨hl, ds, S, η, T, F, g, r, p⟩ := h
  refine ⟨_, hb cdv A outer s H E hr, startD N.length ds, S, η, T, F, start_rel r, g, ?_⟩
  unfold dFn at p
  cases e : body (startD N.length ds) S with
  | bad => rw [e] at p; exact p.elim
  | exn c fs S1 => rw [e] at p; exact fun cls dd σ' H' η' T' e' g' x' => p cls dd H' η' T' e' g' x'
  | ok fl S1 =>
    rw [e] at p
    cases fl with
    | nx ρ1 => exact fun σ' H' η' T' e' g' f' => p .non H' η' T' e' g' .non
    | rt d => exact fun v H' η' T' e' g' r' => p v H' η' T' e' g' r'
    | bk ρ1 => exact p.elim
    | ct ρ1 => exact p.elim
/-- a weaker denotation: f' is told where f is -/
theorem fn_imp {G : Gx} {P : Program} {w : World} {K : PySem.W.Frag} {mg : Str → Option Value} {base : Heap} {k n : Nat} {fa : Addr} {fd : FuncData} {ps : List Str} {f f' : DF} (h : FnOk P w K mg base (L2N.CX P w) k fa fd ps (spD G n f))
    (e : ∀ ds S, f' ds S = .bad ∨ f' ds S = f ds S) : FnOk P w K mg base (L2N.CX P w) k fa fd ps (spD G n f') := h.imp fun vs H Q E ⟨hl, ds, S, η, T, F, g, r, p⟩ => by
  refine ⟨hl, ds, S, η, T, F, g, r, ?_⟩
  rcases e ds S with q | q
  · rw [q] at p; exact p.elim
  · rw [q] at p; exact p

section
variable {X : Cx} {G : Gx} {W : WX} {a b c e : Expr} {ma mb mc m : Den} {pos : Pos} {σ : St} {H : Hp} {es : List Expr} {na : DenA} {k : Nat} {ps : List Str} {f : DF} {x : Str}
def dCall (f : DF) (na : DenA) : Den := fun ρ S => (na ρ S).bind f
theorem post_W {α β : Type} {F : Hp} {Rp : List Addr → Hp → α → β → Prop} {r : R α} {η : List Addr} {T : Hp} {Q : β → Hp → Prop} {W' : WX} {σ' : St} (h : Post G F W σ Rp r η T Q) (k : ∀ cls d H, W cls d σ H → W' cls d σ' H) : Post G F W' σ' Rp r η T Q := by
  cases r with
  | ok d S => exact h
  | exn c fs S => exact fun cls dd H' η' T' e g x => k _ _ _ (h cls dd H' η' T' e g x)
  | bad => exact h
theorem d_call {p : Pos} (hf : Fn G X.prog X.w X.K X.mg X.base x k ps f) (hr : Room k X.A) (tk : L2N.Takes X W) (hg : Gl X x) (hn : ps.length = (e :: es).length) (ha : PA X (e :: es) (tA G W na)) (hl : ∀ ρ S ds S1, na ρ S = .ok ds S1 → ds.length = (e :: es).length)
    (hdb : (x == ("__debug__" : Str)) = false := by decide) (he : starEach (e :: es) X.env = (false, eval e X.env) :: starEach es X.env := by rfl) (hpl : (backTo pos (starEach es X.env)).any (·.1) = false := by rfl) : PE X (.Call (.Name x p) (e :: es) [] pos) (tE G W (dCall f na)) := by
  obtain ⟨fa, fd, F1, hm, hk, hb⟩ := hf.ex
  exact (pe_callS F1 hr hg hm hk hb (fun σ => L2N.passAt tk σ) ha hdb he hpl).imp fun σ H Q ⟨ρ, S, η, T, F, fr, g, p⟩ => tA_step fr g p fun d v S1 H1 η1 T1 e0 e1 f1 g1 r1 p1 =>
    ⟨by rw [← r1.length, hl _ _ _ _ e0, hn], d, S1, η1, T1, F, g1, r1, post_W p1 fun _ _ _ h => h⟩
theorem d_call0 {p : Pos} (hf : Fn G X.prog X.w X.K X.mg X.base x k [] f) (hr : Room k X.A) (tk : L2N.Takes X W) (hW : NoSl W) (hg : Gl X x) (hdb : (x == ("__debug__" : Str)) = false := by decide) : PE X (.Call (.Name x p) [] [] pos) (tE G W (dCall f aNil)) := by
  obtain ⟨fa, fd, F1, hm, hk, hb⟩ := hf.ex
  exact (pe_call0 (E := fun cls d H => W cls d [] H) F1 hr hg hm hk hb .nil (L2N.passes_call tk fun _ _ σ _ h => hW _ _ _ _ _ h) hdb).imp fun σ H Q ⟨ρ, S, η, T, F, fr, g, p⟩ =>
    ⟨rfl, [], S, η, T, F, g, .nil, post_W p fun _ _ _ h => hW _ _ _ _ _ h⟩
/-! lengths of argument lists -/
def ALen (na : DenA) (n : Nat) : Prop := ∀ ρ S ds S1, na ρ S = .ok ds S1 → ds.length = n
theorem al_nil : ALen aNil 0 := fun ρ S ds S1 h => by cases h; rfl
theorem al_cons {n : Nat} (h : ALen na n) : ALen (aCons ma na) (n + 1) := fun ρ S ds S1 e => by
  unfold aCons at e
  cases q : ma ρ S with
  | bad => rw [q] at e; cases e
  | exn c fs S => rw [q] at e; cases e
  | ok d S2 =>
    rw [q] at e
    simp only [R.bind_ok] at e
    cases q2 : na ρ S2 with
    | bad => rw [q2] at e; cases e
    | exn c fs S => rw [q2] at e; cases e
    | ok xs S3 =>
      rw [q2] at e
      cases e
      rw [List.length_cons, h _ _ _ _ q2]

/-! ## objects -/
def putD (f : Str) (v : D) : List (Str × D) → List (Str × D)
  | [] => [(f, v)]
  | (g, x) :: r => if g = f then (g, v) :: r else (g, x) :: putD f v r
theorem putF_rep {η : List Addr} {T : Hp} {fl : Str} {d : D} {v : V} (r : Rep G η T d v) : ∀ {fs : List (Str × D)} {fv : List (Str × V)}, RepF G η T fs fv → RepF G η T (putD fl d fs) (putF fl v fv)
  | [], [], _ => ⟨rfl, Reps.one r⟩
  | [], _ :: _, h => by have := h.1; simp at this
  | _ :: _, [], h => by have := h.1; simp at this
  | (g, y) :: fs, (g', y') :: fv, h => by
    obtain ⟨h1, h2⟩ := h
    simp at h1
    obtain ⟨rfl, h1⟩ := h1
    cases h2 with
    | cons ry rr =>
      unfold putD putF
      by_cases e : g' = fl
      · rw [if_pos e, if_pos e]
        exact ⟨by simp [h1], .cons r rr⟩
      · rw [if_neg e, if_neg e]
        obtain ⟨i1, i2⟩ := putF_rep r (fs := fs) (fv := fv) ⟨by simpa using h1, rr⟩
        exact ⟨by simp [i1], .cons ry i2⟩
theorem look_rep {η : List Addr} {T : Hp} {fl : Str} {d : D} : ∀ {fs : List (Str × D)} {fv : List (Str × V)}, RepF G η T fs fv → fs.lookup fl = some d → ∃ v, fv.lookup fl = some v ∧ Rep G η T d v
  | [], _, _, e => by cases e
  | _ :: _, [], h, _ => by have := h.1; simp at this
  | (g, y) :: fs, (g', y') :: fv, h, e => by
    obtain ⟨h1, h2⟩ := h
    simp at h1
    obtain ⟨rfl, h1⟩ := h1
    cases h2 with
    | cons ry rr =>
      rw [List.lookup_cons] at e ⊢
      split at e
      · cases e
        rename_i q
        exact ⟨y', rfl, ry⟩
      · rename_i q
        exact look_rep (fs := fs) (fv := fv) ⟨by simpa using h1, rr⟩ e
theorem look_none {η : List Addr} {T : Hp} {fl : Str} : ∀ {fs : List (Str × D)} {fv : List (Str × V)}, RepF G η T fs fv → fs.lookup fl = none → fv.lookup fl = none
  | [], [], _, _ => rfl
  | [], _ :: _, h, _ => by have := h.1; simp at this
  | _ :: _, [], h, _ => by have := h.1; simp at this
  | (g, y) :: fs, (g', y') :: fv, h, e => by
    obtain ⟨h1, h2⟩ := h
    simp at h1
    obtain ⟨rfl, h1⟩ := h1
    cases h2 with
    | cons ry rr =>
      rw [List.lookup_cons] at e ⊢
      split at e
      · cases e
      · exact look_none (fs := fs) (fv := fv) ⟨by simpa using h1, rr⟩ e
def insOf (S : Sto) (c : Nat) : D → Option (Nat × List (Str × D))
  | .ref l => match S[l]? with
    | some (.ins c' fs) => if c' = c then some (l, fs) else none
    | _ => none
  | _ => none
theorem ins_rep {S : Sto} {η : List Addr} {T F : Hp} {c : Nat} {d : D} {v : V} {l : Nat} {fs : List (Str × D)} (g : GRel G H S η T F) (r : Rep G η T d v) (e : insOf S c d = some (l, fs)) : ∃ p dx fv, d = .ref l ∧ v = .ref p ∧ η[l]? = some p ∧ S[l]? = some (.ins c fs) ∧ H p = some (.ins (G.CA c) dx fv) ∧ RepF G η T fs fv := by
  unfold insOf at e
  split at e
  · cases r with
    | @ref l' p hp =>
      split at e
      · rename_i c' fs' hS
        split at e
        · rename_i hc
          cases e
          subst hc
          obtain ⟨dx, fv, hH, rf⟩ := g.obj _ _ p hS hp
          exact ⟨p, dx, fv, rfl, rfl, hp, hS, hH, rf⟩
        · cases e
      · cases e
  · cases e
/-- o.f -/
def fldD (c : Nat) (fl : Str) : P1 := fun S d => (insOf S c d).bind fun q => q.2.lookup fl
theorem d_fld {c : Nat} {fl : Str} (hc : Cls X.K (G.CA c)) (hn : NoAttr X.K (G.CA c) fl) (h : PE X e (tFld X.K (tE G W m) fl)) : PE X e (tE G W (dOp1 (fldD c fl) m)) := h.imp fun σ H Q ⟨ρ, S, η, T, F, fr, g, p⟩ => tE_step fr g p fun d v S1 H1 η1 T1 _ e1 f1 g1 r1 p1 => by
  obtain ⟨d', q, k⟩ := postP_of p1
  unfold fldD at q
  cases qi : insOf S1 c d with
  | none => rw [qi] at q; cases q
  | some lf =>
    obtain ⟨l, fs⟩ := lf
    rw [qi] at q
    obtain ⟨p, dx, fv, rfl, rfl, hp, hS, hH, rf⟩ := ins_rep g1 r1 qi
    obtain ⟨v, hv, rv⟩ := look_rep rf q
    exact ⟨p, _, dx, fv, v, rfl, hH, hc, hn, hv, k _ _ _ _ Ext.refl g1 rv⟩
/-- o.f = e: e first -/
def sSetF (c : Nat) (fl : Str) (mv mo : Den) : DenS := fun ρ S => (mv ρ S).bind fun v S1 => (mo ρ S1).bind fun o S2 => match insOf S2 c o with
  | some (l, fs) => if fs.length < 1000 then .ok (.nx ρ) (S2.set l (.ins c (putD fl v fs))) else .bad
  | none => .bad
theorem s_setF {c : Nat} {fl : Str} {st : Stmt} {mv mo : Den} (hc : Cls X.K (G.CA c)) (hn : NoAttr X.K (G.CA c) fl) (h : PS X st (sFld X.K (tE G W mo) (tE G W mv) fl)) : PS X st (tS G W (sSetF c fl mv mo)) :=
  h.imp fun E σ H ⟨ρ, S, η, T, F, fr, g, p⟩ => sE_step fr g p fun d v S1 H1 η1 T1 _ e1 f1 g1 r1 p1 => sE_step f1 g1 p1 fun o vo S2 H2 η2 T2 _ e2 f2 g2 r2 p2 => by
    cases qi : insOf S2 c o with
    | none => rw [qi] at p2; exact p2.elim
    | some lf =>
      obtain ⟨l, fs⟩ := lf
      rw [qi] at p2
      dsimp only at p2
      split at p2
      · rename_i hz
        obtain ⟨q, dx, fv, rfl, rfl, hq, hS, hH, rf⟩ := ins_rep g2 r2 qi
        have hl : fs.length = fv.length := by have := congrArg List.length rf.1; simpa using this.symm
        refine ⟨q, _, dx, fv, rfl, hH, hc, hn, by rw [← hl]; exact hz, ?_⟩
        exact p2 σ _ η2 T2 Ext.refl (g2.write hS trivial hq ⟨dx, _, upd_same, putF_rep (r1.mono e2) rf⟩) f2
      · exact p2.elim
/-- C(..) -/
def dMake (c : Nat) (f : DF) (na : DenA) : Den := fun ρ S => (na ρ S).bind fun ds S1 => (f (.ref S1.length :: ds) (S1 ++ [.ins c []])).bind fun d S2 => match d with
  | .non => .ok (.ref S1.length) S2
  | _ => .bad
theorem d_make {c n : Nat} (hW : NoSl W) (hn : ALen na n) (h : PE X e (tMake (G.CA c) (spD G (n + 1) f) [] (fun cls d H => W cls d [] H) (tA G W na))) : PE X e (tE G W (dMake c f na)) := h.imp fun σ H Q ⟨ρ, S, η, T, F, fr, g, p⟩ => tA_step fr g p fun ds vs S1 H1 η1 T1 e0 e1 f1 g1 r1 p1 => fun x dx hx hdx hne => by
  have g2 := g1.beside hdx (.own x)
  have hx2 : (upd H1 dx (.own x)) x = none := by rw [upd_ne (Ne.symm hne)]; exact hx
  have g3 := g2.newLoc (so := .ins c []) hx2 (o := .ins (G.CA c) dx []) ⟨dx, [], upd_same, rfl, .nil⟩
  have hl : (η1 ++ [x])[S1.length]? = some x := by rw [← g1.len]; simp
  refine ⟨by rw [List.length_cons, List.append_nil, ← r1.length, hn _ _ _ _ e0], .ref S1.length :: ds, _, _, T1, F, g3, .cons (.ref hl) (by rw [List.append_nil]; exact r1.mono ext_loc), ?_⟩
  have p2 := post_W (W' := fun cls d _ H => W cls d [] H) (σ' := []) (Post.bind (Rp := Rep G) (p1.mono (ext_loc (p := x)))) fun _ _ _ h => hW _ _ _ _ _ h
  refine p2.imp ?_
  rintro v H2 ⟨d, S2, η2, T2, _, e2, g2', rd, p3⟩
  cases rd with
  | non => exact ⟨rfl, p3.ok g2' (.ref (pre_get e2.pre hl))⟩
  | _ => exact p3.elim
/-- o.m(..), o.m() -/
def dMeth (c : Nat) (mn : Str) (f : DF) (mo : Den) (na : DenA) : Den := fun ρ S => (mo ρ S).bind fun o S1 => match insOf S1 c o with
  | some (_, fs) => if fs.lookup mn = none then (na ρ S1).bind fun ds S2 => f (o :: ds) S2 else .bad
  | none => .bad
theorem d_meth {c n : Nat} {mn : Str} {mo : Den} (hW : NoSl W) (hn : ALen na n) (h : PE X e (tMeth (G.CA c) mn (spD G (n + 1) f) [] (fun cls d H => W cls d [] H) (tE G W mo) (tA G W na))) : PE X e (tE G W (dMeth c mn f mo na)) := h.imp fun σ H Q ⟨ρ, S, η, T, F, fr, g, p⟩ => tE_step fr g p fun d v S1 H1 η1 T1 _ e1 f1 g1 r1 p1 => by
  cases qi : insOf S1 c d with
  | none => rw [qi] at p1; exact p1.elim
  | some lf =>
    obtain ⟨l, fs⟩ := lf
    rw [qi] at p1
    dsimp only at p1
    split at p1
    · rename_i hz
      obtain ⟨q, dx, fv, rfl, rfl, hq, hS, hH, rf⟩ := ins_rep g1 r1 qi
      refine ⟨q, dx, fv, rfl, hH, look_none rf hz, tA_step f1 g1 p1 fun ds vs S2 H2 η2 T2 e0 e2 f2 g2 r2 p2 => ?_⟩
      exact ⟨by rw [List.length_cons, List.append_nil, ← r2.length, hn _ _ _ _ e0], .ref l :: ds, S2, η2, T2, F, g2, .cons (r1.mono e2) (by rw [List.append_nil]; exact r2), post_W p2 fun _ _ _ h => hW _ _ _ _ _ h⟩
    · exact p1.elim
/-- l[i] = e, l.append(e): a list of the store -/
def sSetIx (mv mo mi : Den) : DenS := fun ρ S => (mv ρ S).bind fun v S1 => (mo ρ S1).bind fun o S2 => (mi ρ S2).bind fun i S3 => match o, i with
  | .ref l, .int i => match S3[l]? with
    | some (.lst xs) => match ixN xs.length i with
      | some j => .ok (.nx ρ) (S3.set l (.lst (xs.set j v)))
      | none => .bad
    | _ => .bad
  | _, _ => .bad
theorem s_setIx {st : Stmt} {mv mo mi : Den} (h : PS X st (tAsg (tE G W mv) (gSub (tE G W mo) (tE G W mi) rSetL))) : PS X st (tS G W (sSetIx mv mo mi)) :=
  h.imp fun E σ H ⟨ρ, S, η, T, F, fr, g, p⟩ => sE_step fr g p fun d v S1 H1 η1 T1 _ e1 f1 g1 r1 p1 => sE_step f1 g1 p1 fun o vo S2 H2 η2 T2 _ e2 f2 g2 r2 p2 => sE_step f2 g2 p2 fun i vi S3 H3 η3 T3 _ e3 f3 g3 r3 p3 => by
    split at p3
    · cases r3
      cases (r2.mono e3) with
      | @ref l q hq =>
        split at p3
        · rename_i xs hS
          split at p3
          · rename_i j hj
            obtain ⟨vs, hH, rr⟩ := g3.obj _ _ q hS hq
            refine ⟨q, vs, _, j, rfl, rfl, hH, by rw [← rr.length]; exact hj, ?_⟩
            exact p3 σ _ η3 T3 Ext.refl (g3.write hS trivial hq ⟨_, upd_same, rr.set ((r1.mono e2).mono e3) j⟩) f3
          · exact p3.elim
        · exact p3.elim
    · exact p3.elim
def lstOf (S : Sto) : D → Option (Nat × List D)
  | .ref l => match S[l]? with
    | some (.lst xs) => some (l, xs)
    | _ => none
  | _ => none
def dAppend (mo me : Den) : Den := fun ρ S => (mo ρ S).bind fun o S1 => match lstOf S1 o with
  | some _ => (me ρ S1).bind fun d S2 => match lstOf S2 o with
    | some (l, xs) => if xs.length < sizeLine then .ok .non (S2.set l (.lst (xs ++ [d]))) else .bad
    | none => .bad
  | none => .bad
theorem lst_rep {S : Sto} {η : List Addr} {T F : Hp} {d : D} {v : V} {l : Nat} {xs : List D} (g : GRel G H S η T F) (r : Rep G η T d v) (e : lstOf S d = some (l, xs)) : ∃ p vs, d = .ref l ∧ v = .ref p ∧ η[l]? = some p ∧ S[l]? = some (.lst xs) ∧ H p = some (.lst vs) ∧ Reps G η T xs vs := by
  unfold lstOf at e
  split at e
  · cases r with
    | @ref l' p hp =>
      split at e
      · rename_i xs' hS
        cases e
        obtain ⟨vs, hH, rf⟩ := g.obj _ _ p hS hp
        exact ⟨p, vs, rfl, rfl, hp, hS, hH, rf⟩
      · cases e
  · cases e
theorem d_append {mo me : Den} (h : PE X e (tBM X.K "list" rAppend (tE G W mo) (tCons (tE G W me) tNil))) : PE X e (tE G W (dAppend mo me)) := h.imp fun σ H Q ⟨ρ, S, η, T, F, fr, g, p⟩ => tE_step fr g p fun d v S1 H1 η1 T1 _ e1 f1 g1 r1 p1 => by
  cases qi : lstOf S1 d with
  | none => rw [qi] at p1; exact p1.elim
  | some lx =>
    rw [qi] at p1
    dsimp only at p1
    obtain ⟨p, vs, rfl, rfl, hp, hS, hH, rr⟩ := lst_rep g1 r1 (l := lx.1) (xs := lx.2) qi
    refine ⟨.inl ⟨rfl, _, SqL.of hH⟩, tE_step f1 g1 p1 fun d2 v2 S2 H2 η2 T2 _ e2 f2 g2 r2 p2 => ?_⟩
    cases qi2 : lstOf S2 (.ref lx.1) with
    | none => rw [qi2] at p2; exact p2.elim
    | some lx2 =>
      obtain ⟨l2, xs2⟩ := lx2
      rw [qi2] at p2
      dsimp only at p2
      split at p2
      · rename_i hz
        obtain ⟨p', vs2, e', ev, hp2, hS2, hH2, rr2⟩ := lst_rep g2 (r1.mono e2) qi2
        cases ev
        exact ⟨_, vs2, v2, rfl, rfl, hH2, by rw [← rr2.length]; exact hz, p2 .non _ η2 T2 Ext.refl (g2.write hS2 trivial hp2 ⟨_, upd_same, rr2.append (Reps.one r2)⟩) .non⟩
      · exact p2.elim
/-- raise C('..'), C without an __init__ of its own -/
def sRaise (c : Nat) : DenS := fun _ S => .exn c [] S
theorem s_raise {c : Nat} {st : Stmt} (h : PS X st (fun _ σ H => (fun (_ : St) (H : Hp) (Q : XK) => Q (.ref (G.CA c)) none H) σ H fun cls d H' => W cls d σ H')) : PS X st (tS G W (sRaise c)) :=
  h.imp fun E σ H ⟨ρ, S, η, T, F, fr, g, p⟩ => p _ _ σ H η T Ext.refl g ⟨rfl, rfl⟩
end
end Tok
namespace Tok
open PySem L2

/-! ## first, *others = a list -/
section
variable {X : Cx} {G : Gx} {pins : List (Addr × Obj)} {σ : St} {H : Hp} {s : Shared}
/-- the items of a list behind the first one, in a new list -/
theorem unpack_star1 {E : Value → Shared → Prop} {a : Addr} {x : V} {xs : List V} {Q : List Value → Shared → Prop} (hc : X.calm = true) (I : Inv X pins σ H s) (h : SqL X.K H a (x :: xs))
    (hQ : ∀ u p s', H p = none → RelV x u → Inv X pins σ (upd H p (.lst xs)) s' → Q [u, .ref p] s') : wpAny (model X.prog X.w) X.A (unpackItems (.ref a) 2 (some 1)) Q E s := by
  obtain ⟨its, rv, pl, hz⟩ := I.list h
  cases rv with
  | @cons _ u _ us ru rus =>
  have hL := pl.isList
  have hsz : (u :: us).toArray.size = us.length + 1 := by simp
  have hlen : xs.length = us.length := rus.length
  have hne : a ≠ s.heap.objs.size := by obtain ⟨o, ho, _⟩ := hL; exact Nat.ne_of_lt (Heap.lt_size ho)
  unfold unpackItems notIterableAtAll
  refine wpAny_bind ?_
  refine wpAny_bind (wpAny_specialOf hL.typeIs PySem.F.slot_list_iter.lookup ?_)
  refine wpAny_pure ?_
  rw [if_neg Bool.false_ne_true]
  refine wpAny_bind (wpAny_holding (wpAny_pyIter_list hL ?_))
  refine wpAny_bind (wpAny_holding (PySem.W.kun_draw hne 1 0 _ _ ⟨_, Heap.get?_push_size _ rfl, rfl, rfl⟩ (hL.push _) (by rw [hsz]; omega) fun h1 it1 sb1 => ?_))
  have hL1 : h1.IsList a (u :: us).toArray := (hL.push _).extBut sb1.extBut hne
  obtain ⟨oi, hoi, _⟩ := id it1
  obtain ⟨ol, hol, _⟩ := id hL1
  have e1 : (((u :: us).toArray.toList.drop 0).take 1) = [u] := by simp
  rw [e1]
  show wpAny _ _ (if ([u] : List Value).length < 1 then _ else _) _ _ _
  rw [if_neg (by simp)]
  refine wpAny_bind (wpAny_holding (PySem.W.kun_collect (s := { s with heap := h1 }) (T := "list_iterator") (k := 1) (.inr (.inr (.inl rfl))) (Walks.list (A := X.A.in1) (show X.A.in1.handled = none from I.ok.hd hc) s.heap.objs.size a hne (u :: us).toArray) (fun _ _ st => st.1.typeIs) (by rw [hsz]; omega) ⟨it1, hL1⟩ (Heap.lt_size hoi) (Heap.lt_size hol) (fun h2 tk hk => ?_)
    (by rw [hsz]; have := hz; simp at this; omega)))
  have e2 : (u :: us).toArray.toList.drop 1 = us := by simp
  rw [e2]
  show wpAny _ _ (if us.length < 2 - 1 - 1 then _ else _) _ _ _
  rw [if_neg (by simp)]
  have kept : ∀ b o, s.heap.get? b = some o → h2.get? b = some o := fun b o e => hk b o (Nat.ne_of_lt (Heap.lt_size e)) (sb1.extBut b o (Nat.ne_of_lt (Heap.lt_size e)) (Heap.get?_push_of_some _ e))
  have I2 : Inv X pins σ H { s with heap := h2, toks := tk } := I.kept kept
  have e3 : us.take (us.length - (2 - 1 - 1)) = us := by simp
  have e4 : us.drop (us.length - (2 - 1 - 1)) = [] := by simp
  show wpAny _ _ (newList (us.take (us.length - (2 - 1 - 1))) >>= fun d => pure ([u] ++ [d] ++ us.drop (us.length - (2 - 1 - 1)))) _ _ _
  rw [e3, e4]
  have hz' : us.length ≤ sizeLine := by have := hz; simp at this; omega
  refine wpAny_bind (wpAny_newObj_type ?_ hz')
  refine wpAny_pure ?_
  exact hQ u h2.objs.size _ (I2.hok.fresh (Nat.le_refl _)) ru (I2.lnew (t' := tk) rus (by omega))
end
section
variable {X : Cx} {G : Gx} {W : WX} {a b c e : Expr} {ma mb mc m : Den} {pos : Pos} {σ : St} {H : Hp} {es : List Expr} {na : DenA} {vl : List Nat}
def tgStar (t u : Tgt) : Tgt := fun d ρ => match d with
  | .lst (x :: xs) => (t x ρ).bind fun ρ1 => u (.lst xs) ρ1
  | _ => none
theorem g_star {e1 e2 : Expr} {sp : Pos} {k : Nat} {t u : Tgt} (hc : X.calm = true) (h1 : PG X e1 (tG G vl t)) (h2 : PG X e2 (tG G vl u))
    (ha : assignEach [e1, .Starred e2 sp] X.env = [(false, assign e1 X.env), (true, assign e2 X.env)] := by rfl) : PG X (.Tuple [e1, .Starred e2 sp] k pos) (tG G vl (tgStar t u)) := by
  refine ⟨fun pins s σ H v uv Q I r hw => ?_⟩
  obtain ⟨ρ, S, η, T, F, d, ρ', f, g, rd, e, kk⟩ := hw
  unfold tgStar at e
  split at e
  · rename_i x xs
    cases rd with
    | @lst p vs _ hT rr =>
      cases rr with
      | @cons _ y _ ys ry rys =>
        cases r
        cases q : t x ρ with
        | none => rw [q] at e; cases e
        | some ρ1 =>
          rw [q] at e
          rw [PyProof.Rows.assign_Tuple]
          refine wpAny_bind (wpAny_standAt ?_)
          unfold unpack
          rw [ha]
          refine wpAny_bind (wpAny_holding (unpack_star1 hc I (SqL.of (g.sub _ _ hT)) fun w p' s' hp rw' I' => ?_))
          have ex : Ext η T η (upd T p' (.lst ys)) := ext_fresh (g.tnone hp)
          have g' := g.fresh hp (.lst ys)
          show wpAny _ _ (assignInOrder [assign e1 X.env, assign e2 X.env] [w, .ref p']) _ _ _
          refine PyProof.Rows.assignInOrder_cons (thn (h1.run pins s' σ _ y w (fun σ1 H1 => ∃ η1 T1, Ext η (upd T p' (.lst ys)) η1 T1 ∧ GRel G H1 S η1 T1 F ∧ FRel G ρ1 σ1 η1 T1 ∧ wipe σ1 vl = wipe σ vl) I' rw' ⟨ρ, S, η, _, F, x, ρ1, f.mono ex, g', ry.mono ex, q, fun σ1 H1 η1 T1 e1 g1 f1 w1 => ⟨η1, T1, e1, g1, f1, w1⟩⟩) fun _ s1 ⟨σ1, H1, I1, η1, T1, e1, g1, f1, w1⟩ => ?_)
          refine PyProof.Rows.assignInOrder_cons (thn (h2.run pins s1 σ1 H1 (.ref p') (.ref p') Q I1 rfl ⟨ρ1, S, η1, T1, F, .lst xs, ρ', f1, g1, (rep_lst upd_same (rys.mono ex)).mono e1, e, fun σ2 H2 η2 T2 e2 g2 f2 w2 => kk σ2 H2 η2 T2 ((ex.trans e1).trans e2) g2 f2 (w2.trans w1)⟩) fun _ s2 q2 => PyProof.Rows.assignInOrder_nil q2)
  · cases e

/-! ## a, b = x, y: stored from the right -/
def sPar (i j : Nat) (na : DenA) : DenS := fun ρ S => (na ρ S).bind fun ds S1 => match ds with
  | [d, e] => .ok (.nx ((ρ.set i (some d)).set j (some e))) S1
  | _ => .bad
theorem s_par {st : Stmt} {i j : Nat} (h : PS X st (tPar i j (tA G W na))) : PS X st (tS G W (sPar i j na)) := h.imp fun E σ H ⟨ρ, S, η, T, F, f, g, p⟩ => by
  refine ⟨ρ, S, η, T, F, f, g, (PostS.bind (Rp := Reps G) p).imp fun vs H1 ⟨ds, S1, η1, T1, e0, e1, g1, r1, p1⟩ => ?_⟩
  split at p1
  · cases r1 with | cons r r' => cases r' with | cons r2 r' => cases r'; exact ⟨_, _, rfl, p1 _ H1 η1 T1 Ext.refl g1 (((f.mono e1).set i r).set j r2)⟩
  · exact p1.elim
def sPar3 (i j l : Nat) (na : DenA) : DenS := fun ρ S => (na ρ S).bind fun ds S1 => match ds with
  | [d, e, f] => .ok (.nx (((ρ.set i (some d)).set j (some e)).set l (some f))) S1
  | _ => .bad
theorem s_par3 {st : Stmt} {i j l : Nat} (h : PS X st (tPar3 i j l (tA G W na))) : PS X st (tS G W (sPar3 i j l na)) := h.imp fun E σ H ⟨ρ, S, η, T, F, f, g, p⟩ => by
  refine ⟨ρ, S, η, T, F, f, g, (PostS.bind (Rp := Reps G) p).imp fun vs H1 ⟨ds, S1, η1, T1, e0, e1, g1, r1, p1⟩ => ?_⟩
  split at p1
  · cases r1 with | cons r r' => cases r' with | cons r2 r' => cases r' with | cons r3 r' => cases r'; exact ⟨_, _, _, rfl, p1 _ H1 η1 T1 Ext.refl g1 ((((f.mono e1).set i r).set j r2).set l r3)⟩
  · exact p1.elim

/-! ## chains, names of the module -/
theorem d_chain {f f' : P2} (h : PE X e (tChain (r2 G f) (r2 G f') (tE G W ma) (tE G W mb) (tE G W mc))) : PE X e (tE G W (dChain f f' ma mb mc)) :=
  h.imp fun σ H Q ⟨ρ, S, η, T, F, fr, g, p⟩ => tE_step fr g p fun d v S1 H1 η1 T1 _ e1 f1 g1 r1 p1 => tE_step f1 g1 p1 fun d2 v2 S2 H2 η2 T2 _ e2 f2 g2 r2 p2 => by
    refine ⟨S2, η2, T2, F, d, d2, g2, r1.mono e2, r2, ?_⟩
    cases q : f S2 d d2 with
    | none => rw [q] at p2; exact p2.elim
    | some z =>
      rw [q] at p2
      refine ⟨z, rfl, fun v H' η' T' e' g' rz => ?_⟩
      have p3 := p2.mono e'
      cases rz with
      | @bl b =>
        refine ⟨b, rfl, ?_⟩
        cases b with
        | true =>
          rw [if_pos rfl]
          exact tE_step (f2.mono e') g' p3 fun d4 v4 S4 H4 η4 T4 _ e4 f4 g4 r4 p4 => ⟨S4, η4, T4, F, d2, d4, g4, (r2.mono e').mono e4, r4, postP_of p4⟩
        | false =>
          rw [if_neg (by decide)]
          exact p3.ok g' .bl
      | _ => exact p3.elim
def GlobC (G : Gx) (mg : Str → Option Value) (x : Str) (d : D) : Prop := ∃ u v, mg x = some u ∧ RelV v u ∧ ∀ η T, Rep G η T d v
theorem d_glob {x : Str} {d : D} (h : GlobC G X.mg x d) (hg : Gl X x) (hd : (x == ("__debug__" : Str)) = false := by decide) : PE X (.Name x pos) (tE G W (dC d)) := by
  obtain ⟨u, v, hm, r, rp⟩ := h
  exact d_of (pe_glob hg hm r hd) rp
theorem globC_str {mg : Str → Option Value} {x s : Str} {t : Tok} (h : mg x = some (.str s t)) : GlobC G mg x (.str s) := ⟨_, .str s, h, ⟨t, rfl⟩, fun _ _ => .str⟩
theorem globC_int {mg : Str → Option Value} {x : Str} {i : Int} {t : Tok} (h : mg x = some (.int i t)) : GlobC G mg x (.int i) := ⟨_, .int i, h, ⟨t, rfl⟩, fun _ _ => .int⟩
/-- a tuple of the module's top -/
theorem rep_topT {K : PySem.W.Frag} (hK : G.K = K) {a : Addr} {dd : Option Addr} {us : List Value} {n : Nat} {sl : Array (Option Value)} {ds : List D} {vs : List V} (h : K.lookup a = some ⟨.type "tuple", dd, .seq us.toArray n, sl⟩) (hz : us.length ≤ sizeLine) (hv : Vals vs us) (hr : ∀ η T, Reps G η T ds vs) (η : List Addr) (T : Hp) : Rep G η T (.tup ds) (.ref a) := by
  subst hK
  exact .tup (.inr ⟨_, us.toArray, n, h, rfl, rfl, by simpa using hz, by simpa using hv⟩) (hr η T)
theorem globC_tup {K : PySem.W.Frag} {mg : Str → Option Value} (hK : G.K = K) {x : Str} {a : Addr} {dd : Option Addr} {us : List Value} {n : Nat} {sl : Array (Option Value)} {ds : List D} {vs : List V} (hm : mg x = some (.ref a)) (h : K.lookup a = some ⟨.type "tuple", dd, .seq us.toArray n, sl⟩) (hz : us.length ≤ sizeLine) (hv : Vals vs us) (hr : ∀ η T, Reps G η T ds vs) : GlobC G mg x (.tup ds) :=
  ⟨_, .ref a, hm, rfl, rep_topT hK h hz hv hr⟩

/-! ## enumerate, zip -/
theorem fresh_pair {S : Sto} {η : List Addr} {T F : Hp} {p : Addr} {x y : V} {dx dy : D} (g : GRel G H S η T F) (hp : H p = none) (rx : Rep G η T dx x) (ry : Rep G η T dy y) : ∃ η2 T2, Ext η T η2 T2 ∧ GRel G (upd H p (.tup [x, y])) S η2 T2 F ∧ Rep G η2 T2 (.tup [dx, dy]) (.ref p) := by
  have ex : Ext η T η (upd T p (.tup [x, y])) := ext_fresh (g.tnone hp)
  exact ⟨η, _, ex, g.fresh hp _, rep_tup upd_same (.cons (rx.mono ex) (.cons (ry.mono ex) .nil))⟩
def enumD (k : Nat) : List D → List D
  | [] => []
  | d :: ds => .tup [.int (k : Int), d] :: enumD (k + 1) ds
theorem enumD_len (ds : List D) : ∀ k, (enumD k ds).length = ds.length := by
  induction ds with
  | nil => intro k; rfl
  | cons d r ih => intro k; unfold enumD; rw [List.length_cons, List.length_cons, ih]
theorem enumD_get : ∀ (ds : List D) (k i : Nat) (d : D), (enumD k ds)[i]? = some d → ∃ x, ds[i]? = some x ∧ d = .tup [.int ((k + i : Nat) : Int), x]
  | [], _, _, _, h => by simp [enumD] at h
  | x :: r, k, 0, d, h => by
    simp [enumD] at h
    exact ⟨x, rfl, by rw [← h]; rfl⟩
  | x :: r, k, i + 1, d, h => by
    simp only [enumD, List.getElem?_cons_succ] at h
    obtain ⟨y, h1, h2⟩ := enumD_get r (k + 1) i d h
    exact ⟨y, by simpa using h1, by rw [h2]; congr 3; omega⟩
def iEnumD (m : DenA) : DenI := fun ρ S => (m ρ S).bind fun ds S1 => match ds with
  | [.lst xs] => .ok (enumD 0 xs) S1
  | _ => .bad
theorem i_enum {tg x : Expr} (hK : G.K = X.K) (h : PI X tg x (iEnum X.K (tA G W na))) : PI X tg x (tI G W (iEnumD na)) := h.imp fun σ H Q ⟨ρ, S, η, T, F, f, g, p⟩ => tA_step f g p fun d v S1 H1 η1 T1 _ e1 f1 g1 r1 p1 => by
  split at p1
  · rename_i xs
    cases r1 with
    | cons r rr =>
      cases rr
      cases r with
      | @lst a vs _ hT r =>
        refine ⟨a, vs, rfl, SqL.of (g1.sub _ _ hT), p1 _ H1 η1 T1 Ext.refl g1 ?_⟩
        intro η2 T2 H2 S2 F2 i e2 g2 _
        have key : SqL X.K H2 a vs := SqL.of (g2.sub _ _ (e2.sub _ _ hT))
        refine ⟨fun hl => ⟨vs, key, by rw [← r.length]; simpa [enumD_len] using hl⟩, fun d hd => ?_⟩
        obtain ⟨x, hx, rfl⟩ := enumD_get _ _ _ _ hd
        obtain ⟨v, hv, rv⟩ := r.get hx
        refine ⟨⟨vs, v, key, hv⟩, fun y H3 hy => ?_⟩
        obtain ⟨p, z, rfl, hp, rfl, hz⟩ := hy
        have := hz vs key
        rw [hv] at this; cases this
        simpa using fresh_pair g2 hp (dx := .int ((i : Nat) : Int)) .int (rv.mono e2)
  · exact p1.elim
def zipD : List D → List D → List D
  | x :: xs, y :: ys => .tup [x, y] :: zipD xs ys
  | _, _ => []
theorem zipD_get : ∀ (xs ys : List D) (i : Nat) (d : D), (zipD xs ys)[i]? = some d → ∃ x y, xs[i]? = some x ∧ ys[i]? = some y ∧ d = .tup [x, y]
  | [], _, _, _, h => by simp [zipD] at h
  | _ :: _, [], _, _, h => by simp [zipD] at h
  | x :: xs, y :: ys, 0, d, h => by
    simp [zipD] at h
    exact ⟨x, y, rfl, rfl, h.symm⟩
  | x :: xs, y :: ys, i + 1, d, h => by
    simp only [zipD, List.getElem?_cons_succ] at h
    obtain ⟨a, b, h1, h2, h3⟩ := zipD_get xs ys i d h
    exact ⟨a, b, by simpa using h1, by simpa using h2, h3⟩
theorem zipD_len : ∀ (xs ys : List D) (i : Nat), (zipD xs ys).length ≤ i → xs.length ≤ i ∨ ys.length ≤ i
  | [], _, _, _ => .inl (Nat.zero_le _)
  | _ :: _, [], _, _ => .inr (Nat.zero_le _)
  | x :: xs, y :: ys, 0, h => by simp [zipD] at h
  | x :: xs, y :: ys, i + 1, h => by
    simp only [zipD, List.length_cons] at h
    rcases zipD_len xs ys i (by omega) with h | h
    · exact .inl (by simp; omega)
    · exact .inr (by simp; omega)
def iZipD (m : DenA) : DenI := fun ρ S => (m ρ S).bind fun ds S1 => match ds with
  | [.lst xs, .lst ys] => .ok (zipD xs ys) S1
  | [.tup xs, .tup ys] => .ok (zipD xs ys) S1
  | _ => .bad
theorem i_zip {tg x : Expr} (hK : G.K = X.K) (h : PI X tg x (RZ.iZipA X.K (tA G W na))) : PI X tg x (tI G W (iZipD na)) := h.imp fun σ H Q ⟨ρ, S, η, T, F, f, g, p⟩ => tA_step f g p fun d v S1 H1 η1 T1 _ e1 f1 g1 r1 p1 => by
  split at p1
  · cases r1 with
    | cons r rr =>
      cases rr with
      | cons r' rr =>
      cases rr
      cases r with
      | @lst a vs _ hT r =>
      cases r' with
      | @lst b us _ hU r' =>
        refine ⟨a, b, vs, us, rfl, .inl ⟨SqL.of (g1.sub _ _ hT), SqL.of (g1.sub _ _ hU), p1 _ H1 η1 T1 Ext.refl g1 ?_⟩⟩
        intro η2 T2 H2 S2 F2 i e2 g2 _
        have k1 : SqL X.K H2 a vs := SqL.of (g2.sub _ _ (e2.sub _ _ hT))
        have k2 : SqL X.K H2 b us := SqL.of (g2.sub _ _ (e2.sub _ _ hU))
        refine ⟨fun hl => ⟨vs, us, k1, k2, by rw [← r.length, ← r'.length]; exact zipD_len _ _ _ hl⟩, fun d hd => ?_⟩
        obtain ⟨x, y, hx, hy, rfl⟩ := zipD_get _ _ _ _ hd
        obtain ⟨v, hv, rv⟩ := r.get hx
        obtain ⟨u, hu, ru⟩ := r'.get hy
        refine ⟨⟨vs, us, v, u, k1, k2, hv, hu⟩, fun z H3 hz => ?_⟩
        obtain ⟨p, v', u', rfl, hp, rfl, q1, q2⟩ := hz
        have q1 := q1 vs k1
        have q2 := q2 us k2
        rw [hv] at q1; cases q1
        rw [hu] at q2; cases q2
        exact fresh_pair g2 hp (rv.mono e2) (ru.mono e2)
  · cases r1 with
    | cons r rr =>
      cases rr with
      | cons r' rr =>
      cases rr
      cases r with
      | @tup a vs _ hT r =>
      cases r' with
      | @tup b us _ hU r' =>
        refine ⟨a, b, vs, us, rfl, .inr ⟨sqT_up hK g1 hT, sqT_up hK g1 hU, p1 _ H1 η1 T1 Ext.refl g1 ?_⟩⟩
        intro η2 T2 H2 S2 F2 i e2 g2 _
        have k1 : SqT X.K H2 a vs := sqT_up hK g2 (sqT_mono e2.sub hT)
        have k2 : SqT X.K H2 b us := sqT_up hK g2 (sqT_mono e2.sub hU)
        refine ⟨fun hl => ⟨vs, us, k1, k2, by rw [← r.length, ← r'.length]; exact zipD_len _ _ _ hl⟩, fun d hd => ?_⟩
        obtain ⟨x, y, hx, hy, rfl⟩ := zipD_get _ _ _ _ hd
        obtain ⟨v, hv, rv⟩ := r.get hx
        obtain ⟨u, hu, ru⟩ := r'.get hy
        refine ⟨⟨vs, us, v, u, k1, k2, hv, hu⟩, fun z H3 hz => ?_⟩
        obtain ⟨p, v', u', rfl, hp, rfl, q1, q2⟩ := hz
        have q1 := q1 vs k1
        have q2 := q2 us k2
        rw [hv] at q1; cases q1
        rw [hu] at q2; cases q2
        exact fresh_pair g2 hp (rv.mono e2) (ru.mono e2)
  · exact p1.elim
end
end Tok
namespace Tok
open PySem L2

/-! ## methods of texts -/
abbrev PM := Str → List D → Option D
def rMs (G : Gx) (f : PM) : V → List V → Hp → VK → Prop := fun x xs H Q => ∃ S η T F z ds, GRel G H S η T F ∧ x = .str z ∧ Reps G η T ds xs ∧ PostP G F S (f z ds) η T Q
section
variable {X : Cx} {G : Gx} {W : WX} {a b c e : Expr} {ma mb mc m : Den} {pos : Pos} {σ : St} {H : Hp} {es : List Expr} {na : DenA}
def dStrM (f : PM) (mo : Den) (na : DenA) : Den := fun ρ S => (mo ρ S).bind fun o S1 => match o with
  | .str z => (na ρ S1).bind fun ds S2 => R.ofO (f z ds) S2
  | _ => .bad
theorem d_strM {f : PM} {mo : Den} (h : PE X e (tBM X.K "str" (rMs G f) (tE G W mo) (tA G W na))) : PE X e (tE G W (dStrM f mo na)) := h.imp fun σ H Q ⟨ρ, S, η, T, F, fr, g, p⟩ => tE_step fr g p fun d v S1 H1 η1 T1 _ e1 f1 g1 r1 p1 => by
  cases r1 with
  | str => exact ⟨rfl, tA_step f1 g1 p1 fun ds vs S2 H2 η2 T2 _ e2 f2 g2 r2 p2 => ⟨S2, η2, T2, F, _, ds, g2, rfl, r2, postP_of p2⟩⟩
  | _ => exact p1.elim
theorem reps_strs {η : List Addr} {T : Hp} : ∀ ys : List Str, Reps G η T (ys.map D.str) (ys.map V.str)
  | [] => .nil
  | _ :: r => .cons .str (reps_strs r)
def splitD : PM := fun z ds => match ds with
  | [.str b] => if (b.length == 0) = false ∧ z.length + 2 ≤ sizeLine then some (.lst ((Txt.split z b).map .str)) else none
  | _ => none
theorem m_split : MtR X "str.split" (rMs G splitD) := mtR_mk fun x xs H Q ⟨S, η, T, F, z, ds, g, ex, rx, d, e, k⟩ => by
  subst ex
  unfold splitD at e
  split at e
  · cases rx with | cons r rr => cases rr; cases r; exact (by
      split at e
      · rename_i hz
        cases e
        exact ⟨_, mt_split, _, _, rfl, rfl, hz.1, hz.2, newL k g (reps_strs _)⟩
      · cases e)
  · cases e
def joinL (a : Str) (xs : List D) : Option D := (strsOf xs).bind fun ys => if (ys.map (·.length)).sum + ys.length * a.length ≤ 16777216 then some (.str (Txt.join a ys)) else none
def joinD : PM := fun a ds => match ds with
  | [.lst xs] => joinL a xs
  | [.tup xs] => joinL a xs
  | _ => none
theorem joinL_some {a : Str} {xs : List D} {d : D} (e : joinL a xs = some d) : ∃ ys, strsOf xs = some ys ∧ (ys.map (·.length)).sum + ys.length * a.length ≤ 16777216 ∧ d = .str (Txt.join a ys) := by
  unfold joinL at e
  cases q : strsOf xs with
  | none => rw [q] at e; cases e
  | some ys =>
    rw [q] at e
    simp only [Option.bind_some] at e
    split at e
    · rename_i hz; cases e; exact ⟨ys, rfl, hz, rfl⟩
    · cases e
theorem m_join (hK : G.K = X.K) : MtR X "str.join" (rMs G joinD) := mtR_mk fun x xs H Q ⟨S, η, T, F, z, ds, g, ex, rx, d, e, k⟩ => by
  subst ex
  unfold joinD at e
  split at e
  · cases rx with | cons r rr => cases rr; cases r with | lst h r =>
      obtain ⟨ys, q, hz, rfl⟩ := joinL_some e
      have ev := strs_rep r q
      subst ev
      exact ⟨_, mt_join, _, _, ys, rfl, rfl, .inl (SqL.of (g.sub _ _ h)), hz, k _ _ _ _ Ext.refl g .str⟩
  · cases rx with | cons r rr => cases rr; cases r with | tup h r =>
      obtain ⟨ys, q, hz, rfl⟩ := joinL_some e
      have ev := strs_rep r q
      subst ev
      exact ⟨_, mt_join, _, _, ys, rfl, rfl, .inr (sqT_up hK g h), hz, k _ _ _ _ Ext.refl g .str⟩
  · cases e

/-! ## f'{x} {y}' -/
def fmtD : P1 := fun _ d => match d with
  | .str y => if y.length ≤ sizeLine then some (.str y) else none
  | _ => none
theorem d_fmt (h : PE X e (tE G W m)) : PE X (.FormattedValue e (-1) none pos) (tE G W (dOp1 fmtD m)) := (pe_fmt h).imp fun σ H Q ⟨ρ, S, η, T, F, fr, g, p⟩ => tE_step fr g p fun d v S1 H1 η1 T1 _ e1 f1 g1 r1 p1 => by
  obtain ⟨d', q, k⟩ := postP_of p1
  unfold fmtD at q
  split at q
  · cases r1
    split at q
    · rename_i hz
      cases q
      exact .inl ⟨_, rfl, hz, k _ _ _ _ Ext.refl g1 .str⟩
    · cases q
  · cases q
def dJs : List Den → Str → Den
  | [], acc => fun _ S => .ok (.str acc) S
  | m :: ms, acc => fun ρ S => (m ρ S).bind fun d S1 => match d with
    | .str y => if (acc ++ y).length ≤ sizeLine then dJs ms (acc ++ y) ρ S1 else .bad
    | _ => .bad
theorem js_reading : ∀ (ms : List Den) (acc : Str) (σ : St) (H : Hp) (Q : VK), tE G W (dJs ms acc) σ H Q → tJs (ms.map (tE G W)) acc σ H (fun out H1 => Q (.str out) H1)
  | [], acc, σ, H, Q, ⟨ρ, S, η, T, F, fr, g, p⟩ => p.ok g .str
  | m :: ms, acc, σ, H, Q, ⟨ρ, S, η, T, F, fr, g, p⟩ => by
    refine tE_step fr g p fun d v S1 H1 η1 T1 _ e1 f1 g1 r1 p1 => ?_
    split at p1
    · rename_i y _
      cases r1
      split at p1
      · rename_i hz
        exact ⟨y, rfl, hz, js_reading ms _ σ H1 Q ⟨ρ, S1, η1, T1, F, f1, g1, p1⟩⟩
      · exact p1.elim
    · exact p1.elim
theorem d_joined {v1 v2 : Expr} {rest : List Expr} {ms : List Den} (h : PJ X (v1 :: v2 :: rest) (ms.map (tE G W))) : PE X (.JoinedStr (v1 :: v2 :: rest) pos) (tE G W (dJs ms Str.empty)) := (pe_joined h).imp fun σ H Q => js_reading ms Str.empty σ H Q

/-! ## x[i].replace('a', 'b') -/
def replD (y z : Str) : P1 := fun _ d => match d with
  | .str x => if x.length + (x.length + 1) * z.length ≤ 16777216 then some (.str (Txt.replace x y z)) else none
  | _ => none
theorem d_replIx {y z : Str} {i : Int} {j j1 j2 : Nat} {cp sp apos c0 c1 : Pos} (hK : G.K = X.K) (ha : PE X a (tE G W ma)) (hyz : (y == z) = false := by decide)
    (hst : starEach [.Constant (.str y) j1 c0, .Constant (.str z) j2 c1] X.env = [(false, eval (.Constant (.str y) j1 c0) X.env), (false, eval (.Constant (.str z) j2 c1) X.env)] := by rfl)
    (hbase : attributeBase (.Subscript a (.Constant (.int i) j cp) sp) "replace" X.env (eval (.Subscript a (.Constant (.int i) j cp) sp) X.env) = eval (.Subscript a (.Constant (.int i) j cp) sp) X.env := by rfl) (hline : (apos.endLine == pos.line) = true := by rfl) :
    PE X (.Call (.Attribute (.Subscript a (.Constant (.int i) j cp) sp) "replace" apos) [.Constant (.str y) j1 c0, .Constant (.str z) j2 c1] [] pos) (tE G W (dOp1 (replD y z) (dOp2 ixD ma (dC (.int i))))) := by
  refine ⟨fun pins s σ H Q I h => ?_⟩
  -- the receiver: behind it a token is given out
  have recv : wpAny (model X.prog X.w) X.A (eval (.Subscript a (.Constant (.int i) j cp) sp) X.env) (fun u s' => 1 ≤ s'.toks ∧ EP X pins σ (fun x H' => r1 G (replD y z) x H' Q) u s') X.xe s := by
    obtain ⟨ρ, S, η, T, F, fr, g, p⟩ := h
    refine PyProof.Rows.Subscript_ ?_
    have h1 : tE G W ma σ H fun x H1 => r2 G ixD x (.int i) H1 fun x' H' => r1 G (replD y z) x' H' Q := by
      have p' : Post G F W σ (Rep G) ((ma ρ S).bind fun d S1 => (R.ofO (ixD S1 d (.int i)) S1).bind fun d' S2 => R.ofO (replD y z S2 d') S2) η T Q := by
        have : (dOp1 (replD y z) (dOp2 ixD ma (dC (.int i)))) ρ S = (ma ρ S).bind fun d S1 => (R.ofO (ixD S1 d (.int i)) S1).bind fun d' S2 => R.ofO (replD y z S2 d') S2 := by
          unfold dOp1 dOp2 dC
          rw [R.bind_assoc]
          rfl
        rw [this] at p
        exact p
      refine tE_step fr g p' fun d v S1 H1 η1 T1 _ e1 f1 g1 r1 p1 => ?_
      cases q : ixD S1 d (.int i) with
      | none => rw [q] at p1; exact p1.elim
      | some d' =>
        rw [q] at p1
        exact ⟨S1, η1, T1, F, d, .int i, g1, r1, .int, d', q, fun v H' η' T' e' g' r' => ⟨S1, η', T', F, d', g', r', postP_of (p1.mono e')⟩⟩
    refine thn (ha.run pins s σ H _ I h1) fun v s1 ⟨x, H1, I1, rx, q1⟩ => ?_
    refine wpAny_Constant_int ?_
    have I2 := I1.tok (s1.toks + 1)
    refine wpAny_mono (PySem.wpAny_toks (i_ix hK a (.Constant (.int i) j cp) pins _ σ H1 x (.int i) v (.int i s1.toks) _ I2 rx ⟨_, rfl⟩ q1 rfl)) (fun u s2 hu => ⟨?_, hu.2⟩) fun _ _ z => z.2
    have := hu.1
    show 1 ≤ s2.toks
    have h3 : s1.toks + 1 ≤ s2.toks := this
    omega
  refine PySem.Call_method2 hbase hst hline (thn recv fun v s1 ⟨ht, x, H1, I1, rx, q1⟩ => ?_)
  obtain ⟨S, η, T, F, dx, g, rdx, d', e, k⟩ := q1
  unfold replD at e
  split at e
  · cases rdx
    split at e
    · rename_i hz
      cases e
      obtain ⟨tx, rfl⟩ := rx
      refine ⟨"str", _, PySem.F.plainAttrs_str, PySem.F.slot_str_replace, PySem.F.type_str_replace, typeIs_str _ _ _, (fun _ e => nomatch e), Calls.callWith_builtin rfl (Calls.evalArgs_plain (Calls.spliced_cons (Calls.Constant_str (Calls.spliced_cons (Calls.Constant_str (Calls.spliced_nil ?_))))))⟩
      exact PySem.SC.replace (by show s1.toks ≠ 0; omega) (by show s1.toks + 1 ≠ 0; omega) (by show s1.toks ≠ s1.toks + 1; omega) hyz hz fun t' kk => ⟨.str _, H1, I1.tok kk, ⟨t', rfl⟩, k _ _ _ _ Ext.refl g .str⟩
    · cases e
  · cases e

/-! ## raise C(e), C.__init__ keeping e in one field -/
/-- B.__init__(self, ..), B an own class over ValueError -/
theorem pe_binit {C0 : Addr} {x : Str} {p1 p2 : Pos} {ta : TA} {pl : Sem Bool} (hg : Gl X x) (hm : X.mg x = some (.ref C0)) (ga : PySem.W.specialIn X.K (.ref C0) "__getattribute__" = some (some (.builtin "type.__getattribute__"))) (rd : PySem.W.readsIn X.K C0 (.type "type") = true)
    (fd : PySem.W.findCls X.K (.ref C0) (.type "type") "__init__" = some (.val (.builtin "ValueError.__init__"))) (ha : PA X (e :: es) ta) (hdb : (x == ("__debug__" : Str)) = false := by decide)
    (hc : eval (.Call (.Attribute (.Name x p1) "__init__" p2) (e :: es) [] pos) X.env = (do
      let o ← eval (.Name x p1) X.env
      standAt p2.atName
      let (f, first) ← holding [o] (getMethod o "__init__" pl)
      callWith pos f first (backTo pos (starEach (e :: es) X.env)) (backToKw pos (keywordEach [] X.env))) := by rfl)
    (he : starEach (e :: es) X.env = (false, eval e X.env) :: starEach es X.env := by rfl) (hpl : (backTo pos (starEach es X.env)).any (·.1) = false := by rfl) :
    PE X (.Call (.Attribute (.Name x p1) "__init__" p2) (e :: es) [] pos) (tVeI X.K ta) := by
  refine ⟨fun pins s σ H Q I h => ?_⟩
  refine PySem.W.methodCall_KW (ld_glob I hg hm (PySem.W.method_cls I.kIn ga (PySem.W.cls_value I.kIn rd fd (by decide +kernel) ?_)) hdb) hc
  show wpAny _ _ (callWith pos (Value.builtin "ValueError.__init__") [] (backTo pos (starEach (e :: es) X.env)) []) _ _ _
  refine PyProof.Rows.callWith_method1 (thn (ha.run pos pins _ σ H _ (I.tok _) h) fun us s1 ⟨vs, H1, I1, r1, a, C, ws, ev, hl, T, ea, q⟩ => ?_) he hpl
  subst ev
  cases r1 with
  | @cons _ u0 _ ur ra rr =>
    cases ra
    exact oinit_ok T I1 ea (by rw [← Paired.length rr, sizeLine_eq]; omega) fun s' J => ⟨.non, H1, J, rfl, q⟩
/-- what such an __init__ promises -/
def spX1 (C : Addr) (fl : Str) : Sp := fun vs H Q _ => ∃ a y, vs = [.ref a, y] ∧ H a = some (exo a C none) ∧ ∀ dx, H dx = none → dx ≠ a → Q .non (upd (upd H dx (exd dx [(fl, y)])) a (exo a C (some dx)))
def sRaise1 (c : Nat) (fl : Str) (m : Den) : DenS := fun ρ S => (m ρ S).bind fun d S1 => .exn c [(fl, d)] S1
theorem s_raise1 {c : Nat} {fl : Str} {st : Stmt} (h : PS X st (fun _ σ H => tMkO (G.CA c) (spX1 (G.CA c) fl) [] (tCons (tE G W m) tNil) σ H fun cls d H' => W cls d σ H')) : PS X st (tS G W (sRaise1 c fl m)) :=
  h.imp fun E σ H ⟨ρ, S, η, T, F, fr, g, p⟩ => sE_step fr g p fun d v S1 H1 η1 T1 _ e1 f1 g1 r1 p1 => by
  refine ⟨(by show 1 ≤ 1000; decide), fun a ha => ⟨a, v, rfl, upd_same, fun dx hd hne => ⟨rfl, dx, [(fl, v)], upd_same, ?_, ?_, ?_⟩⟩⟩
  · rw [upd_ne hne, upd_same]
  · rw [upd_ne hne] at hd; exact hd
  · have hd1 : H1 dx = none := by rw [upd_ne hne] at hd; exact hd
    have eH : upd (del (upd (upd (upd H1 a (exo a (G.CA c) none)) dx (exd dx [(fl, v)])) a (exo a (G.CA c) (some dx))) a) dx (.xd [(fl, v)]) = upd H1 dx (.xd [(fl, v)]) := by
      funext b
      unfold upd del
      by_cases hb : b = dx
      · rw [if_pos hb, if_pos hb]
      · rw [if_neg hb, if_neg hb]
        by_cases hba : b = a
        · rw [if_pos hba, hba, ha]
        · rw [if_neg hba]
          dsimp only
          rw [if_neg hba, if_neg hb, if_neg hba]
    rw [eH]
    exact p1 _ _ σ _ η1 T1 Ext.refl (g1.beside hd1 _) ⟨rfl, dx, [(fl, v)], rfl, upd_same, rfl, Reps.one r1⟩
end
end Tok
namespace Tok
open PySem PySem.Spec PyProof.Rows L2

/-! ## a class whose __iter__ gives the iterator of a tuple, and whose __len__ is told by a def -/
def ItT (a it : Addr) : HO := .ext fun h => h.IsTupleIter it a 0
section
variable {P : Program} {w : World} {H : Hp} {h : Heap} {a it : Addr}
theorem itT_ok (e : h.IsTupleIter it a 0) : ObjOk P w H h it (ItT a it) :=
  ⟨e, (by obtain ⟨o, q, _⟩ := id e; exact ⟨_, q⟩), fun h1 h2 q k => (show h1.IsTupleIter it a 0 from q).at fun o z => k _ z⟩
end
section
variable {prog : Program} {w : World} {A : Around} {E : Value → Shared → Prop} {s : Shared}
def tupIt (a : Addr) : Obj := { cls := .type "tuple_iterator", data := .fields #[.ref a, rawInt 0] }
theorem iter_tup {l : Addr} {items : Array Value} {Q : Value → Shared → Prop} (hl : s.heap.IsTuple l items) (h : ∀ h', (∀ b o, s.heap.get? b = some o → h'.get? b = some o) → h'.IsTupleIter s.heap.objs.size l 0 → Q (.ref s.heap.objs.size) { s with heap := h' }) :
    wpAny (model prog w) A (call (.builtin "iter") [.ref l]) Q E s := by
  apply Calls.call_function_entry (by decide +kernel) (by decide +kernel) PySem.W.kdk_entry_iter (PySem.W.kdk_args_iter _)
  unfold Builtin.«iter»
  apply wpAny_bind (m := someArgs "iter" 1 2 _) (wpAny_of_eq (a := [Value.ref l]) (by first | rfl | kernel_rfl!) _)
  show wpAny _ _ (pyIter (.ref l) >>= _) _ _ _
  apply wpAny_bind (wpAny_pyIter_tuple hl _)
  apply wpAny_pure
  exact ⟨_, rfl, h _ (fun b o e => Heap.get?_push_of_some _ e) ⟨_, Heap.get?_push_size _ rfl, rfl, rfl⟩⟩
end
def rIterT (K : PySem.W.Frag) (n : Nat) : List V → Hp → VK → Prop := fun xs H Q => ∃ l zs, xs = [V.ref l] ∧ SqT K H l zs ∧ ∀ it, H it = Option.none → n ≤ it → Q (.ref it) (upd H it (ItT l it))
theorem call_iterT {X : Cx} : CallR X (.builtin "iter") (rIterT X.K X.s_0.heap.objs.size) := fun pins s σ H xs us Q I r h => by
  obtain ⟨l, zs, rfl, hq, q⟩ := h
  obtain rfl := Vals.ref1 r
  obtain ⟨its, rv, pl, hz⟩ := I.tuple hq
  refine iter_tup (show s.heap.IsTuple l its.toArray from pl) fun h' k ht => ?_
  exact ⟨.ref s.heap.objs.size, _, I.laid (t' := s.toks) k (Nat.le_refl _) (itT_ok ht), rfl, q _ (I.hok.fresh (Nat.le_refl _)) I.sz⟩
end Tok
namespace Tok
open PySem PySem.Spec PyProof.Rows L2
/-- a def's body is run, its reading may look at the state at the call -/
theorem run_at {P : Program} {w : World} {K : PySem.W.Frag} {mg : Str → Option Value} {base : Heap} {x qual : Str} {st : Stmt} {fa : Addr} {fd : FuncData} {N ps : List Str} {k : Nat} {t : TS}
    {A : Around} {outer : List PySem.Env} {s : Shared} {H : Hp} {args : Args} {us : List Value} {vs : List V} {Q : VK} {E : XK} (Ff : Fun K x qual st fa fd) (Sc : FnScope N ps (defScope st)) (hr : Room (k + 1) A)
    (e0 : Env0 P w K mg base A outer s H) (bd : BindsTo s fd args (ps.zip us)) (r : Vals vs us) (hl : vs.length = ps.length)
    (hb : ∀ cdv, Room k (A.deeper (PyProof.Rows.envOfC qual (defScope st) s.heap.objs.size fa cdv)) → PSs (cxOf (L2N.CX P w) P w K mg base N qual (defScope st) fa cdv A outer s H E) (defBody st) t)
    (hq : t { nx := fun _ H' => Q .non H', rt := Q } (L2.start N vs) H) : codeAny (model P w) A (.call (.ref fa) args) (CR (L2N.CX P w) outer P w H s Q E) s := by
  obtain ⟨oc, od, kV, doc, pm, an, cdv, ct, osl, rfl, lk, hcd⟩ := Ff.ex
  have old := fun b o e => (e0.bs b o e).1
  have KX := e0.mod.kin.keeps old
  have lim := e0.mod.nolimit.keeps old
  have kinds : ∀ y ∈ ps.zip us, (defScope st).names.lookup y.1 = some .local ∨ ((defScope st).names.lookup y.1 = some .cell ∧ ((cellsFrom (s.heap.objs.size + 1) (defScope st).names []).lookup y.1).isSome = true) := by
    rintro ⟨n, v⟩ hy
    exact (Sc.par n (List.of_mem_zip hy).1).elim .inl fun q => .inr ⟨q, PySem.W.cellsFrom_some _ _ _ (.inl q)⟩
  apply codeAny_call_function hr.depth (KX _ _ lk) rfl Sc.co Sc.gen rfl (PySem.W.codeRec_of KX hcd) (bd _ _ _ _ _)
  apply wpAny_newFunctionEnv_cells Sc.kind kinds
  rintro env rfl s1 ic
  apply And.intro (lim.keeps ic.toInCall.keep)
  apply codeAny_func
  have I := inv_start (CX := L2N.CX P w) (E := E) Sc hr.hd e0 hl r ic
  refine wpAny_mono ((hb cdv (hr.deeper _)).run [] s1 (L2.start N vs) H _ I hq) (fun fl s' hs => ?_) fun _ _ z => z
  cases fl
  case ret => obtain ⟨v, σ', H', J, rv, q⟩ := hs; exact ⟨v, H', J.os, J.bare, J.base, J.hok, rv, q⟩
  case next => obtain ⟨σ', H', J, q⟩ := hs; exact ⟨.non, H', J.os, J.bare, J.base, J.hok, rfl, q⟩
  case brk => obtain ⟨_, _, _, q⟩ := hs; exact q.elim
  case cont => obtain ⟨_, _, _, q⟩ := hs; exact q.elim
/-- such an __iter__ of the class at C: the iterator of the tuple in the field fl -/
structure ItFn (P : Program) (w : World) (K : PySem.W.Frag) (mg : Str → Option Value) (base : Heap) (C fi : Addr) (fl : Str) (k : Nat) : Prop where
  at_ : PySem.W.findIn K (.ref C) "__iter__" = some (some (.ref fi))
  fn : PySem.W.isFn K (.ref fi) = true
  run : ∀ (A : Around) (outer : List PySem.Env) (s : Shared) (H : Hp) (p dx a : Addr) (fv : List (Str × V)) (xs : List V), Room k A → Env0 P w K mg base A outer s H → H p = some (.ins C dx fv) → fv.lookup fl = some (.ref a) → SqT K H a xs →
    codeAny (model P w) A (.call (.ref fi) ⟨[.ref p], []⟩) (CR (L2N.CX P w) outer P w H s (fun v H' => ∃ it, s.heap.objs.size ≤ it ∧ v = .ref it ∧ H it = Option.none ∧ H' = upd H it (ItT a it)) fun _ _ _ => False) s
theorem itFn_mk {P : Program} {w : World} {K : PySem.W.Frag} {mg : Str → Option Value} {base : Heap} {qual fl : Str} {st : Stmt} {C fi : Addr} {fd : FuncData} {N : List Str} {k : Nat}
    (Ff : Fun K "__iter__" qual st fi fd) (Sc : FnScope N ["self"] (defScope st)) (bd : Binds K fd ["self"] []) (at_ : PySem.W.findIn K (.ref C) "__iter__" = some (some (.ref fi))) (fn : PySem.W.isFn K (.ref fi) = true) (hc : Cls K C) (hn : NoAttr K C fl)
    (hb : ∀ (cdv : Value) (A : Around) (outer : List PySem.Env) (s : Shared) (H : Hp) (E : XK), PSs (cxOf (L2N.CX P w) P w K mg base N qual (defScope st) fi cdv A outer s H E) (defBody st) (tRet (tCB (rIterT K s.heap.objs.size) (tCons (tFld K (tVar 0) fl) tNil)))) : ItFn P w K mg base C fi fl (k + 1) := by
  refine ⟨at_, fn, fun A outer s H p dx a fv xs hr e0 hp hl hs => ?_⟩
  have b := bd s [.ref p] (e0.mod.kin.keeps fun b o e => (e0.bs b o e).1) (by rfl)
  refine run_at (us := [.ref p]) (vs := [.ref p]) Ff Sc hr e0 (by simpa using b) (.cons rfl .nil) rfl (fun cdv hr' => hb cdv A outer s H _) ?_
  have h0 : (L2.start N [V.ref p])[0]? = some (some (V.ref p)) := by unfold L2.start; simp
  exact ⟨.ref p, h0, p, C, dx, fv, .ref a, rfl, hp, hc, hn, hl, a, xs, rfl, hs, fun it hi hn => ⟨it, hn, rfl, hi, rfl⟩⟩
end Tok
namespace Tok
open PySem PySem.Spec PyProof.Rows L2
section
variable {X : Cx} {G : Gx} {W : WX} {tg e : Expr} {m : Den} {c k : Nat} {fl : Str} {fi : Addr}
theorem own_it {EE : Value → Shared → Prop} {pins : List (Addr × Obj)} {σ : L2.St} {H : Hp} {s : Shared} {Q : Value → Shared → Prop} {C p dx a : Addr} {fv : List (Str × V)} {xs : List V} {A1 : Around} {kk : Nat} (hf : ItFn X.prog X.w X.K X.mg X.base C fi fl k) (sb : Sub X k A1) (I : Inv X pins σ H s)
    (hp : H p = some (.ins C dx fv)) (hl : fv.lookup fl = some (.ref a)) (hs : SqT X.K H a xs) (hQ : ∀ it s', s.heap.objs.size ≤ it → H it = Option.none → Inv X pins σ (upd H it (ItT a it)) s' → Q (.ref it) s') :
    wpAny (model X.prog X.w) A1 (pyIter (.ref p)) Q EE s := by
  obtain ⟨mA, J, _⟩ := ins_get I.hok hp
  obtain ⟨od, J, _⟩ := J.look
  obtain ⟨m0, hF⟩ := I.fr
  apply PySem.W.owit_iter hF I.ok.mod.kin J hf.at_ hf.fn
  have e0 : Env0 X.prog X.w X.K X.mg X.base A1 X.stack s H := by
    have z := I.env0
    refine ⟨?_, z.mod, z.bs, z.bsz, z.funs, z.frf, z.hok, z.bare⟩
    rw [sb.fr]; exact z.frames
  apply wpAny_call
  refine codeAny_mono (hf.run A1 X.stack s H p dx a fv xs sb.room e0 hp hl hs) fun r s' hq => ?_
  cases r with
  | error e => obtain ⟨_, _, _, _, _, _, _, _, _, _, _, _, z⟩ := hq; exact z.elim
  | ok f => cases f with
    | next => exact hq.elim
    | brk => exact hq.elim
    | cont => exact hq.elim
    | ret u =>
      obtain ⟨v, H', I', rv, it, hle, ev, hn, eH⟩ := I.after hq
      subst ev eH
      cases rv
      have st : s'.heap.IsTupleIter it a 0 := (I'.hok it _ upd_same).1
      unfold PySem.W.OwitIt
      apply wpAny_specialOf st.typeIs PySem.F.slot_tuple_iterator_next.lookup
      exact hQ it s' hle hn I'
def iOwnD (c : Nat) (fl : Str) (m : Den) : DenI := fun ρ S => (m ρ S).bind fun o S1 => match insOf S1 c o with
  | some (_, fs) => match fs.lookup fl with
    | some (.tup ds) => .ok ds S1
    | _ => .bad
  | none => .bad
theorem yields_tup {F : Hp} {a : Addr} {ds : List D} {vs : List V} {η : List Addr} {T : Hp} (hK : G.K = X.K) (h : SqT G.K T a vs) (r : Reps G η T ds vs) : Yields G F (Itt X.K a) ds η T := by
  intro η2 T2 H2 S2 F2 i e2 g2 _
  have key : SqT X.K H2 a vs := hK ▸ sqT_mono g2.sub (sqT_mono e2.sub h)
  refine ⟨fun hl => ⟨vs, key, by rw [← r.length]; exact hl⟩, fun d hd => ?_⟩
  obtain ⟨x, hx, rx⟩ := r.get hd
  refine ⟨⟨vs, x, key, hx⟩, fun y H3 hy => ?_⟩
  obtain ⟨rfl, hy⟩ := hy
  have q := hy vs key
  rw [hx] at q; cases q
  exact ⟨η2, T2, Ext.refl, g2, rx.mono e2⟩
theorem i_own (hK : G.K = X.K) (hf : ItFn X.prog X.w X.K X.mg X.base (G.CA c) fi fl k) (hr : Room k X.A) (h : PE X e (tE G W m)) : PI X tg e (tI G W (iOwnD c fl m)) := by
  refine ⟨fun pins s σ H R I ⟨ρ, S, η, T, F, f, g, p⟩ => ?_⟩
  refine thn (h.run pins s σ H (fun v H1 => ∃ pt dx fv a xs, v = V.ref pt ∧ H1 pt = some (.ins (G.CA c) dx fv) ∧ fv.lookup fl = some (.ref a) ∧ SqT X.K H1 a xs ∧ R (Itt X.K a) H1) I (tE_step f g p fun d v S1 H1 η1 T1 _ e1 f1 g1 r1 p1 => ?_)) fun u s1 ⟨v, H1, I1, r1, pt, dx, fv, a, xs, ev, hp, hl, hs, q⟩ => ?_
  · cases qi : insOf S1 c d with
    | none => rw [qi] at p1; exact p1.elim
    | some lf =>
      obtain ⟨l, fs⟩ := lf
      rw [qi] at p1
      dsimp only at p1
      split at p1
      · rename_i ds hl
        obtain ⟨pt, dx, fv, rfl, rfl, hp, hS, hH, rf⟩ := ins_rep g1 r1 qi
        obtain ⟨v, hv, rv⟩ := look_rep rf hl
        cases rv with
        | @tup a vs _ h r => exact ⟨pt, dx, fv, a, vs, rfl, hH, hv, hK ▸ sqT_mono g1.sub h, p1 _ H1 η1 T1 Ext.refl g1 (yields_tup hK h r)⟩
      · exact p1.elim
  · subst ev
    cases r1
    refine own_it (kk := 0) hf ⟨hr, rfl⟩ I1 hp hl hs fun it s' hle hn I' => ?_
    have st : s'.heap.IsTupleIter it a 0 := (I'.hok it _ upd_same).1
    have hi : (upd H1 it (ItT a it)) it = some (ItT a it) := upd_same
    refine ⟨it, [it], _, Itt X.K a, ItX.dropH (upd H1 it (ItT a it)) it, rfl, ItX.inv_drop I' hi, turn_tuple a it, st, fun b hb => ?_, ?_⟩
    · obtain rfl : b = it := by simpa using hb
      exact ItX.inv_fp I' hi (Nat.le_trans I1.sz hle)
    · rw [ItX.dropH_upd hn]; exact q
end
end Tok
namespace Tok
open PySem PySem.Spec PyProof.Rows L2
section
variable {X : Cx} {pins : List (Addr × Obj)} {σ : L2.St} {a q it : Addr} {xs : List V} {A1 : Around}
theorem fp_upd {H : Hp} {o : HO} (f : FpOk X pins H it) (h : it ≠ q) : FpOk X pins (upd H q o) it := ⟨by rw [upd_ne h]; exact f.1, f.2⟩
theorem ext_loop {Rs : Result → Shared → Prop} (hh : A1.in1.handled = none) (hz : xs.length < sizeLine) (hxe : ∀ e s, X.xe e s → Rs (.error e) s) :
    ∀ (n i : Nat) (H : Hp) (s : Shared), n + i = xs.length → Inv X pins σ H s → FpOk X pins H it → s.heap.IsTupleIter it a i → SqT X.K H a xs → H q = some (.lst (xs.take i)) →
      (∀ s', Inv X pins σ (upd H q (.lst xs)) s' → Rs (.ok (.ret .none)) s') → codeAny (model X.prog X.w) A1 (.builtin "list.extend.loop" ⟨[.ref q, .ref it, .none], []⟩) Rs s := by
  intro n
  induction n with
  | zero =>
    intro i H s hn I fp st hs hq k
    obtain rfl : i = xs.length := by omega
    obtain ⟨f0, f1, f2, f3, f4, f5⟩ := id fp
    obtain ⟨its, rv, p, _⟩ := I.tuple hs
    have hl := rv.length
    apply codeAny_builtin PySem.F.entry_extend_loop
    rw [Around.under_plainId PySem.F.plain_extend_loop _]
    apply wpAny_bind
    refine wpAny_pyNext_tuple_end hh st (show s.heap.IsTuple a its.toArray from p) (by simp; omega) fun h' eb => ?_
    have I1 : Inv X pins σ H { s with heap := h' } := I.turned (t' := s.toks) (fun b o hb e => eb b o hb e) f0 f1 f3 f4 f5
    apply wpAny_pure
    have e : upd H q (.lst xs) = H := by
      funext b
      by_cases hb : b = q
      · rw [hb, upd_same, hq, List.take_length]
      · rw [upd_ne hb]
    exact k _ (by rw [e]; exact I1)
  | succ n ih =>
    intro i H s hn I fp st hs hq k
    obtain ⟨f0, f1, f2, f3, f4, f5⟩ := id fp
    obtain ⟨its, rv, p, _⟩ := I.tuple hs
    have hi : i < xs.length := by omega
    obtain ⟨u, hu, ru⟩ := rv.get (List.getElem?_eq_getElem hi)
    have hne : it ≠ q := fun z => by rw [z, hq] at f0; cases f0
    apply codeAny_builtin PySem.F.entry_extend_loop
    rw [Around.under_plainId PySem.F.plain_extend_loop _]
    apply wpAny_bind
    refine wpAny_pyNext_tuple_item st (show s.heap.IsTuple a its.toArray from p) (x := u) (by simpa using hu) fun h' st' sb => ?_
    have I1 : Inv X pins σ H { s with heap := h' } := I.turned (t' := s.toks) (fun b o hb e => (sb.2 b hb).trans e) f0 f1 f3 f4 f5
    show wpAny _ A1.in1 (updateSeq q (·.push u) >>= _) _ _ _
    obtain ⟨z, its2, k2, r2, hl2, e2⟩ := I1.lstM hq
    have hlen : its2.length = i := by have := r2.length; rw [List.length_take] at this; omega
    have hsz : its2.length + 1 ≤ sizeLine := by omega
    apply wpAny_bind
    refine wpAny_updateSeq e2 rfl (wpAny_pure ⟨plainId_quiet PySem.F.plain_extend_loop _, ?_⟩) (by rw [List.size_toArray]; omega) (by show (its2.toArray.push u).size ≤ sizeLine + 1; rw [Array.size_push, List.size_toArray]; omega)
    have I2 := I1.lset (f := fun y => y.push u) (its' := its2 ++ [u]) (ys := xs.take i ++ [xs[i]]) (t' := s.toks) hq e2 (by simp) (r2.append (.cons ru .nil)) (by rw [List.length_append, List.length_singleton]; omega)
    have et : xs.take i ++ [xs[i]] = xs.take (i + 1) := by rw [List.take_succ, List.getElem?_eq_getElem hi]; rfl
    rw [et] at I2
    refine ih (i + 1) _ _ (by omega) I2 (fp_upd fp hne) ?_ ?_ upd_same (fun s' I' => k s' (by rw [upd_upd] at I'; exact I'))
    · exact st'.at fun o e => (Heap.get?_update_other _ _ (Ne.symm hne)).trans e
    · rcases hs with (h | ⟨o, h⟩) | h
      · exact .inl (.inl (by rw [upd_ne (ne_of h hq (fun z => nomatch z))]; exact h))
      · exact .inl (.inr ⟨o, by rw [upd_ne (ne_of h hq (fun z => nomatch z))]; exact h⟩)
      · exact .inr h
end
end Tok
namespace Tok
open PySem PySem.Spec PyProof.Rows L2
/-- what list(o) asks of the class: no more than that __len__ tells the tuple's length -/
def spLen (K : PySem.W.Frag) (C : Addr) (fl : Str) : Sp := fun vs H Q _ => ∃ p dx fv a xs, vs = [V.ref p] ∧ H p = some (.ins C dx fv) ∧ fv.lookup fl = some (.ref a) ∧ SqT K H a xs ∧ Q (.int xs.length) H
structure LenFn (P : Program) (w : World) (K : PySem.W.Frag) (mg : Str → Option Value) (base : Heap) (C f : Addr) (fl : Str) (k : Nat) : Prop where
  at_ : PySem.W.findIn K (.ref C) "__len__" = some (some (.ref f))
  fn : PySem.W.isFn K (.ref f) = true
  ex : ∃ fd, FnOk P w K mg base (L2N.CX P w) k f fd ["self"] (spLen K C fl) ∧ Binds K fd ["self"] []
section
variable {X : Cx} {pins : List (Addr × Obj)} {σ : L2.St} {C fi fl' : Addr} {fl : Str} {k : Nat} {A1 : Around}
theorem own_len {EE : Value → Shared → Prop} {H : Hp} {s : Shared} {Q : Value → Shared → Prop} {p dx a : Addr} {fv : List (Str × V)} {xs : List V} (hf : LenFn X.prog X.w X.K X.mg X.base C fl' fl k) (sb : Sub X k A1.in1) (I : Inv X pins σ H s) (hp : H p = some (.ins C dx fv)) (hl : fv.lookup fl = some (.ref a)) (hs : SqT X.K H a xs) (hz : xs.length ≤ sizeLine)
    (hQ : ∀ t s', Inv X pins σ H s' → Q (.int xs.length t) s') : wpAny (model X.prog X.w) A1 (call (.builtin "len") [.ref p]) Q EE s := by
  obtain ⟨fd, F, bd⟩ := hf.ex
  obtain ⟨mA, J, _⟩ := ins_get I.hok hp
  obtain ⟨od, J, _⟩ := J.look
  apply Calls.call_function_entry kind_len plain_len entry_len (args_len1 _)
  unfold Builtin.«len»
  refine wpAny_bind (m := oneArg "len" _) (wpAny_pure (wpAny_bind (m := callSpecial? (.ref p) (Str.ofString "__len__")) (PySem.W.special_fn (name := "__len__") (args := []) I.kIn J hf.at_ (beq_iff_eq.mp hf.fn) ?_)))
  have e0 : Env0 X.prog X.w X.K X.mg X.base A1.in1 X.stack s H := by
    have z := I.env0
    refine ⟨?_, z.mod, z.bs, z.bsz, z.funs, z.frf, z.hok, z.bare⟩
    rw [sb.fr]; exact z.frames
  apply wpAny_call
  have b := bd s [.ref p] I.kIn (by rfl)
  refine codeAny_mono (F.run A1.in1 X.stack s H ⟨[.ref p], []⟩ [.ref p] [.ref p] (fun v H' => v = .int xs.length ∧ H' = H) (fun _ _ _ => False) sb.room e0 (by simpa using b) (.cons rfl .nil) ⟨p, dx, fv, a, xs, rfl, hp, hl, hs, rfl, rfl⟩) fun r s' hq => ?_
  cases r with
  | error e => obtain ⟨_, _, _, _, _, _, _, _, _, _, _, _, z⟩ := hq; exact z.elim
  | ok f => cases f with
    | next => exact hq.elim
    | brk => exact hq.elim
    | cont => exact hq.elim
    | ret u =>
      obtain ⟨v, H', I', rv, ev, eH⟩ := I.after hq
      subst ev
      rw [eH] at I'
      obtain ⟨t, rfl⟩ := rv
      have h0 : ((xs.length : Nat) : Int) < 2 ^ 63 := by have := sizeLine_eq; omega
      refine wpAny_bind (wpAny_holding (wpAny_pure (wpAny_bind (wpAny_letGo ?_))))
      show wpAny _ _ (if ((xs.length : Nat) : Int) < 0 then _ else _) _ _ _
      rw [if_neg (by omega)]
      show wpAny _ _ (if ((xs.length : Nat) : Int) ≥ 2 ^ 63 then _ else _) _ _ _
      rw [if_neg (by omega)]
      exact wpAny_bind (wpAny_mkInt (wpAny_pure ⟨_, rfl, hQ _ _ (I'.tok _)⟩))
end
end Tok
namespace Tok
open PySem PySem.Spec PyProof.Rows L2
section
variable {X : Cx} {pins : List (Addr × Obj)} {σ : L2.St} {C fi fl' : Addr} {fl : Str} {k : Nat} {A1 : Around}
theorem own_hintT {EE : Value → Shared → Prop} {H : Hp} {s : Shared} {Q : Bool → Shared → Prop} {p dx a : Addr} {fv : List (Str × V)} {xs : List V} (hf : LenFn X.prog X.w X.K X.mg X.base C fl' fl k) (sb : Sub X k A1.in1) (I : Inv X pins σ H s) (hp : H p = some (.ins C dx fv)) (hl : fv.lookup fl = some (.ref a)) (hs : SqT X.K H a xs) (hz : xs.length < sizeLine)
    (hQ : ∀ b s', Inv X pins σ H s' → Q b s') : wpAny (model X.prog X.w) A1 (Builtin.List.listLengthHint (.ref p)) Q EE s := by
  obtain ⟨mA, J, _⟩ := ins_get I.hok hp
  obtain ⟨od, J, _⟩ := J.look
  unfold Builtin.List.listLengthHint
  refine wpAny_bind (wpAny_bind (J.type.here ((PySem.W.looks_findIn I.kIn hf.at_).here ?_)))
  refine PySem.W.KFB.if_not rfl ?_
  show wpAny _ _ (rule "list.length-hint.len" >>= fun _ => (call (Value.builtin "len") [Value.ref p]).attempt >>= _) _ _ _
  refine wpAny_bind (wpAny_rule (wpAny_bind (wpAny_attempt (own_len hf sb I hp hl hs (Nat.le_of_lt hz) fun t s' I' => ?_))))
  show wpAny _ _ (asInt? (Value.int (xs.length : Int) t) >>= _) _ _ _
  refine wpAny_bind (wpAny_pure ?_)
  show wpAny _ _ (if Builtin.List.listTooLong ((xs.length : Int)).toNat = true then _ else _) _ _ _
  rw [if_neg (by unfold Builtin.List.listTooLong; have := sizeLine_eq; simp; omega)]
  exact wpAny_pure (hQ _ s' I')

def rListT (K : PySem.W.Frag) (C : Addr) (fl : Str) : List V → Hp → VK → Prop := fun xs H Q => ∃ p dx fv a ys, xs = [V.ref p] ∧ H p = some (.ins C dx fv) ∧ fv.lookup fl = some (.ref a) ∧ SqT K H a ys ∧ ys.length < sizeLine ∧ ∀ q, H q = Option.none → Q (.ref q) (upd H q (.lst ys))
theorem sqT_upd {K : PySem.W.Frag} {H : Hp} {a q : Addr} {ys : List V} {o : HO} (h : SqT K H a ys) (hq : H q = Option.none) : SqT K (upd H q o) a ys := by
  rcases h with (h | ⟨u, h⟩) | h
  · exact .inl (.inl (by rw [upd_ne (ne_of_none h hq)]; exact h))
  · exact .inl (.inr ⟨u, by rw [upd_ne (ne_of_none h hq)]; exact h⟩)
  · exact .inr h
theorem call_listT (hf : ItFn X.prog X.w X.K X.mg X.base C fi fl k) (hl : LenFn X.prog X.w X.K X.mg X.base C fl' fl k) (hr : Room (k + 4) X.A) (hcm : X.calm = true) : CallR X (.type "list") (rListT X.K C fl) := fun pins s σ H xs us Q I rv h => by
  obtain ⟨p, dx, fv, a, ys, rfl, hp, hlk, hs, hz, hq⟩ := h
  obtain rfl := Vals.ref1 rv
  have sb : Sub X k X.A.in1.in1.in1.in1 := Sub.in1 (Sub.in1 (Sub.in1 (Sub.in1 (⟨hr, rfl⟩ : Sub X (k + 4) X.A))))
  have sb2 : Sub X k X.A.in1.in1 := ⟨(Sub.in1 (Sub.in1 (⟨hr, rfl⟩ : Sub X (k + 4) X.A))).room.mono (by omega), (Sub.in1 (Sub.in1 (⟨hr, rfl⟩ : Sub X (k + 4) X.A))).fr⟩
  have sb3 : Sub X k X.A.in1.in1.in1 := ⟨(Sub.in1 (Sub.in1 (Sub.in1 (⟨hr, rfl⟩ : Sub X (k + 4) X.A)))).room.mono (by omega), (Sub.in1 (Sub.in1 (Sub.in1 (⟨hr, rfl⟩ : Sub X (k + 4) X.A)))).fr⟩
  have hh : X.A.in1.in1.handled = Option.none := I.ok.hd hcm
  apply callType_codes (Q₁ := fun obj s₁ => obj = .ref s.heap.objs.size ∧ s₁ = { s with heap := s.heap.push { cls := .type "list", data := .seq #[] } }) PySem.F.called_list (PySem.F.typeCall_list_1 _) PySem.F.entry_list_init
  · exact code_list_new _ ⟨rfl, rfl⟩
  rintro obj s₁ ⟨rfl, rfl⟩
  have hS : (s.heap.push { cls := .type "list", data := .seq #[] }).get? s.heap.objs.size = some { cls := .type "list", data := .seq #[] } := Heap.get?_push_size _ rfl
  refine ⟨⟨_, hS, rfl⟩, PySem.F.args_list_init_2 _ _, ?_⟩
  have fr : H s.heap.objs.size = Option.none := I.hok.fresh (Nat.le_refl _)
  have hqq := hq _ fr
  generalize hqa : s.heap.objs.size = q at *
  have I1 : Inv X pins σ (upd H q (.lst [])) { s with heap := s.heap.push { cls := .type "list", data := .seq #[] } } := by have := I.lnew (its := []) (t' := s.toks) .nil (Nat.zero_le _); rw [hqa] at this; exact this
  show wpAny _ _ (do let old ← Builtin.List.listItems (.ref q); Builtin.List.listUpdate (.ref q) (fun _ => #[]); letGo old.toList.reverse; Builtin.List.listExtendWith (.ref q) (.ref p) .none) _ _ _
  refine wpAny_bind ?_
  unfold Builtin.List.listItems
  apply wpAny_bind
  refine wpAny_seqItems hS rfl (wpAny_pure ?_)
  show wpAny _ _ (updateSeq q (fun _ => #[]) >>= fun _ => letGo (#[] : Array Value).toList.reverse >>= fun _ => Builtin.List.listExtendWith (.ref q) (.ref p) .none) _ _ _
  apply wpAny_bind
  refine wpAny_updateSeq hS rfl ?_
  have I2 := I1.lset (f := fun _ => #[]) (its := []) (its' := []) (ys := []) (t' := s.toks) upd_same hS rfl .nil (Nat.zero_le _)
  rw [upd_upd] at I2
  apply wpAny_bind
  refine wpAny_letGo ?_
  have hp2 : upd H q (.lst []) p = some (.ins C dx fv) := by rw [upd_ne (ne_of_none hp fr)]; exact hp
  have hs2 : SqT X.K (upd H q (.lst [])) a ys := sqT_upd hs fr
  have hne : q ≠ p := Ne.symm (ne_of_none hp fr)
  obtain ⟨mA, J, _⟩ := ins_get I2.hok hp2
  obtain ⟨od, J, _⟩ := J.look
  unfold Builtin.List.listExtendWith
  refine wpAny_bind (J.type.here ?_)
  have h1 : Builtin.List.listSameRef (.ref q) (.ref p) = false := by simp [Builtin.List.listSameRef, hne]
  rw [h1]
  show wpAny _ _ (if (false || Value.ref C == Value.type "list" || Value.ref C == Value.type "tuple") = true then _ else _) _ _ _
  have h2 : (false || Value.ref C == Value.type "list" || Value.ref C == Value.type "tuple") = false := rfl
  rw [h2, if_neg Bool.false_ne_true]
  refine wpAny_bind (own_it (kk := 0) hf sb2 I2 hp2 hlk hs2 fun it s' hle hn I' => ?_)
  have hit : (upd (upd H q (.lst [])) it (ItT a it)) it = some (ItT a it) := upd_same
  have hpi : it ≠ p := fun z => by rw [z, hp2] at hn; cases hn
  have hqi : it ≠ q := fun z => by rw [z, upd_same] at hn; cases hn
  refine wpAny_bind (wpAny_holding (own_hintT hl sb3 I' (by rw [upd_ne (Ne.symm hpi)]; exact hp2) hlk (sqT_upd hs2 hn) hz fun b s'' I4 => ?_))
  have st : s''.heap.IsTupleIter it a 0 := (I4.hok it _ hit).1
  have fp : FpOk X pins (ItX.dropH (upd (upd H q (.lst [])) it (ItT a it)) it) it := ItX.inv_fp I4 hit (Nat.le_trans I2.sz hle)
  have I5 := ItX.inv_drop I4 hit
  rw [ItX.dropH_upd hn] at I5 fp
  have fin : ∀ s3, Inv X pins σ (upd H q (.lst [])) s3 → s3.heap.IsTupleIter it a 0 → codeAny (model X.prog X.w) X.A.in1 (.builtin "list.extend.loop" ⟨[.ref q, .ref it, .none], []⟩) (wants (fun r s₂ => r = .none ∧ EP X pins σ Q (.ref q) s₂) X.xe) s3 := fun s3 I6 st3 =>
    ext_loop hh hz (fun e s he => he) ys.length 0 _ s3 rfl I6 fp st3 hs2 (by rw [upd_same]; rfl) fun s4 I7 => by
      rw [upd_upd] at I7
      exact ⟨rfl, .ref q, _, I7, rfl, hqq⟩
  refine wpAny_ite_split (fun _ => ?_) (fun _ => wpAny_pure ⟨plainId_quiet PySem.F.plain_extend_loop _, fin _ I5 st⟩)
  obtain ⟨z, its, k3, r3, hl3, e3⟩ := I5.lstM upd_same
  cases r3
  apply wpAny_bind
  refine wpAny_rule ?_
  apply wpAny_bind
  show wpAny _ _ (updateSeq q (·.push .none) >>= fun _ => updateSeq q (·.pop)) _ _ _
  apply wpAny_bind
  refine wpAny_updateSeq e3 rfl ?_
  have J2 := I5.lset (f := fun y => y.push Value.none) (its' := [Value.none]) (ys := [.non]) (t' := s''.toks) upd_same e3 (by simp) (.cons rfl .nil) (by rw [List.length_singleton, sizeLine_eq]; decide)
  obtain ⟨z4, its4, k4, r4, hl4, e4⟩ := J2.lstM upd_same
  obtain ⟨u4, rfl, ru4⟩ := r4.one
  have J3 := J2.lset (f := fun y => y.pop) (its := [u4]) (its' := []) (ys := []) (t' := s''.toks) upd_same e4 (by rfl) .nil (Nat.zero_le _)
  rw [upd_upd, upd_upd] at J3
  refine wpAny_updateSeq e4 rfl ?_ (by show 1 ≤ sizeLine; rw [sizeLine_eq]; decide) (by show 0 ≤ sizeLine + 1; exact Nat.zero_le _)
  refine wpAny_pure ⟨plainId_quiet PySem.F.plain_extend_loop _, fin _ J3 ?_⟩
  exact st.at fun o e => (Heap.get?_update_other _ _ (Ne.symm hqi)).trans ((Heap.get?_update_other _ _ (Ne.symm hqi)).trans e)
end
end Tok
namespace Tok
open PySem PySem.Spec PyProof.Rows L2
section
variable {X : Cx} {G : Gx} {W : WX} {e : Expr} {m : Den} {c k : Nat} {fl : Str} {fi fl' : Addr} {p pos : Pos}
def dListOwn (c : Nat) (fl : Str) (m : Den) : Den := fun ρ S => (m ρ S).bind fun o S1 => match insOf S1 c o with
  | some (_, fs) => match fs.lookup fl with
    | some (.tup ds) => if ds.length < sizeLine then .ok (.lst ds) S1 else .bad
    | _ => .bad
  | none => .bad
theorem d_listOwn (hK : G.K = X.K) (hf : ItFn X.prog X.w X.K X.mg X.base (G.CA c) fi fl k) (hl : LenFn X.prog X.w X.K X.mg X.base (G.CA c) fl' fl k) (hr : Room (k + 4) X.A) (hcm : X.calm = true) (hg : Gl X "list") (hm : X.mg "list" = Option.none) (h : PE X e (tE G W m))
    (hst : starEach [e] X.env = (false, eval e X.env) :: starEach [] X.env := by rfl) : PE X (.Call (.Name "list" p) [e] [] pos) (tE G W (dListOwn c fl m)) :=
  (pe_callTy (call_listT hf hl hr hcm) hg hm (by decide +kernel) (pa_cons h pa_nil (hs := hst)) (by decide) (by decide) hst).imp fun σ H Q ⟨ρ, S, η, T, F, f, g, q⟩ => tE_step f g q fun d v S1 H1 η1 T1 _ e1 f1 g1 r1 p1 => by
    cases qi : insOf S1 c d with
    | none => rw [qi] at p1; exact p1.elim
    | some lf =>
      obtain ⟨l, fs⟩ := lf
      rw [qi] at p1
      dsimp only at p1
      split at p1
      · rename_i ds hlk
        split at p1
        · rename_i hz
          obtain ⟨pt, dx, fv, rfl, rfl, hp, hS, hH, rf⟩ := ins_rep g1 r1 qi
          obtain ⟨v, hv, rv⟩ := look_rep rf hlk
          cases rv with
          | @tup a vs _ h r =>
            refine ⟨pt, dx, fv, a, vs, rfl, hH, hv, hK ▸ sqT_mono g1.sub h, by rw [← r.length]; exact hz, fun q hq => ?_⟩
            have ex : Ext η1 T1 η1 (upd T1 q (.lst vs)) := ext_fresh (g1.tnone hq)
            exact p1 _ _ η1 _ ex (g1.fresh hq (.lst vs)) (rep_lst upd_same (r.mono ex))
        · exact p1.elim
      · exact p1.elim
end
end Tok
namespace Tok
open PySem PySem.Spec PyProof.Rows L2

/-! ## making an exception of an own class with an own __init__: nothing is its context -/
theorem pmk_oexN {X : Cx} {x : Str} {C fI : Addr} {k : Nat} {fd : FuncData} {ps : List Str} {sp : Sp} {e : Expr} {es : List Expr} {ta : TA} {p pos : Pos} (T : OexC X.K C) (iC : PySem.W.findIn X.K (.ref C) "__init__" = some (some (.ref fI)))
    (tI : PySem.W.typeIn X.K (.ref fI) = some (.type "function")) (F1 : FnOk X.prog X.w X.K X.mg X.base (L2N.CX X.prog X.w) k fI fd ps sp) (hr : Room (k + 1) X.A) (hb : Binds X.K fd ps []) (hx : Passes (L2N.CX X.prog X.w) X (fun _ _ _ => False))
    (hg : Gl X x) (hm : X.mg x = some (.ref C)) (ha : PA X (e :: es) ta) (hdb : (x == ("__debug__" : Str)) = false := by decide) (he : starEach (e :: es) X.env = (false, eval e X.env) :: starEach es X.env := by rfl)
    (hpl : (backTo pos (starEach es X.env)).any (·.1) = false := by rfl) : L2N.PMk X (.Call (.Name x p) (e :: es) [] pos) (tMkO C sp [] ta) := fun pins s σ H Q I h => by
  obtain ⟨nm, q, N, bs, bm, sn, sub, ab, col, dd, k0, k1, k2, k3, k5, hC, hbm⟩ := T.cls
  apply wpAny_Call_Name_kw
  refine ld_glob I hg hm ?_ hdb
  refine PySem.W.callWith_K (h₀ := X.base) I.ok.mod.kin T.kC (thn (ha.run pos pins s σ H _ I h) ?_) he hpl
  rintro us ⟨hp, g, dr, tk, os⟩ ⟨vs, H1, I1, r1, hz, q1⟩
  refine ⟨I1.kIn, (?_ : wpAny _ _ (call (.ref C) us) _ _ _)⟩
  have hsz := Nat.le_succ hp.objs.size
  have hn : H1 (hp.objs.size + 1) = Option.none := I1.hok.fresh hsz
  have hq := q1 (hp.objs.size + 1) hn
  rw [List.append_nil] at hq
  generalize hhp : (hp.push (PySem.W.kdv_tup us)).push (PySem.HandSPX.excO C hp.objs.size) = hp2
  have kk : ∀ b o, hp.get? b = some o → hp2.get? b = some o := fun b o e => hhp ▸ Heap.get?_push_of_some _ (Heap.get?_push_of_some _ e)
  have hget : hp2.get? (hp.objs.size + 1) = some (PySem.HandSPX.excO C hp.objs.size) := by rw [← hhp]; heap_get
  have I2 : Inv X pins σ (upd H1 (hp.objs.size + 1) (exo (hp.objs.size + 1) C Option.none)) ⟨hp2, g, dr, tk, os⟩ := I1.laid (t' := tk) (o := exo (hp.objs.size + 1) C Option.none) kk hsz (exo_ok hget)
  have r2 : Vals (V.ref (hp.objs.size + 1) :: vs) (Value.ref (hp.objs.size + 1) :: us) := .cons rfl r1
  have b2 := hb _ (Value.ref (hp.objs.size + 1) :: us) I2.kIn (by rw [List.append_nil, ← r2.length, F1.len _ _ _ _ hq])
  rw [List.append_nil] at b2
  have hus : us.length ≤ sizeLine := by have := r1.length; have := sizeLine_eq; omega
  apply wpAny_call
  refine PySem.HandSPX.call_own F.excBase_ValueError (fun Y => PySem.HandSPX.refsVE_contains Y bm hbm) (I1.kIn _ _ hC) (PySem.W.looks_findIn I1.kIn iC) (fun self => PySem.W.bind_fn I1.kIn self tI) hus ?_
  rw [hhp]
  refine codeAny_mono (F1.run _ X.stack _ _ ⟨Value.ref (hp.objs.size + 1) :: us, []⟩ (Value.ref (hp.objs.size + 1) :: us) _ _ (fun _ _ _ => False) (hr.make C us []) (I2.env0.make C us []) b2 r2 hq) fun r s' hq' => ?_
  cases r with
  | error er => exact hx pins σ _ _ er s' I2 hq'
  | ok fl => cases fl with
    | next => exact hq'.elim
    | brk => exact hq'.elim
    | cont => exact hq'.elim
    | ret u =>
      obtain ⟨v, H2, os2, bare2, un2, hok2, rv, ev, d, fs, ea, ed, hd1, q2⟩ := hq'
      subst ev
      obtain ⟨h2, g2, d2, t2, os'⟩ := s'
      obtain ⟨t0, Gh, J, kG, ge, hoe, na⟩ := mk_end0 (d2 := d2) (t2 := t2) I1 hsz kk un2 hok2 os2 bare2 ea ed hd1
      exact ⟨rv, hp.objs.size + 1, _, _, ⟨Gh, g2, d2, t2, os'⟩, _, .ref C, some d, rfl, J, kG, ge, hoe, ⟨rfl, rfl, fun vs hv => by cases hv; rfl⟩, rfl, rfl, na, rfl, bare2, raises_own T.exC T.tyC, q2⟩
end Tok
namespace Tok
open PySem PySem.Spec PyProof.Rows L2 HotX
section
variable {prog : Program} {w : World} {A : Around} {E : Value → Shared → Prop} {s : Shared}
/-- a tuple's iterator at its end, while an exception is handled -/
theorem tup_end_hot {it t x1 : Addr} {i : Nat} {items : Array Value} {Q : Option Value → Shared → Prop} (hot : HotAt A x1 s.heap) (hi1 : x1 ≠ it) (hit : IsTupIter s.heap it t i) (ht : IsTup s.heap t items) (hx : items[i]? = Option.none)
    (hQ : ∀ h', Heap.ExtBut it s.heap h' → Q Option.none { s with heap := h' }) : wpAny (model prog w) A (pyNext (.ref it)) Q E s := by
  obtain ⟨o, ho, hc, hd⟩ := id hit
  obtain ⟨ol, hol, _, nl, hdl⟩ := ht
  obtain ⟨hh, o1, vs1, h1, d1, c1⟩ := hot
  unfold pyNext
  apply wpAny_bind
  refine wpAny_attempt (wpAny_callSpecial?_slot (name := Str.ofString "__next__") hit.typeIs slot_tupleiter_next (wpAny_call_entry slot_tupleiter_next hit.typeIs entry_tupleiter_next ?_ (args_tupleiter_next _)))
  show wpAny _ _ (field (.ref it) 0 >>= _) _ _ s
  apply wpAny_bind
  refine wpAny_field ho hd (x := .ref t) rfl ?_
  show wpAny _ _ (if (Value.ref t == Value.none) = true then _ else _) _ _ s
  have ne : ¬ ((Value.ref t == Value.none) = true) := Bool.false_ne_true
  rw [if_neg ne]
  show wpAny _ _ (field (.ref it) 1 >>= _) _ _ s
  apply wpAny_bind
  refine wpAny_field ho hd (x := .int i 0) rfl ?_
  show wpAny _ _ (seqItems? (.ref t) >>= _) _ _ s
  apply wpAny_bind
  refine wpAny_seqItems hol hdl ?_
  simp only [Int.toNat_natCast, hx]
  apply wpAny_bind
  refine wpAny_rule (wpAny_bind (wpAny_setField ho hd (by simp) ?_))
  have sb : Heap.SameBut it s.heap (s.heap.update it (Obj.mapFields fun x => x.setIfInBounds 0 Value.none)) := Heap.SameBut.update ..
  generalize s.heap.update it (Obj.mapFields fun x => x.setIfInBounds 0 Value.none) = hu at sb ⊢
  have h1' : hu.get? x1 = some o1 := (sb.2 _ hi1).trans h1
  show wpAny _ _ (newExc (.type "StopIteration") [] >>= _) _ _ _
  apply wpAny_bind
  simp only [newExc, newTuple]
  apply wpAny_bind
  refine wpAny_newObj_type ?_ (by size_fits)
  refine wpAny_bind (m := firstArgMember _ _) (wpAny_of_eq (a := Value.none) (by first | rfl | (simp only [firstArgMember]; rfl)) (wpAny_newObj_type ?_ (by size_fits)))
  refine raiseNew_hot ⟨hh, o1, vs1, Heap.get?_push_of_some _ (Heap.get?_push_of_some _ h1'), d1, c1⟩ ?_ (Heap.get?_push_size _ rfl) rfl (by first | (simp; done) | (simp; omega) | (simp only [Array.size_append]; simp; omega)) ?_
  · exact Nat.ne_of_lt (Heap.lt_size (Heap.get?_push_of_some _ h1'))
  apply wpAny_bind
  refine wpAny_isInstance (T := "StopIteration") (b := true) ⟨_, Heap.get?_update_self _ (Heap.get?_push_size _ rfl) rfl, rfl⟩ isSubtype_stop (wpAny_pure (hQ _ fun b o hb e => ?_))
  have e' : hu.get? b = some o := (sb.2 _ hb).trans e
  exact (Heap.get?_update_other _ _ (Nat.ne_of_gt (Heap.lt_size (Heap.get?_push_of_some _ e')))).trans (Heap.get?_push_of_some _ (Heap.get?_push_of_some _ e'))
end
end Tok
namespace Tok
open PySem PySem.Spec PyProof.Rows L2 HotX
section
variable {prog : Program} {w : World} {A : Around} {E : Value → Shared → Prop} {s : Shared}
theorem unpack_hot {t x1 : Addr} {items : Array Value} {Q : List Value → Shared → Prop} (hot : HotAt A x1 s.heap) (ht : IsTup s.heap t items) (hQ : ∀ h', Heap.ExtBut s.heap.objs.size s.heap h' → Q items.toList { s with heap := h' }) :
    wpAny (model prog w) A (unpackItems (.ref t) items.size Option.none) Q E s := by
  have hlt : t ≠ s.heap.objs.size := by obtain ⟨o, ho, _⟩ := ht; exact Nat.ne_of_lt (Heap.lt_size ho)
  obtain ⟨hh, o1, vs1, h1, d1, c1⟩ := hot
  unfold unpackItems
  apply wpAny_bind
  unfold notIterableAtAll
  apply wpAny_bind
  refine wpAny_specialOf ht.typeIs slot_tuple_iter.lookup (wpAny_pure ?_)
  simp only [Bool.false_eq_true, if_false]
  apply wpAny_bind
  refine wpAny_holding (iter_tuple ht ?_)
  apply wpAny_bind
  refine wpAny_holding (draw_tuple hlt items.size 0 _ _ ⟨_, Heap.get?_push_size _ rfl, rfl, rfl⟩ (ht.push _) (by omega) ?_)
  intro hq hit1 hs1
  have hall : (items.toList.drop 0).take items.size = items.toList := by rw [List.drop_zero, List.take_of_length_le]; simp
  rw [hall, if_neg (by simp)]
  have ht1 : IsTup hq t items := (ht.push _).extBut hs1.extBut hlt
  have nx : x1 ≠ s.heap.objs.size := Nat.ne_of_lt (Heap.lt_size h1)
  have g1 : hq.get? x1 = some o1 := (hs1.2 _ nx).trans (Heap.get?_push_of_some _ h1)
  apply wpAny_bind
  refine wpAny_holding (tup_end_hot (x1 := x1) ⟨hh, o1, vs1, g1, d1, c1⟩ nx hit1 ht1 (by simp) fun h2 he2 => ?_)
  simp only [Option.isSome_none, Bool.false_eq_true, if_false]
  exact wpAny_pure (hQ h2 fun b o hb e => he2 b o hb (hs1.extBut b o hb (Heap.get?_push_of_some _ e)))
end
/-- a, b = e, f in an except suite -/
theorem ps_parH {X : Cx} {pos : Pos} {i j : Nat} {x y : Str} {a b : Expr} {ta : TA} {px py pt : Pos} {kt : Nat} {k2 : Nat} {pt2 : Pos} (hc : L2H.HotC X) (hN : X.N.Nodup) (hi : X.N[i]? = some x) (hj : X.N[j]? = some y) (hij : i ≠ j)
    (hx : X.env.scope.names.lookup x = some .local) (hy : X.env.scope.names.lookup y = some .local) (ha : PA X [a, b] ta)
    (hw : swappedStores [.Tuple [.Name x px, .Name y py] kt pt] (.Tuple [a, b] k2 pt2) X.env = pure (some [x, y])) (hs : swapsWithSole [.Tuple [.Name x px, .Name y py] kt pt] (.Tuple [a, b] k2 pt2) pos.line X.env = pure false := by rfl) :
    PS X (.Assign [.Tuple [.Name x px, .Name y py] kt pt] (.Tuple [a, b] k2 pt2) pos) (tPar i j ta) := by
  refine ⟨fun pins s σ H D I h => ?_⟩
  rw [exec_Assign_arm]
  apply wpAny_bind
  refine wpAny_standAt ?_
  rw [hs]
  apply wpAny_bind
  refine wpAny_pure ?_
  rw [if_neg (by decide)]
  apply wpAny_bind
  refine Tuple_ (thn (ha.run _ pins s σ H _ I h) ?_)
  rintro us s1 ⟨vs, H1, I1, r1, v, w, e1, q1⟩
  subst e1
  cases r1 with | cons rv r1 => cases r1 with | cons rw' r1 => cases r1 with | nil =>
  rename_i u1 u2
  refine wpAny_newObj_type ?_ (by show 2 ≤ sizeLine; decide)
  have I2 : Inv X pins σ H1 { s1 with heap := s1.heap.push { cls := .type "tuple", data := .seq [u1, u2].toArray } } := I1.kept (t' := s1.toks) fun b o e => Heap.get?_push_of_some _ e
  obtain ⟨x1, hot⟩ := hc.at I2
  rw [hw]
  apply wpAny_bind
  refine wpAny_pure ?_
  show wpAny (model X.prog X.w) X.A (do rule "assign.swapped-stores"; let items ← unpackItems (.ref s1.heap.objs.size) 2 .none; assignInOrder [fun v => bindName X.env y v, fun v => bindName X.env x v] items.reverse; pure Flow.next) _ _ _
  apply wpAny_bind
  refine wpAny_rule ?_
  apply wpAny_bind
  refine unpack_hot (items := #[u1, u2]) hot (IsTup.new s1.heap _) fun h' hx' => ?_
  have I3 := I2.kept (h' := h') (t' := s1.toks) fun b o e => hx' b o (Nat.ne_of_lt (Heap.lt_size e)) e
  show wpAny _ _ (assignInOrder [fun v => bindName X.env y v, fun v => bindName X.env x v] [u2, u1] >>= fun _ => pure Flow.next) _ _ _
  apply wpAny_bind
  refine assignInOrder_cons (wpAny_bindName (store_ok I3 hN hj (.inl hy) rw' ?_ (.inr hy)))
  intro s2 I4
  refine assignInOrder_cons (wpAny_bindName (store_ok I4 hN hi (.inl hx) rv ?_ (.inr hx)))
  intro s3 I5
  refine assignInOrder_nil (wpAny_pure ?_)
  rw [List.set_comm _ _ (Ne.symm hij)] at I5
  exact ⟨_, H1, I5, q1⟩
end Tok
namespace Tok
open PySem PySem.Spec PyProof.Rows L2
/-! ## isinstance of the exception that the suite holds -/
def rIsX (K : PySem.W.Frag) (D a : Addr) (cls : Value) (d : Option Addr) : List V → Hp → VK → Prop := fun xs H Q => ∃ c, xs = [V.ref a, c] ∧ cls = .ref D ∧ (d = Option.none ∨ ∃ dd fs, d = some dd ∧ H dd = some (.xd fs)) ∧
  ((∃ cv b, (∀ u, RelV c u → u = cv) ∧ PySem.W.kitOne K (.ref D) cv = some b ∧ Q (.bl b) H) ∨ ∃ tp cs cvs b, c = .ref tp ∧ H tp = some (.tup cs) ∧ (∀ us, Vals cs us → us = cvs) ∧ PySem.W.kitAny K (.ref D) cvs = some b ∧ Q (.bl b) H)
theorem call_isX {X : Cx} {a D : Addr} {d : Option Addr} {oe : Obj} {pn : List (Addr × Obj)} (C : L2.ExcC X.K D) {cls : Value} (hz : Zc cls d oe) (hf : ∃ vs, oe.data = .fields vs) : CallR (X.suite a ((a, oe) :: pn)) (.builtin "isinstance") (rIsX X.K D a cls d) := fun pins s σ H xs us Q I r h => by
  obtain ⟨c, rfl, rfl, hd, q⟩ := h
  cases r with | cons rx r => cases r with | cons rt r => cases r with | nil =>
  cases rx
  rename_i u
  obtain ⟨hget, _⟩ := I.pin (a, oe) (List.mem_append.mpr (.inl List.mem_cons_self))
  obtain ⟨vs, hv⟩ := hf
  obtain ⟨cd, hcd, _⟩ := PySem.W.any_some C.hd
  have hcl : (PySem.W.clsIn X.K D).isSome = true := by rw [hcd]; rfl
  obtain ⟨od, J⟩ : ∃ od, PySem.W.InstAt s.heap a oe D od := by
    have nc : PySem.W.notCls oe := by unfold PySem.W.notCls; rw [hv] <;> trivial
    rcases hd with rfl | ⟨dd, fs, rfl, hdd⟩
    · exact ⟨Option.none, hget, hz.1, nc, by rw [hz.2]; trivial⟩
    · have hx : ObjOk X.prog X.w H s.heap dd (.xd fs) := I.hok dd _ hdd
      obtain ⟨mA, hns, _⟩ := hx
      obtain ⟨od, ho, _⟩ := lookIn_ns hns
      exact ⟨some od, hget, hz.1, nc, by rw [hz.2]; exact ho⟩
  have Z := PySem.W.kitx_exc (K := X.K) (x := a) (ox := oe) (od := od) hcl C.hg C.hk C.hs C.ha C.hn C.ht C.hm
  have hne : Value.ref a ≠ .builtin "__main__.__loader__#opaque" := fun z => nomatch z
  rcases q with ⟨cv, b, hcv, e, q⟩ | ⟨tp, cs, cvs, b, rfl, htp, hcv, e, q⟩
  · obtain rfl := hcv _ rt
    exact PySem.W.kia_one Z I.kIn J e hne fun tk => ⟨.bl b, H, I.kept (t' := tk) fun _ _ z => z, rfl, q⟩
  · cases rt
    obtain ⟨its, rv, ⟨o, ho, hc, n, hdt⟩, _⟩ := I.tuple (.inl (.inl htp))
    obtain rfl := hcv _ rv
    obtain ⟨ocl, odc, odt, osl⟩ := o
    dsimp only at hc hdt
    subst hc hdt
    exact PySem.W.kia_tup Z I.kIn J ho e hne fun tk => ⟨.bl b, H, I.kept (t' := tk) fun _ _ z => z, rfl, q⟩
end Tok
namespace Tok
open PySem PySem.Spec PyProof.Rows L2
/-! ## try: x = e; except C as n: f, g = n.fl, isinstance(n, S) and not isinstance(n, (B1, B2)) -/
def tGood (K : PySem.W.Frag) (D a : Addr) (cls : Value) (d : Option Addr) (ie : Nat) (v1 v2 v3 : V) : TE := tAndV (tCB (rIsX K D a cls d) (tCons (tVar ie) (tCons (tC v1) tNil))) (tNotV (tCB (rIsX K D a cls d) (tCons (tVar ie) (tCons (tTup (tCons (tC v2) (tCons (tC v3) tNil))) tNil))))
def tSuiteAt (K : PySem.W.Frag) (D : Addr) (fl : Str) (ie jf jg : Nat) (v1 v2 v3 : V) : Addr → Value → Option Addr → TS := fun a cls d => tPar jf jg (tCons (tXf a cls d D fl (tVar ie)) (tCons (tGood K D a cls d ie v1 v2 v3) tNil))
def sTryAt (ie i jf jg c : Nat) (fl : Str) (m : Den) : DenS := fun ρ S => if ie < ρ.length then (match m ρ S with
  | .ok d S1 => .ok (.nx (ρ.set i (some d))) S1
  | .exn c' fs S1 => if c' = c then (match fs.lookup fl with
    | some v => .ok (.nx (((ρ.set jf (some v)).set jg (some (.bl true))).set ie none)) S1
    | none => .bad) else .bad
  | .bad => .bad) else .bad
theorem set_none {G : Gx} {ρ : Env} {σ : L2.St} {η : List Addr} {T : Hp} (f : FRel G ρ σ η T) (i : Nat) : FRel G (ρ.set i none) (σ.set i none) η T := f.wipe [i] |> fun z => by
  have e1 : wipeD ρ [i] = ρ.set i none := rfl
  have e2 : wipe σ [i] = σ.set i none := rfl
  rw [e1, e2] at z
  exact z
theorem s_tryAt {X : Cx} {G : Gx} {W : WX} {st : Stmt} {ie i jf jg c : Nat} {fl : Str} {m : Den} {a1 a2 a3 : Addr} (hf : ie ≠ jf) (hg : ie ≠ jg) (te : PySem.W.exmOne X.K (.ref (G.CA c)) (.ref (G.CA c)) = some true) (k1 : PySem.W.kitOne X.K (.ref (G.CA c)) (.ref a1) = some true) (k2 : PySem.W.kitAny X.K (.ref (G.CA c)) [.ref a2, .ref a3] = some false)
    (h : PS X st (fun Dn σ H => tAsg (tE G (wAs X.K (.ref (G.CA c)) ie (tSuiteAt X.K (G.CA c) fl ie jf jg (.ref a1) (.ref a2) (.ref a3)) (fun _ _ _ _ => False) Dn) m) (gName i) Dn σ H)) : PS X st (tS G W (sTryAt ie i jf jg c fl m)) :=
  h.imp fun Dn σ H ⟨ρ, S, η, T, F, f, g, p⟩ => by
    refine ⟨ρ, S, η, T, F, f, g, ?_⟩
    unfold sTryAt at p
    split at p
    rotate_left
    · exact p.elim
    rename_i hie
    rw [f.len] at hie
    cases q : m ρ S with
    | bad => rw [q] at p; exact p.elim
    | ok d S1 =>
      rw [q] at p
      exact fun v H' η' T' e' g' r' => p _ H' η' T' e' g' ((f.mono e').set i r')
    | exn c' fs S1 =>
      rw [q] at p
      dsimp only at p
      split at p
      · rename_i hc
        subst hc
        cases ql : fs.lookup fl with
        | none => rw [ql] at p; exact p.elim
        | some d =>
          rw [ql] at p
          rintro cls dd H' η' T' e' g' ⟨rfl, x⟩
          cases fs with
          | nil => cases ql
          | cons f0 fr =>
            obtain ⟨dx, fv, rfl, hx, rf⟩ := x
            obtain ⟨v, hv, rv⟩ := look_rep rf ql
            refine ⟨true, te, fun _ a ha => ?_, fun z => Bool.noConfusion z⟩
            have get : (σ.set ie (some (V.ref a)))[ie]? = some (some (V.ref a)) := by rw [List.getElem?_set_self hie]
            refine ⟨.ref a, get, rfl, rfl, dx, fv, v, rfl, hx, hv, ?_⟩
            refine ⟨.ref a, get, .ref a1, rfl, rfl, .inr ⟨dx, fv, rfl, hx⟩, .inl ⟨.ref a1, true, fun u r => r, k1, true, rfl, ?_⟩⟩
            rw [if_pos rfl]
            refine ⟨.ref a, get, by show 2 ≤ sizeLine; decide, fun tp htp => ⟨.ref tp, rfl, rfl, .inr ⟨dx, fv, rfl, ?_⟩, .inr ⟨tp, _, [.ref a2, .ref a3], false, rfl, upd_same, fun us r => ?_, k2, false, rfl, v, .bl true, rfl, ?_⟩⟩⟩
            · rw [upd_ne (ne_of_none hx htp)]; exact hx
            · cases r with | cons r1 r => cases r with | cons r2 r => cases r with | nil => cases r1; cases r2; rfl
            · have e1 : ((((σ.set ie (some (V.ref a))).set jf (some v)).set jg (some (.bl true))).set ie none) = (((σ.set jf (some v)).set jg (some (.bl true))).set ie none) := by
                rw [List.set_comm _ _ hf, List.set_comm _ _ hg, List.set_set]
              show Dn.nx ((((σ.set ie (some (V.ref a))).set jf (some v)).set jg (some (.bl true))).set ie none) _
              rw [e1]
              exact p _ _ η' T' e' (g'.beside htp _) (set_none ((((f.mono e').set jf rv).set jg .bl)) ie)
      · exact p.elim
end Tok
namespace Tok
open PySem PySem.Spec PyProof.Rows L2
/-! ## f(p = e, ..): all by name, in the parameters' order -/
structure FnK (G : Gx) (P : Program) (w : World) (K : PySem.W.Frag) (mg : Str → Option Value) (base : Heap) (x : Str) (k : Nat) (ps : List Str) (f : DF) : Prop where
  ex : ∃ (fa : Addr) (fd : FuncData), FnOk P w K mg base (L2N.CX P w) k fa fd ps (spD G ps.length f) ∧ mg x = some (.ref fa) ∧ PySem.W.keepIn K (.ref fa) = true ∧ ∀ (s : Shared) (ws : List Value), K.In s.heap → ws.length = ps.length → BindsTo s fd ⟨[], ps.zip ws⟩ (ps.zip ws)
section
variable {X : Cx} {G : Gx} {W : WX} {pos : Pos} {na : DenA} {k : Nat} {ps : List Str} {f : DF} {x : Str} {kws : List Keyword}
theorem kw_imp {t t' : TA} (h : PK X kws t) (k : ∀ σ H Q, t' σ H Q → t σ H Q) : PK X kws t' := ⟨fun pos pins s σ H Q I q => h.run pos pins s σ H Q I (k σ H Q q)⟩
theorem kw_nil : PK X [] (tA G W aNil) := kw_imp pk_nil fun σ H Q ⟨ρ, S, η, T, F, fr, g, p⟩ => p.ok g .nil
theorem kw_cons {e : Expr} {nm : Option Str} {kpos : Pos} {ma : Den} (ha : PE X e (tE G W ma)) (hr : PK X kws (tA G W na)) : PK X (⟨nm, e, kpos⟩ :: kws) (tA G W (aCons ma na)) :=
  kw_imp (pk_cons ha hr) fun σ H Q ⟨ρ, S, η, T, F, fr, g, p⟩ => tE_step fr g p fun d v S1 H1 η1 T1 _ e1 f1 g1 r1 p1 => tA_step f1 g1 p1 fun ds vs S2 H2 η2 T2 _ e2 f2 g2 r2 p2 => p2.ok g2 (.cons (r1.mono e2) r2)
theorem d_callKw {p : Pos} (hf : FnK G X.prog X.w X.K X.mg X.base x k ps f) (hr : Room k X.A) (tk : L2N.Takes X W) (hg : Gl X x) (ha : PK X kws (tA G W na)) (hl : ∀ ρ S ds S1, na ρ S = .ok ds S1 → ds.length = ps.length)
    (hall : (backToKw pos (keywordEach kws X.env)).all (·.1.isSome) = true := by rfl) (hks : (backToKw pos (keywordEach kws X.env)).filterMap (·.1) = ps := by rfl) (hdb : (x == ("__debug__" : Str)) = false := by decide)
    (hpl : ((backTo pos (starEach [] X.env)).any (·.1) || (backToKw pos (keywordEach kws X.env)).any (·.1.isNone)) = false := by rfl) : PE X (.Call (.Name x p) [] kws pos) (tE G W (dCall f na)) := by
  obtain ⟨fa, fd, F1, hm, hk, hb⟩ := hf.ex
  refine ⟨fun pins s σ H Q I ⟨ρ, S, η, T, F, fr, g, q⟩ => ?_⟩
  apply wpAny_Call_Name_kw
  refine ld_glob I hg hm ?_ hdb
  refine PySem.W.callWith_KW0 (h₀ := X.base) I.ok.mod.kin hk hall (thn (ha.run pos pins _ σ H (fun vs H1 => spD G ps.length f vs H1 Q (fun cls d H => W cls d σ H)) (I.tok _) ?_) ?_) hpl
  · exact tA_step fr g q fun d v S1 H1 η1 T1 e0 e1 f1 g1 r1 p1 => ⟨by rw [← r1.length, hl _ _ _ _ e0], d, S1, η1, T1, F, g1, r1, post_W p1 fun _ _ _ h => h⟩
  · rintro ws s1 ⟨vs, H1, I1, rz, sp⟩
    refine ⟨I1.kIn, ?_⟩
    rw [hks]
    have h1 : vs.length = ps.length := sp.1
    have h2 : ws.length = ps.length := by rw [← rz.length]; exact h1
    apply wpAny_call
    refine codeAny_mono (F1.run X.A X.stack s1 H1 ⟨[], ps.zip ws⟩ ws vs Q _ hr I1.env0 (hb s1 ws I1.kIn h2) rz sp) fun r s' hq => ?_
    cases r with
    | error e => exact L2N.passAt tk σ pins H1 s1 e s' I1 hq
    | ok fl => cases fl with
      | ret u => exact I1.after hq
      | next => exact hq.elim
      | brk => exact hq.elim
      | cont => exact hq.elim
end
end Tok
namespace Tok
open PySem PySem.Spec PyProof.Rows L2
/-! ## for x in e, e a list or a tuple -/
section
variable {X : Cx} {G : Gx} {W : WX} {tg e : Expr} {m : Den}
theorem pi_both {tl : TE} (hl : PE X e tl) : PI X tg e (fun σ H R => tl σ H fun x H1 => ∃ a, x = .ref a ∧ (((∃ xs, SqL X.K H1 a xs) ∧ R (Itl X.K a) H1) ∨ ((∃ xs, SqT X.K H1 a xs) ∧ R (Itt X.K a) H1))) := ⟨fun pins s σ H R I h => by
  refine thn (hl.run pins s σ H _ I h) ?_
  rintro v s1 ⟨x, H1, I1, r1, a, rfl, q⟩
  cases r1
  rcases q with ⟨⟨xs, hq⟩, q⟩ | ⟨⟨xs, hq⟩, q⟩
  · obtain ⟨its, rv, p, _⟩ := I1.list hq
    apply wpAny_pyIter_list p.isList
    refine ⟨_, [s1.heap.objs.size], _, _, H1, rfl, I1.kept (t' := s1.toks) fun b o e => Heap.get?_push_of_some _ e, turn_list a _, ⟨_, Heap.get?_push_size _ rfl, rfl, rfl⟩, fun b hb => ?_, q⟩
    rw [List.mem_singleton.mp hb]
    exact I1.fpOk (Nat.le_refl _) (I1.hok.fresh (Nat.le_refl _))
  · obtain ⟨its, rv, p, _⟩ := I1.tuple hq
    apply wpAny_pyIter_tuple (show s1.heap.IsTuple a its.toArray from p)
    refine ⟨_, [s1.heap.objs.size], _, _, H1, rfl, I1.kept (t' := s1.toks) fun b o e => Heap.get?_push_of_some _ e, turn_tuple a _, ⟨_, Heap.get?_push_size _ rfl, rfl, rfl⟩, fun b hb => ?_, q⟩
    rw [List.mem_singleton.mp hb]
    exact I1.fpOk (Nat.le_refl _) (I1.hok.fresh (Nat.le_refl _))⟩
def iAny (m : Den) : DenI := fun ρ S => (m ρ S).bind fun d S1 => match d with
  | .lst ds => .ok ds S1
  | .tup ds => .ok ds S1
  | _ => .bad
theorem yields_lst {F : Hp} {a : Addr} {ds : List D} {vs : List V} {η : List Addr} {T : Hp} (hK : G.K = X.K) (h : SqL G.K T a vs) (r : Reps G η T ds vs) : Yields G F (Itl X.K a) ds η T := by
  intro η2 T2 H2 S2 F2 i e2 g2 _
  have key : SqL X.K H2 a vs := hK ▸ sqL_mono g2.sub (sqL_mono e2.sub h)
  refine ⟨fun hl => ⟨vs, key, by rw [← r.length]; exact hl⟩, fun d hd => ?_⟩
  obtain ⟨x, hx, rx⟩ := r.get hd
  refine ⟨⟨vs, x, key, hx⟩, fun y H3 hy => ?_⟩
  obtain ⟨rfl, hy⟩ := hy
  have q := hy vs key
  rw [hx] at q; cases q
  exact ⟨η2, T2, Ext.refl, g2, rx.mono e2⟩
theorem i_any (hK : G.K = X.K) (h : PE X e (tE G W m)) : PI X tg e (tI G W (iAny m)) := (pi_both h).imp fun σ H Q ⟨ρ, S, η, T, F, f, g, p⟩ => tE_step f g p fun d v S1 H1 η1 T1 _ e1 f1 g1 r1 p1 => by
  cases r1 with
  | @lst a vs ds h r => exact ⟨a, rfl, .inl ⟨⟨vs, hK ▸ sqL_mono g1.sub (SqL.of h)⟩, p1 _ H1 η1 T1 Ext.refl g1 (yields_lst hK (SqL.of h) r)⟩⟩
  | @tup a vs ds h r => exact ⟨a, rfl, .inr ⟨⟨vs, hK ▸ sqT_mono g1.sub h⟩, p1 _ H1 η1 T1 Ext.refl g1 (yields_tup hK h r)⟩⟩
  | _ => exact p1.elim
end
end Tok
namespace Tok
open PySem PySem.Spec PyProof.Rows L2
theorem hotC_of {X : Cx} {a : Addr} {oe : Obj} {pn : List (Addr × Obj)} {cls : Value} {d : Option Addr} (hz : L2N.Zn cls d oe) (hf : ∃ vs, oe.data = .fields vs) : L2H.HotC (X.suite a ((a, oe) :: pn)) := by
  obtain ⟨vs, hv⟩ := hf
  exact ⟨(a, oe), ⟨rfl, vs, hv, hz.2.2 vs hv⟩, List.mem_cons_self⟩
theorem takes0N {X : Cx} : L2N.Takes X (fun _ _ _ _ => False) := fun u s' ⟨_, _, _, _, _, _, _, _, _, _, _, _, _, _, _, _, z⟩ => z.elim
/-- such a __len__ -/
theorem lenFn_mk {P : Program} {w : World} {K : PySem.W.Frag} {mg : Str → Option Value} {base : Heap} {qual fl : Str} {st : Stmt} {C f : Addr} {fd : FuncData} {N : List Str} {k : Nat}
    (Ff : Fun K "__len__" qual st f fd) (Sc : FnScope N ["self"] (defScope st)) (bd : Binds K fd ["self"] []) (at_ : PySem.W.findIn K (.ref C) "__len__" = some (some (.ref f))) (fn : PySem.W.isFn K (.ref f) = true) (hc : Cls K C) (hn : NoAttr K C fl)
    (hb : ∀ (cdv : Value) (A : Around) (outer : List PySem.Env) (s : Shared) (H : Hp) (E : XK), PSs (cxOf (L2N.CX P w) P w K mg base N qual (defScope st) f cdv A outer s H E) (defBody st) (tRet (tCB (fun xs H Q => ∃ p ys, xs = [V.ref p] ∧ (SqL K H p ys ∨ SqT K H p ys) ∧ Q (.int ys.length) H) (tCons (tFld K (tVar 0) fl) tNil)))) : LenFn P w K mg base C f fl (k + 1) := by
  refine ⟨at_, fn, fd, ?_, bd⟩
  obtain ⟨oc, od, kV, doc, pm, an, cdv, ct, osl, rfl, lk, hcd⟩ := Ff.ex
  refine fn_of lk hcd Sc (fun vs H Q E h => by obtain ⟨_, _, _, _, _, rfl, _⟩ := h; rfl) fun A outer s H vs Q E hr h => ⟨_, hb cdv A outer s H E, ?_⟩
  obtain ⟨p, dx, fv, a, xs, rfl, hp, hl, hs, q⟩ := h
  have h0 : (L2.start N [V.ref p])[0]? = some (some (V.ref p)) := by unfold L2.start; simp
  exact ⟨.ref p, h0, p, C, dx, fv, .ref a, rfl, hp, hc, hn, hl, a, xs, rfl, .inr hs, q⟩
end Tok
namespace Tok
open PySem PySem.Spec PyProof.Rows L2
/-! ## try: e; except C as n: x = x + int(not isinstance(n, B)) -/
def tSuiteNo (G : Gx) (K : PySem.W.Frag) (D : Addr) (ie jf : Nat) (v1 : V) : Addr → Value → Option Addr → TS := fun a cls d =>
  tAsg (tOp (rI0 fun i j => .int (i + j)) (tVar jf) (tCB (rN G intD) (tCons (tNotV (tCB (rIsX K D a cls d) (tCons (tVar ie) (tCons (tC v1) tNil)))) tNil))) (gName jf)
def sTryNo (ie jf c : Nat) (m : Den) : DenS := fun ρ S => if ie < ρ.length then (match m ρ S with
  | .ok d S1 => .ok (.nx ρ) S1
  | .exn c' fs S1 => if c' = c ∧ fs = [] then (match ρ[jf]? with
    | some (some (.int k)) => .ok (.nx ((ρ.set jf (some (.int (k + 1)))).set ie none)) S1
    | _ => .bad) else .bad
  | .bad => .bad) else .bad
theorem s_tryNo {X : Cx} {G : Gx} {W : WX} {st : Stmt} {ie jf c : Nat} {m : Den} {a1 : Addr} (hf : ie ≠ jf) (te : PySem.W.exmOne X.K (.ref (G.CA c)) (.ref (G.CA c)) = some true) (k1 : PySem.W.kitOne X.K (.ref (G.CA c)) (.ref a1) = some false)
    (h : PS X st (fun Dn σ H => tDrop (tE G (wAs X.K (.ref (G.CA c)) ie (tSuiteNo G X.K (G.CA c) ie jf (.ref a1)) (fun _ _ _ _ => False) Dn) m) Dn σ H)) : PS X st (tS G W (sTryNo ie jf c m)) :=
  h.imp fun Dn σ H ⟨ρ, S, η, T, F, f, g, p⟩ => by
    refine ⟨ρ, S, η, T, F, f, g, ?_⟩
    unfold sTryNo at p
    split at p
    rotate_left
    · exact p.elim
    rename_i hie
    rw [f.len] at hie
    cases q : m ρ S with
    | bad => rw [q] at p; exact p.elim
    | ok d S1 =>
      rw [q] at p
      exact fun v H' η' T' e' g' r' => p _ H' η' T' e' g' (f.mono e')
    | exn c' fs S1 =>
      rw [q] at p
      dsimp only at p
      split at p
      · rename_i hc
        obtain ⟨rfl, rfl⟩ := hc
        split at p
        · rename_i k hk
          rintro cls dd H' η' T' e' g' ⟨rfl, rfl⟩
          obtain ⟨v, hv, rv⟩ := f.get _ _ hk
          cases rv
          refine ⟨true, te, fun _ a ha => ?_, fun z => Bool.noConfusion z⟩
          have get : (σ.set ie (some (V.ref a)))[ie]? = some (some (V.ref a)) := by rw [List.getElem?_set_self hie]
          refine ⟨.int k, by rw [List.getElem?_set_ne hf]; exact hv, .ref a, get, .ref a1, rfl, rfl, .inl rfl, .inl ⟨.ref a1, false, fun u r => r, k1, false, rfl, ?_⟩⟩
          refine ⟨S1, η', T', F, [.bl true], g', .cons .bl .nil, .int 1, rfl, fun w H2 η2 T2 e2 g2 r2 => ?_⟩
          cases r2
          refine ⟨k, 1, rfl, rfl, ?_⟩
          have e1 : (((σ.set ie (some (V.ref a))).set jf (some (.int (k + 1)))).set ie none) = ((σ.set jf (some (.int (k + 1)))).set ie none) := by
            rw [List.set_comm _ _ hf, List.set_set]
          show Dn.nx (((σ.set ie (some (V.ref a))).set jf (some (.int (k + 1)))).set ie none) _
          rw [e1]
          exact p _ _ η2 T2 (e'.trans e2) g2 (set_none (((f.mono (e'.trans e2)).set jf .int)) ie)
        · exact p.elim
      · exact p.elim
end Tok
namespace Tok
open PySem L2

/-! ## facts of classes -/
section
variable {K : PySem.W.Frag} {C : Addr} {t : Value} {b : Bool}
theorem kit_own (ic : PySem.W.isClsIn K C = true) (tc : PySem.W.typeIn K (.ref C) = some (.type "type")) (ss : PySem.W.subIn K (.ref C) (.ref C) = some true) (s : PySem.W.subIn K t (.ref C) = some b) : PySem.W.kitOne K t (.ref C) = some b := by
  unfold PySem.W.kitOne
  split
  · rename_i e
    have e' : t = .ref C := by simpa using e
    subst e'
    exact ss.symm.trans s
  · have ic' : (PySem.W.clsIn K C).isSome = true := ic
    unfold PySem.W.kitCls
    dsimp only
    rw [ic', tc]
    exact s
theorem kit_bt {n : String} (hm : PySem.W.kitMeta n = true) (s : PySem.W.subIn K (.ref C) (.type n) = some b) : PySem.W.kitOne K (.ref C) (.type n) = some b := by
  unfold PySem.W.kitOne
  have e : (Value.ref C == Value.type n) = false := rfl
  rw [e, if_neg Bool.false_ne_true]
  unfold PySem.W.kitCls
  dsimp only
  rw [if_pos hm]
  exact s
theorem exm_own (eb : PySem.W.subIn K (.ref C) (.type "BaseException") = some true) (ic : PySem.W.isClsIn K C = true) (tc : PySem.W.typeIn K (.ref C) = some (.type "type")) (s : PySem.W.subIn K t (.ref C) = some b) : PySem.W.exmOne K t (.ref C) = some b := by
  have ic' : (PySem.W.clsIn K C).isSome = true := ic
  unfold PySem.W.exmOne
  rw [eb, if_pos (by rfl)]
  unfold PySem.W.kitCls
  dsimp only
  rw [ic', tc]
  exact s
theorem kit_any2 {x y : Value} (h1 : PySem.W.kitOne K t x = some false) (h2 : PySem.W.kitOne K t y = some false) : PySem.W.kitAny K t [x, y] = some false := by
  unfold PySem.W.kitAny
  rw [h1]
  dsimp only
  unfold PySem.W.kitAny
  rw [h2]
  rfl
def tyNames : List String := ["NoneType", "bool", "int", "str", "list", "tuple"]
theorem isOk_one {G : Gx} {c : Nat} (hc : Cls K (G.CA c)) (h1 : PySem.W.findIn K (.ref (G.CA c)) "__class__" = some (some (.builtin "object.__class__"))) (h2 : PySem.W.mroIn K (G.CA c) (.type "object") = some true)
    (d1 : PySem.W.specialIn K (.builtin "object.__class__") "__get__" = some (some (.builtin "getset_descriptor.__get__"))) (d2 : PySem.W.takesIn K (.builtin "object.__class__") = some true)
    (ic : PySem.W.isClsIn K (G.CA c) = true) (tc : PySem.W.typeIn K (.ref (G.CA c)) = some (.type "type")) (ss : PySem.W.subIn K (.ref (G.CA c)) (.ref (G.CA c)) = some true)
    (f : ∀ n ∈ tyNames, PySem.W.subIn K (.ref (G.CA c)) (.type n) = some false ∧ PySem.W.subIn K (.type n) (.ref (G.CA c)) = some false) : IsOk G K [c] where
  obj := fun x hx => by
    obtain rfl : x = c := by simpa using hx
    exact ⟨hc, h1, h2⟩
  dsc := ⟨d1, d2⟩
  own := fun t u ht hu h => by
    have nm : ∀ n ∈ tyNames, PySem.W.kitMeta n = true := by decide +kernel
    have l : ∀ n ∈ tyNames, PySem.W.kitOne K (.ref (G.CA c)) (.type n) = some false := fun n hn => kit_bt (nm n hn) (f n hn).1
    have r : ∀ n ∈ tyNames, PySem.W.kitOne K (.type n) (.ref (G.CA c)) = some false := fun n hn => kit_own ic tc ss (f n hn).2
    have s : PySem.W.kitOne K (.ref (G.CA c)) (.ref (G.CA c)) = some true := kit_own ic tc ss ss
    have tt : ∀ x, t = .own x → x = c := fun x e => by simpa using ht x e
    have uu : ∀ x, u = .own x → x = c := fun x e => by simpa using hu x e
    cases t <;> cases u <;> first
      | (have e1 := tt _ rfl; have e2 := uu _ rfl; subst e1; subst e2; exact s.trans (by simp [isT]))
      | (obtain rfl := tt _ rfl; exact l _ (by decide))
      | (obtain rfl := uu _ rfl; exact r _ (by decide))
      | (obtain ⟨x, h | h⟩ := h <;> cases h)
theorem refsVE_own {c : Addr} {r : List Value} (h : PySem.HandSPX.refsVE r = true) : PySem.HandSPX.refsVE (.ref c :: r) = true := h
end

/-! ## an exception's __init__: B.__init__(self, m); self.fl = x -/
theorem spX1_ok {P : Program} {w : World} {K : PySem.W.Frag} {mg : Str → Option Value} {base : Heap} {C : Addr} {qual fl m : Str} {st : Stmt} {ps N : List Str} {fa : Addr} {fd : FuncData} (Ff : Fun K "__init__" qual st fa fd) (Sc : FnScope N ps (defScope st)) (hp : ps.length = 2) (hN : 2 ≤ N.length) (ho : OexC K C) (hno : PySem.W.findIn K (.ref C) fl = some none)
    (hb : ∀ (cdv : Value) (A : Around) (outer : List PySem.Env) (s : Shared) (H : Hp) (E : XK), PSs (cxOf (L2N.CX P w) P w K mg base N qual (defScope st) fa cdv A outer s H E) (defBody st) (tSeq (tDrop (tVeI K (tCons (tVar 0) (tCons (tC (.str m)) tNil)))) (tOst K fl (tVar 0) (tVar 1)))) :
    FnOk P w K mg base (L2N.CX P w) 1 fa fd ps (spX1 C fl) := by
  obtain ⟨oc, od, kV, doc, pm, an, cdv, ct, osl, rfl, lk, hcd⟩ := Ff.ex
  refine fn_of lk hcd Sc (fun vs H Q E h => by obtain ⟨_, _, rfl, _⟩ := h; exact hp.symm) fun A outer s H vs Q E hr h => ⟨_, hb cdv A outer s H E, ?_⟩
  obtain ⟨a, y, rfl, ha, k⟩ := h
  have h0 : (L2.start N [V.ref a, y])[0]? = some (some (V.ref a)) := by unfold L2.start; simp
  have h1 : (L2.start N [V.ref a, y])[1]? = some (some y) := by unfold L2.start; simp
  exact ⟨.ref a, h0, a, C, [.str m], rfl, Nat.le_of_ble_eq_true rfl, ho, ha, y, h1, .ref a, h0, a, C, rfl, ho, hno, .inl ⟨ha, k⟩⟩

/-! ## the law's own promise -/
def spLaw (K : PySem.W.Frag) : Sp := fun vs H Q _ => ∃ (a : Addr) (ns : List Int), vs = [.ref a] ∧ SqL K H a (ns.map V.int) ∧ ns.length ≤ 63 ∧ ∀ v H', v = .bl true → Q v H'
theorem spLaw_imp {G : Gx} {f : DF} (h : ∀ ns : List Int, ns.length ≤ 63 → ∃ S', f [.scr (ns.map .int)] [] = .ok (.bl true) S') : ∀ vs H Q E, spLaw G.K vs H Q E → spD G 1 f vs H Q E := fun vs H Q E ⟨a, ns, e, hs, hl, k⟩ => by
  subst e
  obtain ⟨S', hf⟩ := h ns hl
  refine ⟨rfl, [.scr (ns.map .int)], [], [], H, fun _ => none, ⟨fun _ _ h => h, fun _ _ h => (nomatch h), fun _ _ h => (nomatch h), rfl, List.nodup_nil, fun _ h => (nomatch h), fun _ _ _ h => (by simp at h), fun _ _ => rfl, fun _ _ _ h => (by simp at h)⟩, ?_, ?_⟩
  · refine .cons (.scr hs ?_) .nil
    clear hs hf hl
    induction ns with
    | nil => exact .nil
    | cons n r ih => exact .cons .int ih
  · rw [hf]
    exact fun v H' η' T' _ _ r => by cases r; exact k _ _ rfl
end Tok
namespace K50
open PySem L2 Tok
def top (i : Nat) : Stmt := PySem.Challenge.pw_tokenreads_k50_texts_of_books.main.body.getD i (.Pass ⟨0, 0, 0, 0⟩)
abbrev OWN : List Nat := [5]
def c_READ : D := (.str "read")
def c_WRITE : D := (.str "write")
def c_HAND : D := (.str "hand")
def c_LEADS : D := (.str "leads")
def c_FOLLOWS : D := (.str "follows")
def c_ANY : D := (.str "any")
def c_TERMED_MARKS : D := (.str "termed")
def c_BARE_MARKS : D := (.str "bare")
def c_FOR_ALL : D := (.str "all")
def c_BY_KEY : D := (.str "key")
def c_ANSWER : D := (.str "answer")
def c_FROM_SAFE : D := (.str "safe")
def c_ASK : D := (.str "ask")
def c_WAIT : D := (.str "wait")
def c_TELL : D := (.str "tell")
def c_TAKE : D := (.str "take")
def c_SURE : D := (.str "sure")
def c_JOIN : D := (.str "join")
def c_PUT : D := (.str "put")
def c_DROP : D := (.str "drop")
def c_NOTHING : D := (.str "nothing")
def c_RAISE_SEEN : D := (.str "raise seen")
def c_RAISE_END : D := (.str "raise end")
def c_PUT_SEEN : D := (.str "put seen")
def c_PUT_END : D := (.str "put end")
def c_RAISE : D := (.str "raise")
def c_MOST_ROWS : D := (.int 40)
def c_FORMS : D := (.tup [c_TERMED_MARKS, c_BARE_MARKS])
def c_SCOPES : D := (.tup [c_FOR_ALL, c_BY_KEY])
def c_DEED_WORDS : D := (.tup [c_READ, c_WRITE, c_HAND])
def c_AT_SERVERS : D := (.tup [(.str "none"), (.str "safe"), (.str "held"), (.str "behind"), (.str "lost")])
def c_BETWEEN_MARKS : D := (.tup [(.str "none"), (.str "first"), (.str "same"), (.str "elder"), (.str "newer")])
def c_READ_ACTIONS : D := (.tup [c_ANSWER, c_FROM_SAFE, c_ASK, c_WAIT, c_TELL])
def c_READ_KEEPS : D := (.tup [c_NOTHING, c_RAISE_SEEN, c_RAISE_END, c_PUT_SEEN, c_PUT_END])
def c_WRITE_ACTIONS : D := (.tup [c_TAKE, c_SURE, c_WAIT, c_TELL])
def c_WRITE_KEEPS : D := (.tup [c_NOTHING, c_RAISE, c_PUT])
def c_HAND_ACTIONS : D := (.tup [c_JOIN, c_PUT, c_DROP, c_WAIT, c_TELL])
abbrev s_f_law_agree : Stmt := top 69
def N_f_law_agree : List Str := ["found", "due", "k"]
theorem sc_f_law_agree : FnScope N_f_law_agree ["found", "due"] (defScope s_f_law_agree) := ⟨rfl, rfl, rfl, by decide +kernel, rfl, by decide +kernel, by decide +kernel⟩
abbrev s_f_is_word_of : Stmt := top 45
def N_f_is_word_of : List Str := ["words", "thing"]
theorem sc_f_is_word_of : FnScope N_f_is_word_of ["words", "thing"] (defScope s_f_is_word_of) := ⟨rfl, rfl, rfl, by decide +kernel, rfl, by decide +kernel, by decide +kernel⟩
abbrev s_f_actions_of : Stmt := top 49
def N_f_actions_of : List Str := ["deed"]
theorem sc_f_actions_of : FnScope N_f_actions_of ["deed"] (defScope s_f_actions_of) := ⟨rfl, rfl, rfl, by decide +kernel, rfl, by decide +kernel, by decide +kernel⟩
abbrev s_f_keeps_of : Stmt := top 50
def N_f_keeps_of : List Str := ["deed"]
theorem sc_f_keeps_of : FnScope N_f_keeps_of ["deed"] (defScope s_f_keeps_of) := ⟨rfl, rfl, rfl, by decide +kernel, rfl, by decide +kernel, by decide +kernel⟩
abbrev s_f_roles_of : Stmt := top 46
def N_f_roles_of : List Str := ["deed"]
theorem sc_f_roles_of : FnScope N_f_roles_of ["deed"] (defScope s_f_roles_of) := ⟨rfl, rfl, rfl, by decide +kernel, rfl, by decide +kernel, by decide +kernel⟩
abbrev s_f_relations_of : Stmt := top 47
def N_f_relations_of : List Str := ["deed"]
theorem sc_f_relations_of : FnScope N_f_relations_of ["deed"] (defScope s_f_relations_of) := ⟨rfl, rfl, rfl, by decide +kernel, rfl, by decide +kernel, by decide +kernel⟩
abbrev s_f_is_book_row : Stmt := top 51
def N_f_is_book_row : List Str := ["thing", "deed", "role", "relation_word", "action", "keep"]
theorem sc_f_is_book_row : FnScope N_f_is_book_row ["thing"] (defScope s_f_is_book_row) := ⟨rfl, rfl, rfl, by decide +kernel, rfl, by decide +kernel, by decide +kernel⟩
abbrev s_f_check_form : Stmt := top 57
def N_f_check_form : List Str := ["marks", "scope"]
theorem sc_f_check_form : FnScope N_f_check_form ["marks", "scope"] (defScope s_f_check_form) := ⟨rfl, rfl, rfl, by decide +kernel, rfl, by decide +kernel, by decide +kernel⟩
abbrev s_M_Book_init_ : Stmt := inClass (top 58) 0
def N_M_Book_init_ : List Str := ["self", "marks", "scope", "rows", "row"]
theorem sc_M_Book_init_ : FnScope N_M_Book_init_ ["self", "marks", "scope", "rows"] (defScope s_M_Book_init_) := ⟨rfl, rfl, rfl, by decide +kernel, rfl, by decide +kernel, by decide +kernel⟩
abbrev s_M_BadText_init_ : Stmt := inClass (top 6) 0
def N_M_BadText_init_ : List Str := ["self", "at"]
theorem sc_M_BadText_init_ : FnScope N_M_BadText_init_ ["self", "at"] (defScope s_M_BadText_init_) := ⟨rfl, rfl, rfl, by decide +kernel, rfl, by decide +kernel, by decide +kernel⟩
abbrev s_f_book_row_in : Stmt := top 63
def N_f_book_row_in : List Str := ["line", "words", "row"]
theorem sc_f_book_row_in : FnScope N_f_book_row_in ["line"] (defScope s_f_book_row_in) := ⟨rfl, rfl, rfl, by decide +kernel, rfl, by decide +kernel, by decide +kernel⟩
abbrev s_f_check_text : Stmt := top 64
def N_f_check_text : List Str := ["thing"]
theorem sc_f_check_text : FnScope N_f_check_text ["thing"] (defScope s_f_check_text) := ⟨rfl, rfl, rfl, by decide +kernel, rfl, by decide +kernel, by decide +kernel⟩
abbrev s_f_read_book : Stmt := top 65
def N_f_read_book : List Str := ["text", "first", "others", "words", "rows", "line", "index", "row"]
theorem sc_f_read_book : FnScope N_f_read_book ["text"] (defScope s_f_read_book) := ⟨rfl, rfl, rfl, by decide +kernel, rfl, by decide +kernel, by decide +kernel⟩
abbrev s_f_law_said : Stmt := top 77
def N_f_law_said : List Str := ["way", "thing", "found", "fault", "good", "e"]
theorem sc_f_law_said : FnScope N_f_law_said ["way", "thing"] (defScope s_f_law_said) := ⟨rfl, rfl, rfl, by decide +kernel, rfl, by decide +kernel, by decide +kernel⟩
abbrev s_f_law_book_words : Stmt := top 70
def N_f_law_book_words : List Str := ["deed", "five", "keeps_here", "between"]
theorem sc_f_law_book_words : FnScope N_f_law_book_words ["deed"] (defScope s_f_law_book_words) := ⟨rfl, rfl, rfl, by decide +kernel, rfl, by decide +kernel, by decide +kernel⟩
abbrev s_f_law_line_row : Stmt := top 75
def N_f_law_line_row : List Str := ["line_here", "words", "row", "lots", "bad", "k"]
theorem sc_f_law_line_row : FnScope N_f_law_line_row ["line_here"] (defScope s_f_law_line_row) := ⟨rfl, rfl, rfl, by decide +kernel, rfl, by decide +kernel, by decide +kernel⟩
abbrev s_f_law_read : Stmt := top 76
def N_f_law_read : List Str := ["text_here", "lines_here", "words", "rows_here", "line_here", "bad", "k"]
theorem sc_f_law_read : FnScope N_f_law_read ["text_here"] (defScope s_f_law_read) := ⟨rfl, rfl, rfl, by decide +kernel, rfl, by decide +kernel, by decide +kernel⟩
abbrev s_f_law_read_right : Stmt := top 79
def N_f_law_read_right : List Str := ["thing", "due", "way", "heard", "row"]
theorem sc_f_law_read_right : FnScope N_f_law_read_right ["thing"] (defScope s_f_law_read_right) := ⟨rfl, rfl, rfl, by decide +kernel, rfl, by decide +kernel, by decide +kernel⟩
abbrev s_f_book_row_line : Stmt := top 61
def N_f_book_row_line : List Str := ["row", "keep"]
theorem sc_f_book_row_line : FnScope N_f_book_row_line ["row"] (defScope s_f_book_row_line) := ⟨rfl, rfl, rfl, by decide +kernel, rfl, by decide +kernel, by decide +kernel⟩
abbrev s_f_check_book : Stmt := top 59
def N_f_check_book : List Str := ["thing"]
theorem sc_f_check_book : FnScope N_f_check_book ["thing"] (defScope s_f_check_book) := ⟨rfl, rfl, rfl, by decide +kernel, rfl, by decide +kernel, by decide +kernel⟩
abbrev s_f_show_book : Stmt := top 62
def N_f_show_book : List Str := ["book", "rows", "row"]
theorem sc_f_show_book : FnScope N_f_show_book ["book"] (defScope s_f_show_book) := ⟨rfl, rfl, rfl, by decide +kernel, rfl, by decide +kernel, by decide +kernel⟩
abbrev s_f_law_no_book_right : Stmt := top 80
def N_f_law_no_book_right : List Str := ["found", "thing", "e"]
theorem sc_f_law_no_book_right : FnScope N_f_law_no_book_right [] (defScope s_f_law_no_book_right) := ⟨rfl, rfl, rfl, by decide +kernel, rfl, by decide +kernel, by decide +kernel⟩
abbrev s_f_law_tap : Stmt := top 68
def N_f_law_tap : List Str := ["cask", "span", "digit", "must"]
theorem sc_f_law_tap : FnScope N_f_law_tap ["cask", "span"] (defScope s_f_law_tap) := ⟨rfl, rfl, rfl, by decide +kernel, rfl, by decide +kernel, by decide +kernel⟩
abbrev s_f_law_row_line : Stmt := top 74
def N_f_law_row_line : List Str := ["row"]
theorem sc_f_law_row_line : FnScope N_f_law_row_line ["row"] (defScope s_f_law_row_line) := ⟨rfl, rfl, rfl, by decide +kernel, rfl, by decide +kernel, by decide +kernel⟩
abbrev s_f_law_any_row : Stmt := top 71
def N_f_law_any_row : List Str := ["cask", "deed", "words", "found", "k", "choice"]
theorem sc_f_law_any_row : FnScope N_f_law_any_row ["cask"] (defScope s_f_law_any_row) := ⟨rfl, rfl, rfl, by decide +kernel, rfl, by decide +kernel, by decide +kernel⟩
abbrev s_f_law_bent_text : Stmt := top 78
def N_f_law_bent_text : List Str := ["cask", "text_here", "lines_here", "k", "way", "line_here", "j", "sign", "some", "new", "turn"]
theorem sc_f_law_bent_text : FnScope N_f_law_bent_text ["cask", "text_here"] (defScope s_f_law_bent_text) := ⟨rfl, rfl, rfl, by decide +kernel, rfl, by decide +kernel, by decide +kernel⟩
abbrev s_f_cases : Stmt := top 48
def N_f_cases : List Str := ["found", "deed", "role", "relation_word"]
theorem sc_f_cases : FnScope N_f_cases [] (defScope s_f_cases) := ⟨rfl, rfl, rfl, by decide +kernel, rfl, by decide +kernel, by decide +kernel⟩
abbrev s_f_is_for : Stmt := top 54
def N_f_is_for : List Str := ["row", "case"]
theorem sc_f_is_for : FnScope N_f_is_for ["row", "case"] (defScope s_f_is_for) := ⟨rfl, rfl, rfl, by decide +kernel, rfl, by decide +kernel, by decide +kernel⟩
abbrev s_f_told_for : Stmt := top 55
def N_f_told_for : List Str := ["rows", "case", "row"]
theorem sc_f_told_for : FnScope N_f_told_for ["rows", "case"] (defScope s_f_told_for) := ⟨rfl, rfl, rfl, by decide +kernel, rfl, by decide +kernel, by decide +kernel⟩
abbrev s_f_is_case : Stmt := top 52
def N_f_is_case : List Str := ["thing", "deed", "role", "relation_word"]
theorem sc_f_is_case : FnScope N_f_is_case ["thing"] (defScope s_f_is_case) := ⟨rfl, rfl, rfl, by decide +kernel, rfl, by decide +kernel, by decide +kernel⟩
abbrev s_f_check_case : Stmt := top 53
def N_f_check_case : List Str := ["thing"]
theorem sc_f_check_case : FnScope N_f_check_case ["thing"] (defScope s_f_check_case) := ⟨rfl, rfl, rfl, by decide +kernel, rfl, by decide +kernel, by decide +kernel⟩
abbrev s_M_Book_with_case : Stmt := inClass (top 58) 3
def N_M_Book_with_case : List Str := ["self", "case", "action", "keep", "told", "other", "pair"]
theorem sc_M_Book_with_case : FnScope N_M_Book_with_case ["self", "case", "action", "keep"] (defScope s_M_Book_with_case) := ⟨rfl, rfl, rfl, by decide +kernel, rfl, by decide +kernel, by decide +kernel⟩
abbrev s_M_Book_in_form : Stmt := inClass (top 58) 4
def N_M_Book_in_form : List Str := ["self", "marks", "scope"]
theorem sc_M_Book_in_form : FnScope N_M_Book_in_form ["self", "marks", "scope"] (defScope s_M_Book_in_form) := ⟨rfl, rfl, rfl, by decide +kernel, rfl, by decide +kernel, by decide +kernel⟩
abbrev s_f_law_cases : Stmt := top 72
def N_f_law_cases : List Str := ["found", "deed", "words", "role", "relation_here"]
theorem sc_f_law_cases : FnScope N_f_law_cases [] (defScope s_f_law_cases) := ⟨rfl, rfl, rfl, by decide +kernel, rfl, by decide +kernel, by decide +kernel⟩
abbrev s_f_law_told : Stmt := top 73
def N_f_law_told : List Str := ["book_rows", "case_here", "row"]
theorem sc_f_law_told : FnScope N_f_law_told ["book_rows", "case_here"] (defScope s_f_law_told) := ⟨rfl, rfl, rfl, by decide +kernel, rfl, by decide +kernel, by decide +kernel⟩
abbrev s_f_law_cask : Stmt := top 67
def N_f_law_cask : List Str := ["script", "at", "cell"]
theorem sc_f_law_cask : FnScope N_f_law_cask ["script", "at"] (defScope s_f_law_cask) := ⟨rfl, rfl, rfl, by decide +kernel, rfl, by decide +kernel, by decide +kernel⟩
abbrev s_f_law : Stmt := top 81
def N_f_law : List Str := ["script", "at", "cask", "turn", "rows_here", "k", "form", "book_here", "text_here", "row", "other", "moved", "affair", "pairs", "one", "made", "heard", "trial", "bent", "odd", "thing"]
theorem sc_f_law : FnScope N_f_law ["script"] (defScope s_f_law) := ⟨rfl, rfl, rfl, by decide +kernel, rfl, by decide +kernel, by decide +kernel⟩
def b_f_law_agree (f : DF) : DF := dFn 3 (sSeq (sIf (dOrT (dTest (dOp1 (isiD OWN .bl) (dVar 0))) (dTest (dOp1 (isiD OWN .bl) (dVar 1)))) (sSeq (sRet (dAnd (dOp1 (isiD OWN .bl) (dVar 0)) (dAnd (dOp1 (isiD OWN .bl) (dVar 1)) (dOp2 eqD (dVar 0) (dVar 1))))) sNext) sNext) (sSeq (sIf (dOrT (dTest (dOp2 neD (dOp1 (isiD OWN .lst) (dVar 0)) (dOp1 (isiD OWN .lst) (dVar 1)))) (dTest (dOp2 neD (dOp1 (isiD OWN .tup) (dVar 0)) (dOp1 (isiD OWN .tup) (dVar 1))))) (sSeq (sRet (dC (.bl false))) sNext) sNext) (sSeq (sIf (dOrT (dTest (dOp2 neD (dOp1 (isiD OWN .str) (dVar 0)) (dOp1 (isiD OWN .str) (dVar 1)))) (dTest (dOp2 neD (dOp1 (isiD OWN .int) (dVar 0)) (dOp1 (isiD OWN .int) (dVar 1))))) (sSeq (sRet (dC (.bl false))) sNext) sNext) (sSeq (sIf (dTest (dOp1 (isi2D OWN [.lst, .tup]) (dVar 1))) (sSeq (sIf (dTest (dOp2 neD (dOpN lenD (aCons (dVar 0) aNil)) (dOpN lenD (aCons (dVar 1) aNil)))) (sSeq (sRet (dC (.bl false))) sNext) sNext) (sSeq (sRet (dOp2 eqD (dLc (iRange1 (aCons (dOpN lenD (aCons (dVar 1) aNil)) aNil)) (tgName 2) (dNotT (dTest (dCall f (aCons (dOp2 ixD (dVar 0) (dVar 2)) (aCons (dOp2 ixD (dVar 1) (dVar 2)) aNil))))) (dVar 2) [2]) (dLst aNil))) sNext)) sNext) (sSeq (sRet (dAnd (dOp2 eqD (dOp2 isND (dVar 0) (dC .non)) (dOp2 isND (dVar 1) (dC .non))) (dOp2 eqD (dVar 0) (dVar 1)))) sNext)))))
def f_law_agree : Nat → DF
  | 0 => fun _ _ => .bad
  | n + 1 => b_f_law_agree (f_law_agree n)
def f_is_word_of : DF := dFn 2 (sSeq (sRet (dAnd (dOp1 (isiD OWN .str) (dVar 1)) (dOp2 inD (dVar 1) (dVar 0)))) sNext)
def f_actions_of : DF := dFn 1 (sSeq (sIf (dTest (dOp2 eqD (dVar 0) (dC c_READ))) (sSeq (sRet (dC c_READ_ACTIONS)) sNext) sNext) (sSeq (sRet (dIfE (dTest (dOp2 eqD (dVar 0) (dC c_WRITE))) (dC c_WRITE_ACTIONS) (dC c_HAND_ACTIONS))) sNext))
def f_keeps_of : DF := dFn 1 (sSeq (sIf (dTest (dOp2 eqD (dVar 0) (dC c_READ))) (sSeq (sRet (dC c_READ_KEEPS)) sNext) sNext) (sSeq (sRet (dIfE (dTest (dOp2 eqD (dVar 0) (dC c_WRITE))) (dC c_WRITE_KEEPS) (dTup (aCons (dC c_NOTHING) aNil)))) sNext))
def f_roles_of : DF := dFn 1 (sSeq (sIf (dTest (dOp2 eqD (dVar 0) (dC c_READ))) (sSeq (sRet (dTup (aCons (dC c_LEADS) (aCons (dC c_FOLLOWS) aNil)))) sNext) sNext) (sSeq (sRet (dIfE (dTest (dOp2 eqD (dVar 0) (dC c_WRITE))) (dTup (aCons (dC c_LEADS) aNil)) (dTup (aCons (dC c_ANY) aNil)))) sNext))
def f_relations_of : DF := dFn 1 (sSeq (sRet (dIfE (dTest (dOp2 eqD (dVar 0) (dC c_HAND))) (dC c_BETWEEN_MARKS) (dC c_AT_SERVERS))) sNext)
def f_is_book_row : DF := dFn 6 (sSeq (sIf (dOrT (dNotT (dTest (dOp1 (isiD OWN .tup) (dVar 0)))) (dOrT (dTest (dOp2 neD (dOpN lenD (aCons (dVar 0) aNil)) (dC (.int 5)))) (dNotT (dTest (dCall f_is_word_of (aCons (dC c_DEED_WORDS) (aCons (dOp2 ixD (dVar 0) (dC (.int 0))) aNil))))))) (sSeq (sRet (dC (.bl false))) sNext) sNext) (sSeq (sAsg (dVar 0) (tgTup 5 (tgCons (tgName 1) (tgCons (tgName 2) (tgCons (tgName 3) (tgCons (tgName 4) (tgCons (tgName 5) tgNil))))))) (sSeq (sIf (dOrT (dNotT (dTest (dCall f_is_word_of (aCons (dTup (aStar (dCall f_roles_of (aCons (dVar 1) aNil)) (aCons (dC c_ANY) aNil))) (aCons (dVar 2) aNil))))) (dNotT (dTest (dCall f_is_word_of (aCons (dTup (aStar (dCall f_relations_of (aCons (dVar 1) aNil)) (aCons (dC c_ANY) aNil))) (aCons (dVar 3) aNil)))))) (sSeq (sRet (dC (.bl false))) sNext) sNext) (sSeq (sRet (dAnd (dCall f_is_word_of (aCons (dCall f_actions_of (aCons (dVar 1) aNil)) (aCons (dVar 4) aNil))) (dCall f_is_word_of (aCons (dCall f_keeps_of (aCons (dVar 1) aNil)) (aCons (dVar 5) aNil))))) sNext))))
def f_check_form : DF := dFn 2 (sSeq (sIf (dOrT (dNotT (dTest (dCall f_is_word_of (aCons (dC c_FORMS) (aCons (dVar 0) aNil))))) (dNotT (dTest (dCall f_is_word_of (aCons (dC c_SCOPES) (aCons (dVar 1) aNil)))))) (sSeq (sRaise 2) sNext) sNext) sNext)
def M_Book_init_ : DF := dFn 5 (sSeq (sDrop (dCall f_check_form (aCons (dVar 1) (aCons (dVar 2) aNil)))) (sSeq (sIf (dOrT (dNotT (dTest (dOp1 (isiD OWN .lst) (dVar 3)))) (dOrT (dTest (dOp2 gtD (dOpN lenD (aCons (dVar 3) aNil)) (dC c_MOST_ROWS))) (dNotT (dTest (dOpN allD (aCons (dLc (iAny (dVar 3)) (tgName 4) tYesD (dCall f_is_book_row (aCons (dVar 4) aNil)) [4]) aNil)))))) (sSeq (sRaise 2) sNext) sNext) (sSeq (sSetF 5 ("marks" : Str) (dVar 1) (dVar 0)) (sSeq (sSetF 5 ("scope" : Str) (dVar 2) (dVar 0)) (sSeq (sSetF 5 ("kept_rows" : Str) (dOpN tupleD (aCons (dVar 3) aNil)) (dVar 0)) sNext)))))
def f_book_row_in : DF := dFn 3 (sSeq (sAsg (dStrM splitD (dVar 0) (aCons (dC (.str " ")) aNil)) (tgName 1)) (sSeq (sIf (dTest (dOp2 neD (dOpN lenD (aCons (dVar 1) aNil)) (dC (.int 5)))) (sSeq (sRet (dC .non)) sNext) sNext) (sSeq (sAsg (dTup (aCons (dOp2 ixD (dVar 1) (dC (.int 0))) (aCons (dOp2 ixD (dVar 1) (dC (.int 1))) (aCons (dOp2 ixD (dVar 1) (dC (.int 2))) (aCons (dOp2 ixD (dVar 1) (dC (.int 3))) (aCons (dStrM joinD (dC (.str " ")) (aCons (dStrM splitD (dOp2 ixD (dVar 1) (dC (.int 4))) (aCons (dC (.str "-")) aNil)) aNil)) aNil)))))) (tgName 2)) (sSeq (sRet (dIfE (dTest (dCall f_is_book_row (aCons (dVar 2) aNil))) (dVar 2) (dC .non))) sNext))))
def f_check_text : DF := dFn 1 (sSeq (sIf (dNotT (dTest (dOp1 (isiD OWN .str) (dVar 0)))) (sSeq (sRaise1 4 ("at" : Str) (dC (.int 0))) sNext) sNext) sNext)
def f_read_book : DF := dFn 8 (sSeq (sDrop (dCall f_check_text (aCons (dVar 0) aNil))) (sSeq (sAsg (dStrM splitD (dVar 0) (aCons (dC (.str "\n")) aNil)) (tgStar (tgName 1) (tgName 2))) (sSeq (sAsg (dStrM splitD (dVar 1) (aCons (dC (.str " ")) aNil)) (tgName 3)) (sSeq (sIf (dOrT (dTest (dOp2 neD (dOpN lenD (aCons (dVar 3) aNil)) (dC (.int 2)))) (dOrT (dNotT (dTest (dCall f_is_word_of (aCons (dC c_FORMS) (aCons (dOp2 ixD (dVar 3) (dC (.int 0))) aNil))))) (dNotT (dTest (dCall f_is_word_of (aCons (dC c_SCOPES) (aCons (dOp2 ixD (dVar 3) (dC (.int 1))) aNil))))))) (sSeq (sRaise1 4 ("at" : Str) (dC (.int 0))) sNext) sNext) (sSeq (sAsg (dLc (iAny (dVar 2)) (tgName 5) tYesD (dCall f_book_row_in (aCons (dVar 5) aNil)) [5]) (tgName 4)) (sSeq (sFor (iEnumD (aCons (dVar 4) aNil)) (tgTup 2 (tgCons (tgName 6) (tgCons (tgName 7) tgNil))) (sSeq (sIf (dOrT (dTest (dOp2 isND (dVar 7) (dC .non))) (dTest (dOp2 geD (dVar 6) (dC c_MOST_ROWS)))) (sSeq (sRaise1 4 ("at" : Str) (dOp2 addD (dVar 6) (dC (.int 1)))) sNext) sNext) sNext)) (sSeq (sRet (dMake 5 M_Book_init_ (aCons (dOp2 ixD (dVar 3) (dC (.int 0))) (aCons (dOp2 ixD (dVar 3) (dC (.int 1))) (aCons (dVar 4) aNil))))) sNext)))))))
def f_law_said : DF := dFn 6 (sSeq (sAsg (dTup (aCons (dC .non) (aCons (dC .non) (aCons (dC (.bl true)) aNil)))) (tgTup 3 (tgCons (tgName 2) (tgCons (tgName 3) (tgCons (tgName 4) tgNil))))) (sSeq (sTryAt 5 2 3 4 4 ("at" : Str) (dIfE (dTest (dOp2 eqD (dVar 0) (dC (.int 0)))) (dCall f_read_book (aCons (dVar 1) aNil)) (dCall f_read_book (aCons (dVar 1) aNil)))) (sSeq (sRet (dIfE (dNotT (dTest (dVar 4))) (dC (.str "odd")) (dIfE (dTest (dOp2 isND (dVar 3) (dC .non))) (dVar 2) (dVar 3)))) sNext)))
def f_law_book_words : DF := dFn 4 (sSeq (sAsg (dTup (aCons (dC (.str "none")) (aCons (dC (.str "safe")) (aCons (dC (.str "held")) (aCons (dC (.str "behind")) (aCons (dC (.str "lost")) aNil)))))) (tgName 1)) (sSeq (sIf (dTest (dOp2 eqD (dVar 0) (dC (.str "read")))) (sSeq (sAsg (dTup (aCons (dC (.str "nothing")) (aCons (dC (.str "raise seen")) (aCons (dC (.str "raise end")) (aCons (dC (.str "put seen")) (aCons (dC (.str "put end")) aNil)))))) (tgName 2)) (sSeq (sRet (dTup (aCons (dTup (aCons (dC (.str "leads")) (aCons (dC (.str "follows")) aNil))) (aCons (dVar 1) (aCons (dTup (aCons (dC (.str "answer")) (aCons (dC (.str "safe")) (aCons (dC (.str "ask")) (aCons (dC (.str "wait")) (aCons (dC (.str "tell")) aNil)))))) (aCons (dVar 2) aNil)))))) sNext)) sNext) (sSeq (sIf (dTest (dOp2 eqD (dVar 0) (dC (.str "write")))) (sSeq (sRet (dTup (aCons (dTup (aCons (dC (.str "leads")) aNil)) (aCons (dVar 1) (aCons (dTup (aCons (dC (.str "take")) (aCons (dC (.str "sure")) (aCons (dC (.str "wait")) (aCons (dC (.str "tell")) aNil))))) (aCons (dTup (aCons (dC (.str "nothing")) (aCons (dC (.str "raise")) (aCons (dC (.str "put")) aNil)))) aNil)))))) sNext) sNext) (sSeq (sAsg (dTup (aCons (dC (.str "none")) (aCons (dC (.str "first")) (aCons (dC (.str "same")) (aCons (dC (.str "elder")) (aCons (dC (.str "newer")) aNil)))))) (tgName 3)) (sSeq (sRet (dTup (aCons (dTup (aCons (dC (.str "any")) aNil)) (aCons (dVar 3) (aCons (dTup (aCons (dC (.str "join")) (aCons (dC (.str "put")) (aCons (dC (.str "drop")) (aCons (dC (.str "wait")) (aCons (dC (.str "tell")) aNil)))))) (aCons (dTup (aCons (dC (.str "nothing")) aNil)) aNil)))))) sNext)))))
def f_law_line_row : DF := dFn 6 (sSeq (sAsg (dStrM splitD (dVar 0) (aCons (dC (.str " ")) aNil)) (tgName 1)) (sSeq (sIf (dOrT (dTest (dOp2 neD (dOpN lenD (aCons (dVar 1) aNil)) (dC (.int 5)))) (dTest (dOp2 notInD (dOp2 ixD (dVar 1) (dC (.int 0))) (dTup (aCons (dC (.str "read")) (aCons (dC (.str "write")) (aCons (dC (.str "hand")) aNil))))))) (sSeq (sRet (dC .non)) sNext) sNext) (sSeq (sAsg (dTup (aCons (dOp2 addD (dSl (dVar 1) oNone (oSome (dC (.int 4)))) (dLst (aCons (dOp1 (replD ("-" : Str) (" " : Str)) (dOp2 ixD (dVar 1) (dC (.int 4)))) aNil))) (aCons (dCall f_law_book_words (aCons (dOp2 ixD (dVar 1) (dC (.int 0))) aNil)) aNil))) (tgTup 2 (tgCons (tgName 2) (tgCons (tgName 3) tgNil)))) (sSeq (sAsg (dLc (iRange1 (aCons (dC (.int 4)) aNil)) (tgName 5) (dAndT (dTest (dOp2 notInD (dOp2 ixD (dVar 2) (dOp2 addD (dVar 5) (dC (.int 1)))) (dOp2 ixD (dVar 3) (dVar 5)))) (dNotT (dAndT (dTest (dOp2 ltD (dVar 5) (dC (.int 2)))) (dTest (dOp2 eqD (dOp2 ixD (dVar 2) (dOp2 addD (dVar 5) (dC (.int 1)))) (dC (.str "any"))))))) (dVar 5) [5]) (tgName 4)) (sSeq (sRet (dIfE (dTest (dOp2 eqD (dVar 4) (dLst aNil))) (dOpN tupleD (aCons (dVar 2) aNil)) (dC .non))) sNext)))))
def f_law_read : DF := dFn 7 (sSeq (sIf (dNotT (dTest (dOp1 (isiD OWN .str) (dVar 0)))) (sSeq (sRet (dC (.int 0))) sNext) sNext) (sSeq (sAsg (dStrM splitD (dVar 0) (aCons (dC (.str "\n")) aNil)) (tgName 1)) (sSeq (sAsg (dStrM splitD (dOp2 ixD (dVar 1) (dC (.int 0))) (aCons (dC (.str " ")) aNil)) (tgName 2)) (sSeq (sIf (dOrT (dTest (dOp2 neD (dOpN lenD (aCons (dVar 2) aNil)) (dC (.int 2)))) (dOrT (dTest (dOp2 notInD (dOp2 ixD (dVar 2) (dC (.int 0))) (dTup (aCons (dC (.str "termed")) (aCons (dC (.str "bare")) aNil))))) (dTest (dOp2 notInD (dOp2 ixD (dVar 2) (dC (.int 1))) (dTup (aCons (dC (.str "all")) (aCons (dC (.str "key")) aNil))))))) (sSeq (sRet (dC (.int 0))) sNext) sNext) (sSeq (sAsg (dLc (iAny (dSl (dVar 1) (oSome (dC (.int 1))) oNone)) (tgName 4) tYesD (dCall f_law_line_row (aCons (dVar 4) aNil)) [4]) (tgName 3)) (sSeq (sAsg (dLc (iRange1 (aCons (dOpN lenD (aCons (dVar 3) aNil)) aNil)) (tgName 6) (dOrT (dTest (dOp2 isND (dOp2 ixD (dVar 3) (dVar 6)) (dC .non))) (dTest (dOp2 geD (dVar 6) (dC (.int 40))))) (dOp2 addD (dVar 6) (dC (.int 1))) [6]) (tgName 5)) (sSeq (sRet (dIfE (dTest (dOp2 neD (dVar 5) (dLst aNil))) (dOp2 ixD (dVar 5) (dC (.int 0))) (dTup (aCons (dOp2 ixD (dVar 2) (dC (.int 0))) (aCons (dOp2 ixD (dVar 2) (dC (.int 1))) (aCons (dVar 3) aNil)))))) sNext)))))))
def f_law_read_right : DF := dFn 5 (sSeq (sAsg (dCall f_law_read (aCons (dVar 0) aNil)) (tgName 1)) (sSeq (sFor (iAny (dTup (aCons (dC (.int 0)) (aCons (dC (.int 1)) aNil)))) (tgName 2) (sSeq (sAsg (dCall f_law_said (aCons (dVar 2) (aCons (dVar 0) aNil))) (tgName 3)) (sSeq (sIf (dTest (dOp1 (isiD OWN .int) (dVar 1))) (sSeq (sIf (dNotT (dTest (dCall (f_law_agree 6) (aCons (dVar 3) (aCons (dVar 1) aNil))))) (sSeq (sRet (dC (.bl false))) sNext) sNext) sNext) (sSeq (sIf (dNotT (dTest (dOp1 (isiD OWN (.own 5)) (dVar 3)))) (sSeq (sRet (dC (.bl false))) sNext) (sSeq (sIf (dNotT (dTest (dCall (f_law_agree 6) (aCons (dTup (aCons (dOp1 (fldD 5 ("marks" : Str)) (dVar 3)) (aCons (dOp1 (fldD 5 ("scope" : Str)) (dVar 3)) (aCons (dLc (iOwnD 5 ("kept_rows" : Str) (dVar 3)) (tgName 4) tYesD (dVar 4) [4]) aNil)))) (aCons (dVar 1) aNil))))) (sSeq (sRet (dC (.bl false))) sNext) sNext) sNext)) sNext)) sNext))) (sSeq (sRet (dC (.bl true))) sNext)))
def f_book_row_line : DF := dFn 2 (sSeq (sAsg (dStrM joinD (dC (.str "-")) (aCons (dStrM splitD (dOp2 ixD (dVar 0) (dC (.int 4))) (aCons (dC (.str " ")) aNil)) aNil)) (tgName 1)) (sSeq (sRet (dStrM joinD (dC (.str " ")) (aCons (dLst (aStar (dSl (dVar 0) oNone (oSome (dC (.int 4)))) (aCons (dVar 1) aNil))) aNil))) sNext))
def f_check_book : DF := dFn 1 (sSeq (sIf (dNotT (dTest (dOp1 (isiD OWN (.own 5)) (dVar 0)))) (sSeq (sRaise 2) sNext) sNext) sNext)
def f_show_book : DF := dFn 3 (sSeq (sDrop (dCall f_check_book (aCons (dVar 0) aNil))) (sSeq (sAsg (dLc (iAny (dListOwn 5 ("kept_rows" : Str) (dVar 0))) (tgName 2) tYesD (dCall f_book_row_line (aCons (dVar 2) aNil)) [2]) (tgName 1)) (sSeq (sRet (dStrM joinD (dC (.str "\n")) (aCons (dLst (aCons (dJs [(dOp1 fmtD (dOp1 (fldD 5 ("marks" : Str)) (dVar 0))), (dC (.str " ")), (dOp1 fmtD (dOp1 (fldD 5 ("scope" : Str)) (dVar 0)))] Str.empty) (aStar (dVar 1) aNil))) aNil))) sNext)))
def f_law_no_book_right : DF := dFn 3 (sSeq (sAsg (dC (.int 0)) (tgName 0)) (sSeq (sFor (iAny (dTup (aCons (dC .non) (aCons (dC (.str "termed all")) (aCons (dTup (aCons (dC (.str "termed")) (aCons (dC (.str "all")) (aCons (dLst aNil) aNil)))) (aCons (dC (.int 3)) (aCons (dLst aNil) (aCons (dC (.bl true)) aNil)))))))) (tgName 1) (sSeq (sTryNo 2 0 2 (dCall f_show_book (aCons (dVar 1) aNil))) sNext)) (sSeq (sRet (dOp2 eqD (dVar 0) (dC (.int 6)))) sNext)))
def f_law_tap : DF := dFn 4 (sSeq (sIf (dTest (dOp2 gtD (dOp2 ixD (dVar 0) (dC (.int 0))) (dC (.int 0)))) (sSeq (sAsg (dOp2 modD (dOpN intD (aCons (dOp2 ixD (dVar 0) (dC (.int 0))) aNil)) (dVar 1)) (tgName 2)) (sSeq (sSetIx (dOp2 fdivD (dOp2 ixD (dVar 0) (dC (.int 0))) (dVar 1)) (dVar 0) (dC (.int 0))) (sSeq (sRet (dVar 2)) sNext))) sNext) (sSeq (sSetIx (dOp2 addD (dOp2 ixD (dVar 0) (dC (.int 2))) (dC (.int 1))) (dVar 0) (dC (.int 2))) (sSeq (sAsg (dOp2 modD (dOp2 powD (dOpN intD (aCons (dOp2 addD (dOp2 ixD (dVar 0) (dC (.int 1))) (dOp2 mulD (dC (.int 30011)) (dOp2 ixD (dVar 0) (dC (.int 2))))) aNil)) (dC (.int 2))) (dOp2 addD (dOp2 powD (dC (.int 10)) (dC (.int 39))) (dC (.int 3)))) (tgName 3)) (sSeq (sAsg (dOp2 modD (dOp2 powD (dOpN intD (aCons (dOp2 addD (dVar 3) (dOp2 mulD (dC (.int 500009)) (dOp2 ixD (dVar 0) (dC (.int 2))))) aNil)) (dC (.int 3))) (dOp2 addD (dOp2 powD (dC (.int 10)) (dC (.int 40))) (dC (.int 121)))) (tgName 3)) (sSeq (sRet (dOp2 modD (dOp2 fdivD (dVar 3) (dC (.int 131072))) (dVar 1))) sNext)))))
def f_law_row_line : DF := dFn 1 (sSeq (sRet (dStrM joinD (dC (.str " ")) (aCons (dLst (aCons (dOp2 ixD (dVar 0) (dC (.int 0))) (aCons (dOp2 ixD (dVar 0) (dC (.int 1))) (aCons (dOp2 ixD (dVar 0) (dC (.int 2))) (aCons (dOp2 ixD (dVar 0) (dC (.int 3))) (aCons (dOp1 (replD (" " : Str) ("-" : Str)) (dOp2 ixD (dVar 0) (dC (.int 4)))) aNil)))))) aNil))) sNext)
def f_law_any_row : DF := dFn 6 (sSeq (sAsg (dOp2 ixD (dLst (aCons (dC (.str "read")) (aCons (dC (.str "read")) (aCons (dC (.str "write")) (aCons (dC (.str "hand")) aNil))))) (dCall f_law_tap (aCons (dVar 0) (aCons (dC (.int 4)) aNil)))) (tgName 1)) (sSeq (sPar 2 3 (aCons (dCall f_law_book_words (aCons (dVar 1) aNil)) (aCons (dLstS (aCons (dVar 1) aNil)) aNil))) (sSeq (sFor (iRange1 (aCons (dC (.int 4)) aNil)) (tgName 4) (sSeq (sAsg (dOp2 ixD (dVar 2) (dVar 4)) (tgName 5)) (sSeq (sIf (dAndT (dTest (dOp2 ltD (dVar 4) (dC (.int 2)))) (dTest (dOp2 eqD (dCall f_law_tap (aCons (dVar 0) (aCons (dC (.int 3)) aNil))) (dC (.int 0))))) (sSeq (sAsg (dTup (aCons (dC (.str "any")) aNil)) (tgName 5)) sNext) sNext) (sSeq (sDrop (dAppend (dVar 3) (dOp2 ixD (dVar 5) (dCall f_law_tap (aCons (dVar 0) (aCons (dOpN lenD (aCons (dVar 5) aNil)) aNil)))))) sNext)))) (sSeq (sRet (dOpN tupleD (aCons (dVar 3) aNil))) sNext))))
def f_law_bent_text : DF := dFn 11 (sSeq (sAsg (dStrM splitD (dVar 1) (aCons (dC (.str "\n")) aNil)) (tgName 2)) (sSeq (sPar 3 4 (aCons (dCall f_law_tap (aCons (dVar 0) (aCons (dOpN lenD (aCons (dVar 2) aNil)) aNil))) (aCons (dCall f_law_tap (aCons (dVar 0) (aCons (dC (.int 8)) aNil))) aNil))) (sSeq (sAsg (dOp2 ixD (dVar 2) (dVar 3)) (tgName 5)) (sSeq (sAsg (dCall f_law_tap (aCons (dVar 0) (aCons (dOp2 addD (dOpN lenD (aCons (dVar 5) aNil)) (dC (.int 1))) aNil))) (tgName 6)) (sSeq (sAsg (dOp2 ixD (dLst (aCons (dC (.str " ")) (aCons (dC (.str "-")) (aCons (dC (.str "a")) (aCons (dC (.str "x")) (aCons (dC (.str "0")) (aCons (dC (.str "\t")) (aCons (dC (.str "A")) (aCons (dC (.str ",")) aNil))))))))) (dCall f_law_tap (aCons (dVar 0) (aCons (dC (.int 8)) aNil)))) (tgName 7)) (sSeq (sIf (dTest (dOp2 eqD (dVar 4) (dC (.int 0)))) (sSeq (sAsg (dOp2 addD (dOp2 addD (dSl (dVar 5) oNone (oSome (dVar 6))) (dVar 7)) (dSl (dVar 5) (oSome (dVar 6)) oNone)) (tgName 5)) sNext) (sSeq (sIf (dTest (dOp2 eqD (dVar 4) (dC (.int 1)))) (sSeq (sAsg (dOp2 addD (dSl (dVar 5) oNone (oSome (dVar 6))) (dSl (dVar 5) (oSome (dOp2 addD (dVar 6) (dC (.int 1)))) oNone)) (tgName 5)) sNext) (sSeq (sIf (dTest (dOp2 eqD (dVar 4) (dC (.int 2)))) (sSeq (sAsg (dOp2 addD (dOp2 addD (dSl (dVar 5) oNone (oSome (dVar 6))) (dVar 7)) (dSl (dVar 5) (oSome (dOp2 addD (dVar 6) (dC (.int 1)))) oNone)) (tgName 5)) sNext) (sSeq (sIf (dTest (dOp2 eqD (dVar 4) (dC (.int 3)))) (sSeq (sAsg (dLst (aCons (dC (.str "")) (aCons (dC (.str "termed all")) (aCons (dC (.str "bare key")) (aCons (dC (.str "read any any wait nothing")) (aCons (dC (.str "termed")) (aCons (dC (.str "hand any any join raise")) aNil))))))) (tgName 8)) (sSeq (sAsg (dOp2 ixD (dVar 8) (dCall f_law_tap (aCons (dVar 0) (aCons (dC (.int 6)) aNil)))) (tgName 5)) sNext)) sNext) sNext)) sNext)) sNext)) (sSeq (sAsg (dOp2 addD (dOp2 addD (dSl (dVar 2) oNone (oSome (dVar 3))) (dLst (aCons (dVar 5) aNil))) (dSl (dVar 2) (oSome (dOp2 addD (dVar 3) (dC (.int 1)))) oNone)) (tgName 9)) (sSeq (sIf (dTest (dOp2 eqD (dVar 4) (dC (.int 4)))) (sSeq (sAsg (dOp2 addD (dSl (dVar 2) oNone (oSome (dVar 3))) (dSl (dVar 2) (oSome (dOp2 addD (dVar 3) (dC (.int 1)))) oNone)) (tgName 9)) sNext) (sSeq (sIf (dTest (dOp2 eqD (dVar 4) (dC (.int 5)))) (sSeq (sAsg (dOp2 addD (dOp2 addD (dSl (dVar 2) oNone (oSome (dOp2 addD (dVar 3) (dC (.int 1))))) (dLst (aCons (dVar 5) aNil))) (dSl (dVar 2) (oSome (dOp2 addD (dVar 3) (dC (.int 1)))) oNone)) (tgName 9)) sNext) (sSeq (sIf (dTest (dOp2 eqD (dVar 4) (dC (.int 6)))) (sSeq (sAsg (dOp2 addD (dVar 2) (dLst (aCons (dC (.str "")) aNil))) (tgName 9)) sNext) (sSeq (sIf (dTest (dOp2 eqD (dVar 4) (dC (.int 7)))) (sSeq (sAsg (dOp2 addD (dVar 2) (dLc (iRange1 (aCons (dOp2 subD (dC (.int 41)) (dOpN minD (aCons (dC (.int 40)) (aCons (dOpN lenD (aCons (dVar 2) aNil)) aNil)))) aNil)) (tgName 10) tYesD (dCall f_law_row_line (aCons (dCall f_law_any_row (aCons (dVar 0) aNil)) aNil)) [10])) (tgName 9)) sNext) sNext) sNext)) sNext)) sNext)) (sSeq (sRet (dStrM joinD (dC (.str "\n")) (aCons (dVar 9) aNil))) sNext)))))))))
def f_cases : DF := dFn 4 (sSeq (sAsg (dLst aNil) (tgName 0)) (sSeq (sFor (iAny (dC c_DEED_WORDS)) (tgName 1) (sSeq (sFor (iAny (dCall f_roles_of (aCons (dVar 1) aNil))) (tgName 2) (sSeq (sAsg (dLst (aStar (dVar 0) (aStar (dLc (iAny (dCall f_relations_of (aCons (dVar 1) aNil))) (tgName 3) tYesD (dTup (aCons (dVar 1) (aCons (dVar 2) (aCons (dVar 3) aNil)))) [3]) aNil))) (tgName 0)) sNext)) sNext)) (sSeq (sRet (dVar 0)) sNext)))
def f_is_for : DF := dFn 2 (sSeq (sRet (dAnd (dOp2 eqD (dOp2 ixD (dVar 0) (dC (.int 0))) (dOp2 ixD (dVar 1) (dC (.int 0)))) (dAnd (dOp2 inD (dOp2 ixD (dVar 0) (dC (.int 1))) (dTup (aCons (dOp2 ixD (dVar 1) (dC (.int 1))) (aCons (dC c_ANY) aNil)))) (dOp2 inD (dOp2 ixD (dVar 0) (dC (.int 2))) (dTup (aCons (dOp2 ixD (dVar 1) (dC (.int 2))) (aCons (dC c_ANY) aNil))))))) sNext)
def f_told_for : DF := dFn 3 (sSeq (sFor (iAny (dVar 0)) (tgName 2) (sSeq (sIf (dTest (dCall f_is_for (aCons (dVar 2) (aCons (dVar 1) aNil)))) (sSeq (sRet (dTup (aCons (dOp2 ixD (dVar 2) (dC (.int 3))) (aCons (dOp2 ixD (dVar 2) (dC (.int 4))) aNil)))) sNext) sNext) sNext)) (sSeq (sRet (dTup (aCons (dC c_WAIT) (aCons (dC c_NOTHING) aNil)))) sNext))
def f_is_case : DF := dFn 4 (sSeq (sIf (dOrT (dNotT (dTest (dOp1 (isiD OWN .tup) (dVar 0)))) (dOrT (dTest (dOp2 neD (dOpN lenD (aCons (dVar 0) aNil)) (dC (.int 3)))) (dNotT (dTest (dCall f_is_word_of (aCons (dC c_DEED_WORDS) (aCons (dOp2 ixD (dVar 0) (dC (.int 0))) aNil))))))) (sSeq (sRet (dC (.bl false))) sNext) sNext) (sSeq (sAsg (dVar 0) (tgTup 3 (tgCons (tgName 1) (tgCons (tgName 2) (tgCons (tgName 3) tgNil))))) (sSeq (sRet (dAnd (dCall f_is_word_of (aCons (dCall f_roles_of (aCons (dVar 1) aNil)) (aCons (dVar 2) aNil))) (dCall f_is_word_of (aCons (dCall f_relations_of (aCons (dVar 1) aNil)) (aCons (dVar 3) aNil))))) sNext)))
def f_check_case : DF := dFn 1 (sSeq (sIf (dNotT (dTest (dCall f_is_case (aCons (dVar 0) aNil)))) (sSeq (sRaise 1) sNext) sNext) sNext)
def M_Book_with_case : DF := dFn 7 (sSeq (sDrop (dCall f_check_case (aCons (dVar 1) aNil))) (sSeq (sIf (dOrT (dNotT (dTest (dCall f_is_word_of (aCons (dCall f_actions_of (aCons (dOp2 ixD (dVar 1) (dC (.int 0))) aNil)) (aCons (dVar 2) aNil))))) (dNotT (dTest (dCall f_is_word_of (aCons (dCall f_keeps_of (aCons (dOp2 ixD (dVar 1) (dC (.int 0))) aNil)) (aCons (dVar 3) aNil)))))) (sSeq (sRaise 2) sNext) sNext) (sSeq (sAsg (dLc (iAny (dCall f_cases aNil)) (tgName 5) tYesD (dTup (aCons (dVar 5) (aCons (dIfE (dTest (dOp2 eqD (dVar 5) (dVar 1))) (dTup (aCons (dVar 2) (aCons (dVar 3) aNil))) (dCall f_told_for (aCons (dOp1 (fldD 5 ("kept_rows" : Str)) (dVar 0)) (aCons (dVar 5) aNil)))) aNil))) [5]) (tgName 4)) (sSeq (sRet (dMake 5 M_Book_init_ (aCons (dOp1 (fldD 5 ("marks" : Str)) (dVar 0)) (aCons (dOp1 (fldD 5 ("scope" : Str)) (dVar 0)) (aCons (dLc (iAny (dVar 4)) (tgTup 2 (tgCons (tgName 5) (tgCons (tgName 6) tgNil))) tYesD (dTup (aStar (dVar 5) (aCons (dOp2 ixD (dVar 6) (dC (.int 0))) (aCons (dOp2 ixD (dVar 6) (dC (.int 1))) aNil)))) [5, 6]) aNil))))) sNext))))
def M_Book_in_form : DF := dFn 3 (sSeq (sRet (dMake 5 M_Book_init_ (aCons (dVar 1) (aCons (dVar 2) (aCons (dOpN listD (aCons (dOp1 (fldD 5 ("kept_rows" : Str)) (dVar 0)) aNil)) aNil))))) sNext)
def f_law_cases : DF := dFn 5 (sSeq (sAsg (dLst aNil) (tgName 0)) (sSeq (sFor (iAny (dTup (aCons (dC (.str "read")) (aCons (dC (.str "write")) (aCons (dC (.str "hand")) aNil))))) (tgName 1) (sSeq (sAsg (dCall f_law_book_words (aCons (dVar 1) aNil)) (tgName 2)) (sSeq (sFor (iAny (dOp2 ixD (dVar 2) (dC (.int 0)))) (tgName 3) (sSeq (sAsg (dOp2 addD (dVar 0) (dLc (iAny (dOp2 ixD (dVar 2) (dC (.int 1)))) (tgName 4) tYesD (dTup (aCons (dVar 1) (aCons (dVar 3) (aCons (dVar 4) aNil)))) [4])) (tgName 0)) sNext)) sNext))) (sSeq (sRet (dVar 0)) sNext)))
def f_law_told : DF := dFn 3 (sSeq (sFor (iAny (dVar 0)) (tgName 2) (sSeq (sIf (dAndT (dTest (dOp2 eqD (dOp2 ixD (dVar 2) (dC (.int 0))) (dOp2 ixD (dVar 1) (dC (.int 0))))) (dAndT (dTest (dOp2 inD (dOp2 ixD (dVar 2) (dC (.int 1))) (dTup (aCons (dOp2 ixD (dVar 1) (dC (.int 1))) (aCons (dC (.str "any")) aNil))))) (dTest (dOp2 inD (dOp2 ixD (dVar 2) (dC (.int 2))) (dTup (aCons (dOp2 ixD (dVar 1) (dC (.int 2))) (aCons (dC (.str "any")) aNil))))))) (sSeq (sRet (dTup (aCons (dOp2 ixD (dVar 2) (dC (.int 3))) (aCons (dOp2 ixD (dVar 2) (dC (.int 4))) aNil)))) sNext) sNext) sNext)) (sSeq (sRet (dTup (aCons (dC (.str "wait")) (aCons (dC (.str "nothing")) aNil)))) sNext))
def f_law_cask : DF := dFn 3 (sSeq (sAsg (dIfE (dTest (dOp2 ltD (dVar 1) (dOpN lenD (aCons (dVar 0) aNil)))) (dOp2 ixD (dVar 0) (dVar 1)) (dC (.int 0))) (tgName 2)) (sSeq (sRet (dLstS (aCons (dOpN maxD (aCons (dC (.int 0)) (aCons (dOp2 subD (dOpN absD (aCons (dVar 2) aNil)) (dOp2 powD (dC (.int 10)) (dC (.int 18)))) aNil))) (aCons (dOp2 addD (dOp2 addD (dOp2 mulD (dOp2 modD (dOpN intD (aCons (dVar 2) aNil)) (dOp2 addD (dOp2 powD (dC (.int 10)) (dC (.int 38))) (dC (.int 133)))) (dC (.int 59))) (dOp2 mulD (dC (.int 61)) (dVar 1))) (dC (.int 23))) (aCons (dC (.int 0)) aNil))))) sNext))
def f_law : DF := dFn 21 (sSeq (sFor (iRange1 (aCons (dOpN maxD (aCons (dC (.int 1)) (aCons (dOpN minD (aCons (dC (.int 3)) (aCons (dOpN lenD (aCons (dVar 0) aNil)) aNil))) aNil))) aNil)) (tgName 1) (sSeq (sAsg (dCall f_law_cask (aCons (dVar 0) (aCons (dVar 1) aNil))) (tgName 2)) (sSeq (sFor (iRange1 (aCons (dC (.int 4)) aNil)) (tgName 3) (sSeq (sAsg (dLc (iRange1 (aCons (dOp2 ixD (dLst (aCons (dCall f_law_tap (aCons (dVar 2) (aCons (dC (.int 9)) aNil))) (aCons (dC (.int 40)) aNil))) (dOpN intD (aCons (dOp2 eqD (dVar 3) (dC (.int 3))) aNil))) aNil)) (tgName 5) tYesD (dCall f_law_any_row (aCons (dVar 2) aNil)) [5]) (tgName 4)) (sSeq (sAsg (dTup (aCons (dOp2 ixD (dLst (aCons (dC (.str "termed")) (aCons (dC (.str "bare")) aNil))) (dCall f_law_tap (aCons (dVar 2) (aCons (dC (.int 2)) aNil)))) (aCons (dOp2 ixD (dLst (aCons (dC (.str "all")) (aCons (dC (.str "key")) aNil))) (dCall f_law_tap (aCons (dVar 2) (aCons (dC (.int 2)) aNil)))) aNil))) (tgName 6)) (sSeq (sAsg (dMake 5 M_Book_init_ (aCons (dOp2 ixD (dVar 6) (dC (.int 0))) (aCons (dOp2 ixD (dVar 6) (dC (.int 1))) (aCons (dVar 4) aNil)))) (tgName 7)) (sSeq (sAsg (dStrM joinD (dC (.str "\n")) (aCons (dOp2 addD (dLst (aCons (dStrM joinD (dC (.str " ")) (aCons (dVar 6) aNil)) aNil)) (dLc (iAny (dVar 4)) (tgName 9) tYesD (dCall f_law_row_line (aCons (dVar 9) aNil)) [9])) aNil)) (tgName 8)) (sSeq (sIf (dNotT (dTest (dCall (f_law_agree 6) (aCons (dLst (aCons (dCall f_show_book (aCons (dVar 7) aNil)) (aCons (dCall f_show_book (aCons (dVar 7) aNil)) aNil))) (aCons (dLst (aCons (dVar 8) (aCons (dVar 8) aNil))) aNil))))) (sSeq (sRet (dC (.bl false))) sNext) sNext) (sSeq (sIf (dNotT (dTest (dCall f_law_read_right (aCons (dVar 8) aNil)))) (sSeq (sRet (dC (.bl false))) sNext) sNext) (sSeq (sAsg (dTup (aCons (dOp2 ixD (dLst (aCons (dC (.str "termed")) (aCons (dC (.str "bare")) aNil))) (dCall f_law_tap (aCons (dVar 2) (aCons (dC (.int 2)) aNil)))) (aCons (dOp2 ixD (dLst (aCons (dC (.str "all")) (aCons (dC (.str "key")) aNil))) (dCall f_law_tap (aCons (dVar 2) (aCons (dC (.int 2)) aNil)))) aNil))) (tgName 10)) (sSeq (sAsg (dStrM joinD (dC (.str "\n")) (aCons (dOp2 addD (dLst (aCons (dStrM joinD (dC (.str " ")) (aCons (dVar 10) aNil)) aNil)) (dLc (iAny (dVar 4)) (tgName 9) tYesD (dCall f_law_row_line (aCons (dVar 9) aNil)) [9])) aNil)) (tgName 11)) (sSeq (sAsg (dOp2 ixD (dCall f_law_cases aNil) (dCall f_law_tap (aCons (dVar 2) (aCons (dC (.int 20)) aNil)))) (tgName 12)) (sSeq (sAsg (dLc (iAny (dCall f_law_cases aNil)) (tgName 14) tYesD (dOp2 addD (dVar 14) (dCall f_law_told (aCons (dOp2 addD (dLst (aCons (dOp2 addD (dVar 12) (dTup (aCons (dC (.str "wait")) (aCons (dC (.str "nothing")) aNil)))) aNil)) (dVar 4)) (aCons (dVar 14) aNil)))) [14]) (tgName 13)) (sSeq (sAsg (dStrM joinD (dC (.str "\n")) (aCons (dOp2 addD (dLst (aCons (dStrM joinD (dC (.str " ")) (aCons (dVar 6) aNil)) aNil)) (dLc (iAny (dVar 13)) (tgName 9) tYesD (dCall f_law_row_line (aCons (dVar 9) aNil)) [9])) aNil)) (tgName 15)) (sSeq (sAsg (dLstS (aCons (dCall f_show_book (aCons (dMeth 5 ("in_form" : Str) M_Book_in_form (dVar 7) (aCons (dOp2 ixD (dVar 10) (dC (.int 0))) (aCons (dOp2 ixD (dVar 10) (dC (.int 1))) aNil))) aNil)) aNil)) (tgName 16)) (sSeq (sDrop (dAppend (dVar 16) (dCall f_show_book (aCons (dMeth 5 ("with_case" : Str) M_Book_with_case (dVar 7) (aCons (dVar 12) (aCons (dC (.str "wait")) (aCons (dC (.str "nothing")) aNil)))) aNil)))) (sSeq (sIf (dNotT (dTest (dCall (f_law_agree 6) (aCons (dVar 16) (aCons (dLst (aCons (dVar 11) (aCons (dVar 15) aNil))) aNil))))) (sSeq (sRet (dC (.bl false))) sNext) sNext) (sSeq (sFor (iRange1 (aCons (dC (.int 12)) aNil)) (tgName 17) (sSeq (sAsg (dCall f_law_bent_text (aCons (dVar 2) (aCons (dVar 8) aNil))) (tgName 18)) (sSeq (sAsg (dIfE (dTest (dOp2 eqD (dCall f_law_tap (aCons (dVar 2) (aCons (dC (.int 3)) aNil))) (dC (.int 0)))) (dCall f_law_bent_text (aCons (dVar 2) (aCons (dVar 18) aNil))) (dVar 18)) (tgName 18)) (sSeq (sIf (dNotT (dTest (dCall f_law_read_right (aCons (dVar 18) aNil)))) (sSeq (sRet (dC (.bl false))) sNext) sNext) sNext)))) sNext)))))))))))))))) sNext))) (sSeq (sAsg (dLst (aCons (dC .non) (aCons (dC (.int 3)) (aCons (dC (.bl true)) (aCons (dLst aNil) (aCons (dTup (aCons (dC (.str "termed all")) aNil)) (aCons (dC (.str "")) (aCons (dC (.str "\n")) (aCons (dC (.str "termed all\n")) (aCons (dC (.str "termed  all")) (aCons (dC (.str " termed all")) aNil))))))))))) (tgName 19)) (sSeq (sRet (dAnd (dOp2 eqD (dLc (iAny (dVar 19)) (tgName 20) (dNotT (dTest (dCall f_law_read_right (aCons (dVar 20) aNil)))) (dVar 20) [20]) (dLst aNil)) (dCall f_law_no_book_right aNil))) sNext)))
structure Tx (G : Gx) (K : PySem.W.Frag) (mg : Str → Option Value) : Prop where
  b_abs : mg "abs" = none
  b_all : mg "all" = none
  b_bool : mg "bool" = none
  b_enumerate : mg "enumerate" = none
  b_int : mg "int" = none
  b_isinstance : mg "isinstance" = none
  b_len : mg "len" = none
  b_list : mg "list" = none
  b_max : mg "max" = none
  b_min : mg "min" = none
  b_range : mg "range" = none
  b_str : mg "str" = none
  b_tuple : mg "tuple" = none
  c_ANY : GlobC G mg "ANY" c_ANY
  c_AT_SERVERS : GlobC G mg "AT_SERVERS" c_AT_SERVERS
  c_BETWEEN_MARKS : GlobC G mg "BETWEEN_MARKS" c_BETWEEN_MARKS
  c_DEED_WORDS : GlobC G mg "DEED_WORDS" c_DEED_WORDS
  c_FOLLOWS : GlobC G mg "FOLLOWS" c_FOLLOWS
  c_FORMS : GlobC G mg "FORMS" c_FORMS
  c_HAND : GlobC G mg "HAND" c_HAND
  c_HAND_ACTIONS : GlobC G mg "HAND_ACTIONS" c_HAND_ACTIONS
  c_LEADS : GlobC G mg "LEADS" c_LEADS
  c_MOST_ROWS : GlobC G mg "MOST_ROWS" c_MOST_ROWS
  c_NOTHING : GlobC G mg "NOTHING" c_NOTHING
  c_READ : GlobC G mg "READ" c_READ
  c_READ_ACTIONS : GlobC G mg "READ_ACTIONS" c_READ_ACTIONS
  c_READ_KEEPS : GlobC G mg "READ_KEEPS" c_READ_KEEPS
  c_SCOPES : GlobC G mg "SCOPES" c_SCOPES
  c_WAIT : GlobC G mg "WAIT" c_WAIT
  c_WRITE : GlobC G mg "WRITE" c_WRITE
  c_WRITE_ACTIONS : GlobC G mg "WRITE_ACTIONS" c_WRITE_ACTIONS
  c_WRITE_KEEPS : GlobC G mg "WRITE_KEEPS" c_WRITE_KEEPS
  eb_BadBook : PySem.W.subIn K (.ref (G.CA 2)) (.type "BaseException") = some true
  eb_BadCase : PySem.W.subIn K (.ref (G.CA 1)) (.type "BaseException") = some true
  et_BadBook : PySem.W.typeIn K (.ref (G.CA 2)) = some (.type "type")
  et_BadCase : PySem.W.typeIn K (.ref (G.CA 1)) = some (.type "type")
  ex_BadBook : L2.ExcC K (G.CA 2)
  ex_BadText : L2.ExcC K (G.CA 4)
  g_BadBook : mg "BadBook" = some (.ref (G.CA 2))
  g_BadCase : mg "BadCase" = some (.ref (G.CA 1))
  g_BadCommand : mg "BadCommand" = some (.ref (G.CA 3))
  g_BadText : mg "BadText" = some (.ref (G.CA 4))
  g_Book : mg "Book" = some (.ref (G.CA 5))
  g_StoreError : mg "StoreError" = some (.ref (G.CA 0))
  is : IsOk G K OWN
  k_Book : Cls K (G.CA 5)
  ki_BadText_StoreError : PySem.W.kitOne K (.ref (G.CA 4)) (.ref (G.CA 0)) = some true
  kj_BadText_BadBook_BadCommand : PySem.W.kitAny K (.ref (G.CA 4)) [.ref (G.CA 2), .ref (G.CA 3)] = some false
  kn_BadBook_BadText : PySem.W.kitOne K (.ref (G.CA 2)) (.ref (G.CA 4)) = some false
  kp_BadBook : PySem.W.keepIn K (.ref (G.CA 2)) = true
  kp_BadCase : PySem.W.keepIn K (.ref (G.CA 1)) = true
  n_Book_kept_rows : NoAttr K (G.CA 5) "kept_rows"
  n_Book_marks : NoAttr K (G.CA 5) "marks"
  n_Book_scope : NoAttr K (G.CA 5) "scope"
  no_BadText_at : PySem.W.findIn K (.ref (G.CA 4)) "at" = some none
  o_BadText : OexC K (G.CA 4)
  te_BadBook : PySem.W.exmOne K (.ref (G.CA 2)) (.ref (G.CA 2)) = some true
  te_BadText : PySem.W.exmOne K (.ref (G.CA 4)) (.ref (G.CA 4)) = some true
  x_BadBook : PySem.W.excIn K (G.CA 2) [.type "ValueError", .type "Exception", .type "BaseException", .type "object"] "ValueError.__new__" = true
  x_BadCase : PySem.W.excIn K (G.CA 1) [.type "ValueError", .type "Exception", .type "BaseException", .type "object"] "ValueError.__new__" = true
  xf_BadText : XfC K (G.CA 4)
section
variable {P : Program} {w : World} {K : PySem.W.Frag} {mg : Str → Option Value} {base : Heap} {G : Gx}
set_option maxHeartbeats 4000000 in
theorem ok_f_law_agree {fa : Addr} {fd : FuncData} (Ff : Fun K "_law_agree" "_law_agree" s_f_law_agree fa fd) (hK : G.K = K) (T : Tx G K mg) (hm : mg "_law_agree" = some (.ref fa)) (hb : Binds K fd ["found", "due"] [])  : ∀ n, FnOk P w K mg base (L2N.CX P w) n fa fd ["found", "due"] (spD G 2 (f_law_agree n))
  | 0 => ⟨fun vs H Q E h => h.1, fun A outer s H args us vs Q E hr e0 b r h => h.2.elim fun ds h => h.elim fun S h => h.elim fun η h => h.elim fun T h => h.elim fun F h => h.2.2.elim⟩
  | n + 1 => by
    have ih : Fn G P w K mg base "_law_agree" n ["found", "due"] (f_law_agree n) := ⟨fa, fd, ok_f_law_agree Ff hK T hm hb n, hm, Ff.kp, hb⟩
    show FnOk P w K mg base (L2N.CX P w) (n + 1) fa fd ["found", "due"] (spD G 2 (b_f_law_agree (f_law_agree n)))
    exact fn_mk Ff sc_f_law_agree fun cdv A outer s H E hr =>
    (ss_cons (s_if (PW.pt (dw_or (dt_val (d_isi (u := .bl) hK T.is (by decide) (by decide) rfl T.b_isinstance (d_var 0 (pv 0)) (pe_bltn (v := .ty "bool") rfl T.b_bool (by decide +kernel) rfl) (.ty _))) (dw_or1 (dt_val (d_isi (u := .bl) hK T.is (by decide) (by decide) rfl T.b_isinstance (d_var 1 (pv 1)) (pe_bltn (v := .ty "bool") rfl T.b_bool (by decide +kernel) rfl) (.ty _)))))) (ss_cons (s_ret (d_and (d_isi (u := .bl) hK T.is (by decide) (by decide) rfl T.b_isinstance (d_var 0 (pv 0)) (pe_bltn (v := .ty "bool") rfl T.b_bool (by decide +kernel) rfl) (.ty _)) (d_and (d_isi (u := .bl) hK T.is (by decide) (by decide) rfl T.b_isinstance (d_var 1 (pv 1)) (pe_bltn (v := .ty "bool") rfl T.b_bool (by decide +kernel) rfl) (.ty _)) (d_one (d_cmp (o_eq hK hr.units) (d_var 0 (pv 0)) (d_var 1 (pv 1)) (nomark _))))))
    ss_nil) ss_nil)
    (ss_cons (s_if (PW.pt (dw_or (dt_cmp (o_ne hK hr.units) (d_isi (u := .lst) hK T.is (by decide) (by decide) rfl T.b_isinstance (d_var 0 (pv 0)) (pe_bltn (v := .ty "list") rfl T.b_list (by decide +kernel) rfl) (.ty _)) (d_isi (u := .lst) hK T.is (by decide) (by decide) rfl T.b_isinstance (d_var 1 (pv 1)) (pe_bltn (v := .ty "list") rfl T.b_list (by decide +kernel) rfl) (.ty _)) (nomark _)) (dw_or1 (dt_cmp (o_ne hK hr.units) (d_isi (u := .tup) hK T.is (by decide) (by decide) rfl T.b_isinstance (d_var 0 (pv 0)) (pe_bltn (v := .ty "tuple") rfl T.b_tuple (by decide +kernel) rfl) (.ty _)) (d_isi (u := .tup) hK T.is (by decide) (by decide) rfl T.b_isinstance (d_var 1 (pv 1)) (pe_bltn (v := .ty "tuple") rfl T.b_tuple (by decide +kernel) rfl) (.ty _)) (nomark _))))) (ss_cons (s_ret d_bl)
    ss_nil) ss_nil)
    (ss_cons (s_if (PW.pt (dw_or (dt_cmp (o_ne hK hr.units) (d_isi (u := .str) hK T.is (by decide) (by decide) rfl T.b_isinstance (d_var 0 (pv 0)) (pe_bltn (v := .ty "str") rfl T.b_str (by decide +kernel) rfl) (.ty _)) (d_isi (u := .str) hK T.is (by decide) (by decide) rfl T.b_isinstance (d_var 1 (pv 1)) (pe_bltn (v := .ty "str") rfl T.b_str (by decide +kernel) rfl) (.ty _)) (nomark _)) (dw_or1 (dt_cmp (o_ne hK hr.units) (d_isi (u := .int) hK T.is (by decide) (by decide) rfl T.b_isinstance (d_var 0 (pv 0)) (pe_bltn (v := .ty "int") rfl T.b_int (by decide +kernel) rfl) (.ty _)) (d_isi (u := .int) hK T.is (by decide) (by decide) rfl T.b_isinstance (d_var 1 (pv 1)) (pe_bltn (v := .ty "int") rfl T.b_int (by decide +kernel) rfl) (.ty _)) (nomark _))))) (ss_cons (s_ret d_bl)
    ss_nil) ss_nil)
    (ss_cons (s_if (dt_val (d_isi2 (u1 := .lst) (u2 := .tup) hK T.is (by decide) rfl T.b_isinstance (d_var 1 (pv 1)) (pe_tup (pa_cons (pe_bltn (v := .ty "list") rfl T.b_list (by decide +kernel) rfl) (pa_cons (pe_bltn (v := .ty "tuple") rfl T.b_tuple (by decide +kernel) rfl) pa_nil))) ⟨(.ty _), (.ty _)⟩)) (ss_cons (s_if (dt_cmp (o_ne hK hr.units) (d_callB (c_len hK) rfl T.b_len (by decide +kernel) (a_cons (d_var 0 (pv 0)) a_nil)) (d_callB (c_len hK) rfl T.b_len (by decide +kernel) (a_cons (d_var 1 (pv 1)) a_nil)) (nomark _)) (ss_cons (s_ret d_bl)
    ss_nil) ss_nil)
    (ss_cons (s_ret (d_cmp (o_eq hK hr.units) (d_lc (own := [(("k" : Str), 2)]) rfl sc_f_law_agree.nd (i_range1 (pi_range1 rfl T.b_range (a_cons (d_callB (c_len hK) rfl T.b_len (by decide +kernel) (a_cons (d_var 1 (pv 1)) a_nil)) a_nil))) (blkOk_by (N := N_f_law_agree) (sc := defScope s_f_law_agree) (by decide +kernel)) (fun _ _ _ _ _ => (g_name (pg_name (i := 2) sc_f_law_agree.nd rfl (.inl rfl)) (by decide))) (fun _ _ _ _ _ => (pts_one (dt_not (dt_val (d_call ih (hr.mono (Nat.le_refl _)) takes0N rfl rfl (a_cons (d_ix hK (d_var 0 (pv 0)) (d_var 2 (pv 2))) (a_cons (d_ix hK (d_var 1 (pv 1)) (d_var 2 (pv 2))) a_nil)) (al_cons (al_cons al_nil))))))) (fun _ _ _ _ _ => (d_var 2 (pv 2)))) (d_lst a_nil) (nomark _)))
    ss_nil)) ss_nil)
    (ss_cons (s_ret (d_and (d_cmp (o_eq hK hr.units) (d_cmp o_isN (d_var 0 (pv 0)) d_non (nomark _)) (d_cmp o_isN (d_var 1 (pv 1)) d_non (nomark _)) (nomark _)) (d_one (d_cmp (o_eq hK hr.units) (d_var 0 (pv 0)) (d_var 1 (pv 1)) (nomark _)))))
    ss_nil)))))
set_option maxHeartbeats 4000000 in
theorem ok_f_is_word_of {fa : Addr} {fd : FuncData} (Ff : Fun K "is_word_of" "is_word_of" s_f_is_word_of fa fd) (hK : G.K = K) (T : Tx G K mg)  : FnOk P w K mg base (L2N.CX P w) 1 fa fd ["words", "thing"] (spD G 2 f_is_word_of) :=
  fn_mk (k := 0) Ff sc_f_is_word_of fun cdv A outer s H E hr =>
    (ss_cons (s_ret (d_and (d_isi (u := .str) hK T.is (by decide) (by decide) rfl T.b_isinstance (d_var 1 (pv 1)) (pe_bltn (v := .ty "str") rfl T.b_str (by decide +kernel) rfl) (.ty _)) (d_one (d_cmp (o_in hK) (d_var 1 (pv 1)) (d_var 0 (pv 0)) rfl))))
    ss_nil)
set_option maxHeartbeats 4000000 in
theorem ok_f_actions_of {fa : Addr} {fd : FuncData} (Ff : Fun K "actions_of" "actions_of" s_f_actions_of fa fd) (hK : G.K = K) (T : Tx G K mg)  : FnOk P w K mg base (L2N.CX P w) 1 fa fd ["deed"] (spD G 1 f_actions_of) :=
  fn_mk (k := 0) Ff sc_f_actions_of fun cdv A outer s H E hr =>
    (ss_cons (s_if (dt_cmp (o_eq hK hr.units) (d_var 0 (pv 0)) (d_glob T.c_READ rfl) (nomark _)) (ss_cons (s_ret (d_glob T.c_READ_ACTIONS rfl))
    ss_nil) ss_nil)
    (ss_cons (s_ret (d_if (dt_cmp (o_eq hK hr.units) (d_var 0 (pv 0)) (d_glob T.c_WRITE rfl) (nomark _)) (d_glob T.c_WRITE_ACTIONS rfl) (d_glob T.c_HAND_ACTIONS rfl)))
    ss_nil))
set_option maxHeartbeats 4000000 in
theorem ok_f_keeps_of {fa : Addr} {fd : FuncData} (Ff : Fun K "keeps_of" "keeps_of" s_f_keeps_of fa fd) (hK : G.K = K) (T : Tx G K mg)  : FnOk P w K mg base (L2N.CX P w) 1 fa fd ["deed"] (spD G 1 f_keeps_of) :=
  fn_mk (k := 0) Ff sc_f_keeps_of fun cdv A outer s H E hr =>
    (ss_cons (s_if (dt_cmp (o_eq hK hr.units) (d_var 0 (pv 0)) (d_glob T.c_READ rfl) (nomark _)) (ss_cons (s_ret (d_glob T.c_READ_KEEPS rfl))
    ss_nil) ss_nil)
    (ss_cons (s_ret (d_if (dt_cmp (o_eq hK hr.units) (d_var 0 (pv 0)) (d_glob T.c_WRITE rfl) (nomark _)) (d_glob T.c_WRITE_KEEPS rfl) (d_tup (a_cons (d_glob T.c_NOTHING rfl) a_nil))))
    ss_nil))
set_option maxHeartbeats 4000000 in
theorem ok_f_roles_of {fa : Addr} {fd : FuncData} (Ff : Fun K "roles_of" "roles_of" s_f_roles_of fa fd) (hK : G.K = K) (T : Tx G K mg)  : FnOk P w K mg base (L2N.CX P w) 1 fa fd ["deed"] (spD G 1 f_roles_of) :=
  fn_mk (k := 0) Ff sc_f_roles_of fun cdv A outer s H E hr =>
    (ss_cons (s_if (dt_cmp (o_eq hK hr.units) (d_var 0 (pv 0)) (d_glob T.c_READ rfl) (nomark _)) (ss_cons (s_ret (d_tup (a_cons (d_glob T.c_LEADS rfl) (a_cons (d_glob T.c_FOLLOWS rfl) a_nil))))
    ss_nil) ss_nil)
    (ss_cons (s_ret (d_if (dt_cmp (o_eq hK hr.units) (d_var 0 (pv 0)) (d_glob T.c_WRITE rfl) (nomark _)) (d_tup (a_cons (d_glob T.c_LEADS rfl) a_nil)) (d_tup (a_cons (d_glob T.c_ANY rfl) a_nil))))
    ss_nil))
set_option maxHeartbeats 4000000 in
theorem ok_f_relations_of {fa : Addr} {fd : FuncData} (Ff : Fun K "relations_of" "relations_of" s_f_relations_of fa fd) (hK : G.K = K) (T : Tx G K mg)  : FnOk P w K mg base (L2N.CX P w) 1 fa fd ["deed"] (spD G 1 f_relations_of) :=
  fn_mk (k := 0) Ff sc_f_relations_of fun cdv A outer s H E hr =>
    (ss_cons (s_ret (d_if (dt_cmp (o_eq hK hr.units) (d_var 0 (pv 0)) (d_glob T.c_HAND rfl) (nomark _)) (d_glob T.c_BETWEEN_MARKS rfl) (d_glob T.c_AT_SERVERS rfl)))
    ss_nil)
set_option maxHeartbeats 4000000 in
theorem ok_f_is_book_row {fa : Addr} {fd : FuncData} (Ff : Fun K "is_book_row" "is_book_row" s_f_is_book_row fa fd) (hK : G.K = K) (T : Tx G K mg) (h_f_is_word_of : Fn G P w K mg base "is_word_of" 1 ["words", "thing"] f_is_word_of) (h_f_actions_of : Fn G P w K mg base "actions_of" 1 ["deed"] f_actions_of) (h_f_keeps_of : Fn G P w K mg base "keeps_of" 1 ["deed"] f_keeps_of) (h_f_roles_of : Fn G P w K mg base "roles_of" 1 ["deed"] f_roles_of) (h_f_relations_of : Fn G P w K mg base "relations_of" 1 ["deed"] f_relations_of) : FnOk P w K mg base (L2N.CX P w) 2 fa fd ["thing"] (spD G 1 f_is_book_row) :=
  fn_mk (k := 1) Ff sc_f_is_book_row fun cdv A outer s H E hr =>
    (ss_cons (s_if (PW.pt (dw_or (dt_not (dt_val (d_isi (u := .tup) hK T.is (by decide) (by decide) rfl T.b_isinstance (d_var 0 (pv 0)) (pe_bltn (v := .ty "tuple") rfl T.b_tuple (by decide +kernel) rfl) (.ty _)))) (dw_or (dt_cmp (o_ne hK hr.units) (d_callB (c_len hK) rfl T.b_len (by decide +kernel) (a_cons (d_var 0 (pv 0)) a_nil)) d_int (nomark _)) (dw_or1 (dt_not (dt_val (d_call h_f_is_word_of (hr.mono (by decide)) (L2N.takes_of rfl rfl rfl rfl) rfl rfl (a_cons (d_glob T.c_DEED_WORDS rfl) (a_cons (d_ix hK (d_var 0 (pv 0)) d_int) a_nil)) (al_cons (al_cons al_nil))))))))) (ss_cons (s_ret d_bl)
    ss_nil) ss_nil)
    (ss_cons (s_asg (vl := [1, 2, 3, 4, 5]) (d_var 0 (pv 0)) (g_tup (n := 5) rfl hK (gs_cons (g_name (pg_name (i := 1) sc_f_is_book_row.nd rfl (.inl rfl)) (by decide)) (gs_cons (g_name (pg_name (i := 2) sc_f_is_book_row.nd rfl (.inl rfl)) (by decide)) (gs_cons (g_name (pg_name (i := 3) sc_f_is_book_row.nd rfl (.inl rfl)) (by decide)) (gs_cons (g_name (pg_name (i := 4) sc_f_is_book_row.nd rfl (.inl rfl)) (by decide)) (gs_cons (g_name (pg_name (i := 5) sc_f_is_book_row.nd rfl (.inl rfl)) (by decide)) gs_nil)))))))
    (ss_cons (s_if (PW.pt (dw_or (dt_not (dt_val (d_call h_f_is_word_of (hr.mono (by decide)) (L2N.takes_of rfl rfl rfl rfl) rfl rfl (a_cons (d_tup (a_star hK (d_call h_f_roles_of (hr.mono (by decide)) (L2N.takes_of rfl rfl rfl rfl) rfl rfl (a_cons (d_var 1 (pv 1)) a_nil) (al_cons al_nil)) (a_cons (d_glob T.c_ANY rfl) a_nil))) (a_cons (d_var 2 (pv 2)) a_nil)) (al_cons (al_cons al_nil))))) (dw_or1 (dt_not (dt_val (d_call h_f_is_word_of (hr.mono (by decide)) (L2N.takes_of rfl rfl rfl rfl) rfl rfl (a_cons (d_tup (a_star hK (d_call h_f_relations_of (hr.mono (by decide)) (L2N.takes_of rfl rfl rfl rfl) rfl rfl (a_cons (d_var 1 (pv 1)) a_nil) (al_cons al_nil)) (a_cons (d_glob T.c_ANY rfl) a_nil))) (a_cons (d_var 3 (pv 3)) a_nil)) (al_cons (al_cons al_nil)))))))) (ss_cons (s_ret d_bl)
    ss_nil) ss_nil)
    (ss_cons (s_ret (d_and (d_call h_f_is_word_of (hr.mono (by decide)) (L2N.takes_of rfl rfl rfl rfl) rfl rfl (a_cons (d_call h_f_actions_of (hr.mono (by decide)) (L2N.takes_of rfl rfl rfl rfl) rfl rfl (a_cons (d_var 1 (pv 1)) a_nil) (al_cons al_nil)) (a_cons (d_var 4 (pv 4)) a_nil)) (al_cons (al_cons al_nil))) (d_one (d_call h_f_is_word_of (hr.mono (by decide)) (L2N.takes_of rfl rfl rfl rfl) rfl rfl (a_cons (d_call h_f_keeps_of (hr.mono (by decide)) (L2N.takes_of rfl rfl rfl rfl) rfl rfl (a_cons (d_var 1 (pv 1)) a_nil) (al_cons al_nil)) (a_cons (d_var 5 (pv 5)) a_nil)) (al_cons (al_cons al_nil))))))
    ss_nil))))
set_option maxHeartbeats 4000000 in
theorem ok_f_check_form {fa : Addr} {fd : FuncData} (Ff : Fun K "check_form" "check_form" s_f_check_form fa fd) (hK : G.K = K) (T : Tx G K mg) (h_f_is_word_of : Fn G P w K mg base "is_word_of" 1 ["words", "thing"] f_is_word_of) : FnOk P w K mg base (L2N.CX P w) 2 fa fd ["marks", "scope"] (spD G 2 f_check_form) :=
  fn_mk (k := 1) Ff sc_f_check_form fun cdv A outer s H E hr =>
    (ss_cons (s_if (PW.pt (dw_or (dt_not (dt_val (d_call h_f_is_word_of (hr.mono (by decide)) (L2N.takes_of rfl rfl rfl rfl) rfl rfl (a_cons (d_glob T.c_FORMS rfl) (a_cons (d_var 0 (pv 0)) a_nil)) (al_cons (al_cons al_nil))))) (dw_or1 (dt_not (dt_val (d_call h_f_is_word_of (hr.mono (by decide)) (L2N.takes_of rfl rfl rfl rfl) rfl rfl (a_cons (d_glob T.c_SCOPES rfl) (a_cons (d_var 1 (pv 1)) a_nil)) (al_cons (al_cons al_nil)))))))) (ss_cons (s_raise (c := 2) (L2N.ps_raise rfl (L2N.takes_of rfl rfl rfl rfl) (L2N.pmk_own PySem.F.excBase_ValueError T.x_BadBook T.g_BadBook T.kp_BadBook (raises_own T.eb_BadBook T.et_BadBook) (by rfl))))
    ss_nil) ss_nil)
    ss_nil)
set_option maxHeartbeats 4000000 in
theorem ok_M_Book_init_ {fa : Addr} {fd : FuncData} (Ff : Fun K "__init__" "Book.__init__" s_M_Book_init_ fa fd) (hK : G.K = K) (T : Tx G K mg) (h_f_is_book_row : Fn G P w K mg base "is_book_row" 2 ["thing"] f_is_book_row) (h_f_check_form : Fn G P w K mg base "check_form" 2 ["marks", "scope"] f_check_form) : FnOk P w K mg base (L2N.CX P w) 3 fa fd ["self", "marks", "scope", "rows"] (spD G 4 M_Book_init_) :=
  fn_mk (k := 2) Ff sc_M_Book_init_ fun cdv A outer s H E hr =>
    (ss_cons (s_expr (d_call h_f_check_form (hr.mono (by decide)) (L2N.takes_of rfl rfl rfl rfl) rfl rfl (a_cons (d_var 1 (pv 1)) (a_cons (d_var 2 (pv 2)) a_nil)) (al_cons (al_cons al_nil))))
    (ss_cons (s_if (PW.pt (dw_or (dt_not (dt_val (d_isi (u := .lst) hK T.is (by decide) (by decide) rfl T.b_isinstance (d_var 3 (pv 3)) (pe_bltn (v := .ty "list") rfl T.b_list (by decide +kernel) rfl) (.ty _)))) (dw_or (dt_cmp o_gt (d_callB (c_len hK) rfl T.b_len (by decide +kernel) (a_cons (d_var 3 (pv 3)) a_nil)) (d_glob T.c_MOST_ROWS rfl) (nomark _)) (dw_or1 (dt_not (dt_val (d_callB (c_all rfl) rfl T.b_all (by decide +kernel) (a_cons (d_lc (own := [(("row" : Str), 4)]) rfl sc_M_Book_init_.nd (i_any hK (d_var 3 (pv 3))) (blkOk_by (N := N_M_Book_init_) (sc := defScope s_M_Book_init_) (by decide +kernel)) (fun _ _ _ _ _ => (g_name (pg_name (i := 4) sc_M_Book_init_.nd rfl (.inl rfl)) (by decide))) (fun _ _ _ _ _ => pts_yes) (fun _ _ _ _ _ => (d_call h_f_is_book_row (hr.mono (by decide)) takes0N rfl rfl (a_cons (d_var 4 (pv 4)) a_nil) (al_cons al_nil)))) a_nil)))))))) (ss_cons (s_raise (c := 2) (L2N.ps_raise rfl (L2N.takes_of rfl rfl rfl rfl) (L2N.pmk_own PySem.F.excBase_ValueError T.x_BadBook T.g_BadBook T.kp_BadBook (raises_own T.eb_BadBook T.et_BadBook) (by rfl))))
    ss_nil) ss_nil)
    (ss_cons (s_setF T.k_Book T.n_Book_marks (ps_fld (d_var 0 (pv 0)) (d_var 1 (pv 1)) rfl))
    (ss_cons (s_setF T.k_Book T.n_Book_scope (ps_fld (d_var 0 (pv 0)) (d_var 2 (pv 2)) rfl))
    (ss_cons (s_setF T.k_Book T.n_Book_kept_rows (ps_fld (d_var 0 (pv 0)) (d_callTy (c_tuple hK) rfl T.b_tuple (by decide +kernel) (a_cons (d_var 3 (pv 3)) a_nil)) rfl))
    ss_nil)))))
set_option maxHeartbeats 4000000 in
theorem ok_f_book_row_in {fa : Addr} {fd : FuncData} (Ff : Fun K "book_row_in" "book_row_in" s_f_book_row_in fa fd) (hK : G.K = K) (T : Tx G K mg) (h_f_is_book_row : Fn G P w K mg base "is_book_row" 2 ["thing"] f_is_book_row) : FnOk P w K mg base (L2N.CX P w) 3 fa fd ["line"] (spD G 1 f_book_row_in) :=
  fn_mk (k := 2) Ff sc_f_book_row_in fun cdv A outer s H E hr =>
    (ss_cons (s_set (ps_set (i := 1) sc_f_book_row_in.nd rfl (.inl rfl) (d_strM (pe_bm PySem.F.plainAttrs_str PySem.F.slot_str_split PySem.F.type_str_split m_split (d_var 0 (pv 0)) (a_cons d_str a_nil)))))
    (ss_cons (s_if (dt_cmp (o_ne hK hr.units) (d_callB (c_len hK) rfl T.b_len (by decide +kernel) (a_cons (d_var 1 (pv 1)) a_nil)) d_int (nomark _)) (ss_cons (s_ret d_non)
    ss_nil) ss_nil)
    (ss_cons (s_set (ps_set (i := 2) sc_f_book_row_in.nd rfl (.inl rfl) (d_tup (a_cons (d_ix hK (d_var 1 (pv 1)) d_int) (a_cons (d_ix hK (d_var 1 (pv 1)) d_int) (a_cons (d_ix hK (d_var 1 (pv 1)) d_int) (a_cons (d_ix hK (d_var 1 (pv 1)) d_int) (a_cons (d_strM (pe_bm PySem.F.plainAttrs_str PySem.F.slot_str_join PySem.F.type_str_join (m_join hK) d_str (a_cons (d_strM (pe_bm PySem.F.plainAttrs_str PySem.F.slot_str_split PySem.F.type_str_split m_split (d_ix hK (d_var 1 (pv 1)) d_int) (a_cons d_str a_nil))) a_nil))) a_nil))))))))
    (ss_cons (s_ret (d_if (dt_val (d_call h_f_is_book_row (hr.mono (by decide)) (L2N.takes_of rfl rfl rfl rfl) rfl rfl (a_cons (d_var 2 (pv 2)) a_nil) (al_cons al_nil))) (d_var 2 (pv 2)) d_non))
    ss_nil))))
set_option maxHeartbeats 4000000 in
theorem ok_f_check_text {fa : Addr} {fd : FuncData} (Ff : Fun K "check_text" "check_text" s_f_check_text fa fd) (hK : G.K = K) (T : Tx G K mg) {a_M_BadText_init_ : Addr} {d_M_BadText_init_ : FuncData} (h_M_BadText_init_ : FnOk P w K mg base (L2N.CX P w) 1 a_M_BadText_init_ d_M_BadText_init_ ["self", "at"] (spX1 (G.CA 4) "at")) (b_M_BadText_init_ : Binds K d_M_BadText_init_ ["self", "at"] []) (i_M_BadText_init_ : PySem.W.findIn K (.ref (G.CA 4)) "__init__" = some (some (.ref a_M_BadText_init_))) (t_M_BadText_init_ : PySem.W.typeIn K (.ref a_M_BadText_init_) = some (.type "function")) : FnOk P w K mg base (L2N.CX P w) 3 fa fd ["thing"] (spD G 1 f_check_text) :=
  fn_mk (k := 2) Ff sc_f_check_text fun cdv A outer s H E hr =>
    (ss_cons (s_if (dt_not (dt_val (d_isi (u := .str) hK T.is (by decide) (by decide) rfl T.b_isinstance (d_var 0 (pv 0)) (pe_bltn (v := .ty "str") rfl T.b_str (by decide +kernel) rfl) (.ty _)))) (ss_cons (s_raise1 (c := 4) (fl := ("at" : Str)) (L2N.ps_raise rfl (L2N.takes_of rfl rfl rfl rfl) (pmk_oexN T.o_BadText i_M_BadText_init_ t_M_BadText_init_ h_M_BadText_init_ (hr.mono (by decide)) b_M_BadText_init_ (L2N.passes_call takes0N fun _ _ _ _ h => h) rfl T.g_BadText (pa_cons d_int pa_nil))))
    ss_nil) ss_nil)
    ss_nil)
set_option maxHeartbeats 4000000 in
theorem ok_f_read_book {fa : Addr} {fd : FuncData} (Ff : Fun K "read_book" "read_book" s_f_read_book fa fd) (hK : G.K = K) (T : Tx G K mg) {a_M_Book_init_ : Addr} {d_M_Book_init_ : FuncData} (h_M_Book_init_ : FnOk P w K mg base (L2N.CX P w) 3 a_M_Book_init_ d_M_Book_init_ ["self", "marks", "scope", "rows"] (spD G 4 M_Book_init_)) (b_M_Book_init_ : Binds K d_M_Book_init_ ["self", "marks", "scope", "rows"] []) (mk_Book : Mk K (G.CA 5) a_M_Book_init_) {a_M_BadText_init_ : Addr} {d_M_BadText_init_ : FuncData} (h_M_BadText_init_ : FnOk P w K mg base (L2N.CX P w) 1 a_M_BadText_init_ d_M_BadText_init_ ["self", "at"] (spX1 (G.CA 4) "at")) (b_M_BadText_init_ : Binds K d_M_BadText_init_ ["self", "at"] []) (i_M_BadText_init_ : PySem.W.findIn K (.ref (G.CA 4)) "__init__" = some (some (.ref a_M_BadText_init_))) (t_M_BadText_init_ : PySem.W.typeIn K (.ref a_M_BadText_init_) = some (.type "function")) (h_f_book_row_in : Fn G P w K mg base "book_row_in" 3 ["line"] f_book_row_in) (h_f_is_word_of : Fn G P w K mg base "is_word_of" 1 ["words", "thing"] f_is_word_of) (h_f_check_text : Fn G P w K mg base "check_text" 3 ["thing"] f_check_text) : FnOk P w K mg base (L2N.CX P w) 5 fa fd ["text"] (spD G 1 f_read_book) :=
  fn_mk (k := 4) Ff sc_f_read_book fun cdv A outer s H E hr =>
    (ss_cons (s_expr (d_call h_f_check_text (hr.mono (by decide)) (L2N.takes_of rfl rfl rfl rfl) rfl rfl (a_cons (d_var 0 (pv 0)) a_nil) (al_cons al_nil)))
    (ss_cons (s_asg (vl := [1, 2]) (d_strM (pe_bm PySem.F.plainAttrs_str PySem.F.slot_str_split PySem.F.type_str_split m_split (d_var 0 (pv 0)) (a_cons d_str a_nil))) (g_star rfl (g_name (pg_name (i := 1) sc_f_read_book.nd rfl (.inl rfl)) (by decide)) (g_name (pg_name (i := 2) sc_f_read_book.nd rfl (.inl rfl)) (by decide))))
    (ss_cons (s_set (ps_set (i := 3) sc_f_read_book.nd rfl (.inl rfl) (d_strM (pe_bm PySem.F.plainAttrs_str PySem.F.slot_str_split PySem.F.type_str_split m_split (d_var 1 (pv 1)) (a_cons d_str a_nil)))))
    (ss_cons (s_if (PW.pt (dw_or (dt_cmp (o_ne hK hr.units) (d_callB (c_len hK) rfl T.b_len (by decide +kernel) (a_cons (d_var 3 (pv 3)) a_nil)) d_int (nomark _)) (dw_or (dt_not (dt_val (d_call h_f_is_word_of (hr.mono (by decide)) (L2N.takes_of rfl rfl rfl rfl) rfl rfl (a_cons (d_glob T.c_FORMS rfl) (a_cons (d_ix hK (d_var 3 (pv 3)) d_int) a_nil)) (al_cons (al_cons al_nil))))) (dw_or1 (dt_not (dt_val (d_call h_f_is_word_of (hr.mono (by decide)) (L2N.takes_of rfl rfl rfl rfl) rfl rfl (a_cons (d_glob T.c_SCOPES rfl) (a_cons (d_ix hK (d_var 3 (pv 3)) d_int) a_nil)) (al_cons (al_cons al_nil))))))))) (ss_cons (s_raise1 (c := 4) (fl := ("at" : Str)) (L2N.ps_raise rfl (L2N.takes_of rfl rfl rfl rfl) (pmk_oexN T.o_BadText i_M_BadText_init_ t_M_BadText_init_ h_M_BadText_init_ (hr.mono (by decide)) b_M_BadText_init_ (L2N.passes_call takes0N fun _ _ _ _ h => h) rfl T.g_BadText (pa_cons d_int pa_nil))))
    ss_nil) ss_nil)
    (ss_cons (s_setLc (i := 4) (own := [(("line" : Str), 5)]) rfl sc_f_read_book.nd rfl rfl (sw_true rfl rfl rfl (by decide +kernel)) (i_any hK (d_var 2 (pv 2))) (blkOk_by (N := N_f_read_book) (sc := defScope s_f_read_book) (by decide +kernel)) (fun _ _ _ _ _ => (g_name (pg_name (i := 5) sc_f_read_book.nd rfl (.inl rfl)) (by decide))) (fun _ _ _ _ _ => pts_yes) (fun _ _ _ _ _ => (d_call h_f_book_row_in (hr.mono (by decide)) takes0N rfl rfl (a_cons (d_var 5 (pv 5)) a_nil) (al_cons al_nil))))
    (ss_cons (s_for (vl := [6, 7]) (passes_of rfl) rfl (i_enum hK (pi_enum rfl T.b_enumerate (a_cons (d_var 4 (pv 4)) a_nil))) (g_tup (n := 2) rfl hK (gs_cons (g_name (pg_name (i := 6) sc_f_read_book.nd rfl (.inl rfl)) (by decide)) (gs_cons (g_name (pg_name (i := 7) sc_f_read_book.nd rfl (.inl rfl)) (by decide)) gs_nil))) (ss_cons (s_if (PW.pt (dw_or (dt_cmp o_isN (d_var 7 (pv 7)) d_non (nomark _)) (dw_or1 (dt_cmp o_ge (d_var 6 (pv 6)) (d_glob T.c_MOST_ROWS rfl) (nomark _))))) (ss_cons (s_raise1 (c := 4) (fl := ("at" : Str)) (L2N.ps_raise rfl (L2N.takes_of rfl rfl rfl rfl) (pmk_oexN T.o_BadText i_M_BadText_init_ t_M_BadText_init_ h_M_BadText_init_ (hr.mono (by decide)) b_M_BadText_init_ (L2N.passes_call takes0N fun _ _ _ _ h => h) rfl T.g_BadText (pa_cons (d_op (o_add hK) (d_var 6 (pv 6)) d_int) pa_nil))))
    ss_nil) ss_nil)
    ss_nil))
    (ss_cons (s_ret (d_make (n := 3) noSlE (al_cons (al_cons (al_cons al_nil))) (pe_make mk_Book h_M_Book_init_ (hr.mono (by decide)) rfl T.g_Book b_M_Book_init_ .nil (L2N.passes_call (L2N.takes_of rfl rfl rfl rfl) fun _ _ σ _ h => noSlE _ _ [] σ _ h) (a_cons (d_ix hK (d_var 3 (pv 3)) d_int) (a_cons (d_ix hK (d_var 3 (pv 3)) d_int) (a_cons (d_var 4 (pv 4)) a_nil))))))
    ss_nil)))))))
set_option maxHeartbeats 4000000 in
theorem ok_f_law_said {fa : Addr} {fd : FuncData} (Ff : Fun K "_law_said" "_law_said" s_f_law_said fa fd) (hK : G.K = K) (T : Tx G K mg) (h_f_read_book : Fn G P w K mg base "read_book" 5 ["text"] f_read_book) (kw_f_read_book : FnK G P w K mg base "read_book" 5 ["text"] f_read_book) : FnOk P w K mg base (L2N.CX P w) 6 fa fd ["way", "thing"] (spD G 2 f_law_said) :=
  fn_mk (k := 5) Ff sc_f_law_said fun cdv A outer s H E hr =>
    (ss_cons (s_asg (vl := [2, 3, 4]) (d_tup (a_cons d_non (a_cons d_non (a_cons d_bl a_nil)))) (g_tup (n := 3) rfl hK (gs_cons (g_name (pg_name (i := 2) sc_f_law_said.nd rfl (.inl rfl)) (by decide)) (gs_cons (g_name (pg_name (i := 3) sc_f_law_said.nd rfl (.inl rfl)) (by decide)) (gs_cons (g_name (pg_name (i := 4) sc_f_law_said.nd rfl (.inl rfl)) (by decide)) gs_nil)))))
    (ss_cons (s_tryAt (c := 4) (fl := ("at" : Str)) (by decide) (by decide) T.te_BadText T.ki_BadText_StoreError T.kj_BadText_BadBook_BadCommand (L2N.ps_try_as (c := .ref (G.CA 4)) (i := 5) (tb := fun W => tAsg (tE G W (dIfE (dTest (dOp2 eqD (dVar 0) (dC (.int 0)))) (dCall f_read_book (aCons (dVar 1) aNil)) (dCall f_read_book (aCons (dVar 1) aNil)))) (gName 2)) (ts := tSuiteAt K (G.CA 4) ("at" : Str) 5 3 4 (.ref (G.CA 0)) (.ref (G.CA 2)) (.ref (G.CA 3))) (Wout := fun _ _ _ _ => False) rfl rfl sc_f_law_said.nd rfl rfl ⟨rfl, by decide, Or.inl T.g_BadText⟩ takes0N (fun W pn xe tk _ => pss_one (ps_set (i := 2) sc_f_law_said.nd rfl (.inl rfl) (d_if (dt_cmp (o_eq hK hr.units) (d_var 0 (pv 0)) d_int (nomark _)) (d_call h_f_read_book (hr.mono (by decide)) tk rfl rfl (a_cons (d_var 1 (pv 1)) a_nil) (al_cons al_nil)) (d_callKw kw_f_read_book (hr.mono (by decide)) tk rfl (kw_cons (d_var 1 (pv 1)) kw_nil) (al_cons al_nil))))) (fun a oe cls d pn hz hf => pss_one (ps_parH (hotC_of hz hf) sc_f_law_said.nd rfl rfl (by decide) rfl rfl (pa_cons (pe_xf T.xf_BadText T.no_BadText_at hz.zc hf (pv 5)) (pa_cons (pe_and (pe_callB (call_isX T.ex_BadText hz.zc hf) rfl T.b_isinstance (by decide +kernel) (pa_cons (pv 5) (pa_cons (pe_glob (v := .ref (G.CA 0)) rfl T.g_StoreError rfl) pa_nil))) (pe_one (pe_not (pe_callB (call_isX T.ex_BadText hz.zc hf) rfl T.b_isinstance (by decide +kernel) (pa_cons (pv 5) (pa_cons (pe_tup (pa_cons (pe_glob (v := .ref (G.CA 2)) rfl T.g_BadBook rfl) (pa_cons (pe_glob (v := .ref (G.CA 3)) rfl T.g_BadCommand rfl) pa_nil))) pa_nil)))))) pa_nil)) rfl))))
    (ss_cons (s_ret (d_if (dt_not (dt_val (d_var 4 (pv 4)))) d_str (d_if (dt_cmp o_isN (d_var 3 (pv 3)) d_non (nomark _)) (d_var 2 (pv 2)) (d_var 3 (pv 3)))))
    ss_nil)))
set_option maxHeartbeats 4000000 in
theorem ok_f_law_book_words {fa : Addr} {fd : FuncData} (Ff : Fun K "_law_book_words" "_law_book_words" s_f_law_book_words fa fd) (hK : G.K = K) (T : Tx G K mg)  : FnOk P w K mg base (L2N.CX P w) 1 fa fd ["deed"] (spD G 1 f_law_book_words) :=
  fn_mk (k := 0) Ff sc_f_law_book_words fun cdv A outer s H E hr =>
    (ss_cons (s_set (ps_set (i := 1) sc_f_law_book_words.nd rfl (.inl rfl) (d_tup (a_cons d_str (a_cons d_str (a_cons d_str (a_cons d_str (a_cons d_str a_nil))))))))
    (ss_cons (s_if (dt_cmp (o_eq hK hr.units) (d_var 0 (pv 0)) d_str (nomark _)) (ss_cons (s_set (ps_set (i := 2) sc_f_law_book_words.nd rfl (.inl rfl) (d_tup (a_cons d_str (a_cons d_str (a_cons d_str (a_cons d_str (a_cons d_str a_nil))))))))
    (ss_cons (s_ret (d_tup (a_cons (d_tup (a_cons d_str (a_cons d_str a_nil))) (a_cons (d_var 1 (pv 1)) (a_cons (d_tup (a_cons d_str (a_cons d_str (a_cons d_str (a_cons d_str (a_cons d_str a_nil)))))) (a_cons (d_var 2 (pv 2)) a_nil))))))
    ss_nil)) ss_nil)
    (ss_cons (s_if (dt_cmp (o_eq hK hr.units) (d_var 0 (pv 0)) d_str (nomark _)) (ss_cons (s_ret (d_tup (a_cons (d_tup (a_cons d_str a_nil)) (a_cons (d_var 1 (pv 1)) (a_cons (d_tup (a_cons d_str (a_cons d_str (a_cons d_str (a_cons d_str a_nil))))) (a_cons (d_tup (a_cons d_str (a_cons d_str (a_cons d_str a_nil)))) a_nil))))))
    ss_nil) ss_nil)
    (ss_cons (s_set (ps_set (i := 3) sc_f_law_book_words.nd rfl (.inl rfl) (d_tup (a_cons d_str (a_cons d_str (a_cons d_str (a_cons d_str (a_cons d_str a_nil))))))))
    (ss_cons (s_ret (d_tup (a_cons (d_tup (a_cons d_str a_nil)) (a_cons (d_var 3 (pv 3)) (a_cons (d_tup (a_cons d_str (a_cons d_str (a_cons d_str (a_cons d_str (a_cons d_str a_nil)))))) (a_cons (d_tup (a_cons d_str a_nil)) a_nil))))))
    ss_nil)))))
set_option maxHeartbeats 4000000 in
theorem ok_f_law_line_row {fa : Addr} {fd : FuncData} (Ff : Fun K "_law_line_row" "_law_line_row" s_f_law_line_row fa fd) (hK : G.K = K) (T : Tx G K mg) (h_f_law_book_words : Fn G P w K mg base "_law_book_words" 1 ["deed"] f_law_book_words) : FnOk P w K mg base (L2N.CX P w) 2 fa fd ["line_here"] (spD G 1 f_law_line_row) :=
  fn_mk (k := 1) Ff sc_f_law_line_row fun cdv A outer s H E hr =>
    (ss_cons (s_set (ps_set (i := 1) sc_f_law_line_row.nd rfl (.inl rfl) (d_strM (pe_bm PySem.F.plainAttrs_str PySem.F.slot_str_split PySem.F.type_str_split m_split (d_var 0 (pv 0)) (a_cons d_str a_nil)))))
    (ss_cons (s_if (PW.pt (dw_or (dt_cmp (o_ne hK hr.units) (d_callB (c_len hK) rfl T.b_len (by decide +kernel) (a_cons (d_var 1 (pv 1)) a_nil)) d_int (nomark _)) (dw_or1 (dt_cmp (o_notIn hK) (d_ix hK (d_var 1 (pv 1)) d_int) (d_tup (a_cons d_str (a_cons d_str (a_cons d_str a_nil)))) rfl)))) (ss_cons (s_ret d_non)
    ss_nil) ss_nil)
    (ss_cons (s_asg (vl := [2, 3]) (d_tup (a_cons (d_op (o_add hK) (d_slice hK (d_var 1 (pv 1)) o_none (o_some d_int)) (d_lst (a_cons (d_replIx hK (d_var 1 (pv 1))) a_nil))) (a_cons (d_call h_f_law_book_words (hr.mono (by decide)) (L2N.takes_of rfl rfl rfl rfl) rfl rfl (a_cons (d_ix hK (d_var 1 (pv 1)) d_int) a_nil) (al_cons al_nil)) a_nil))) (g_tup (n := 2) rfl hK (gs_cons (g_name (pg_name (i := 2) sc_f_law_line_row.nd rfl (.inr rfl)) (by decide)) (gs_cons (g_name (pg_name (i := 3) sc_f_law_line_row.nd rfl (.inr rfl)) (by decide)) gs_nil))))
    (ss_cons (s_setLc (i := 4) (own := [(("k" : Str), 5)]) rfl sc_f_law_line_row.nd rfl rfl (sw_true rfl rfl rfl (by decide +kernel)) (i_range1 (pi_range1 rfl T.b_range (a_cons d_int a_nil))) (blkOk_by (N := N_f_law_line_row) (sc := defScope s_f_law_line_row) (by decide +kernel)) (fun _ _ _ _ _ => (g_name (pg_name (i := 5) sc_f_law_line_row.nd rfl (.inl rfl)) (by decide))) (fun _ _ _ _ _ => (pts_one (PW.pt (dw_and (dt_cmp (o_notIn hK) (d_ix hK (d_var 2 (pv 2)) (d_op (o_add hK) (d_var 5 (pv 5)) d_int)) (d_ix hK (d_var 3 (pv 3)) (d_var 5 (pv 5))) rfl) (dw_and1 (dt_not (PW.pt (dw_and (dt_cmp o_lt (d_var 5 (pv 5)) d_int (nomark _)) (dw_and1 (dt_cmp (o_eq hK hr.units) (d_ix hK (d_var 2 (pv 2)) (d_op (o_add hK) (d_var 5 (pv 5)) d_int)) d_str (nomark _))))))))))) (fun _ _ _ _ _ => (d_var 5 (pv 5))))
    (ss_cons (s_ret (d_if (dt_cmp (o_eq hK hr.units) (d_var 4 (pv 4)) (d_lst a_nil) (nomark _)) (d_callTy (c_tuple hK) rfl T.b_tuple (by decide +kernel) (a_cons (d_var 2 (pv 2)) a_nil)) d_non))
    ss_nil)))))
set_option maxHeartbeats 4000000 in
theorem ok_f_law_read {fa : Addr} {fd : FuncData} (Ff : Fun K "_law_read" "_law_read" s_f_law_read fa fd) (hK : G.K = K) (T : Tx G K mg) (h_f_law_line_row : Fn G P w K mg base "_law_line_row" 2 ["line_here"] f_law_line_row) : FnOk P w K mg base (L2N.CX P w) 3 fa fd ["text_here"] (spD G 1 f_law_read) :=
  fn_mk (k := 2) Ff sc_f_law_read fun cdv A outer s H E hr =>
    (ss_cons (s_if (dt_not (dt_val (d_isi (u := .str) hK T.is (by decide) (by decide) rfl T.b_isinstance (d_var 0 (pv 0)) (pe_bltn (v := .ty "str") rfl T.b_str (by decide +kernel) rfl) (.ty _)))) (ss_cons (s_ret d_int)
    ss_nil) ss_nil)
    (ss_cons (s_set (ps_set (i := 1) sc_f_law_read.nd rfl (.inl rfl) (d_strM (pe_bm PySem.F.plainAttrs_str PySem.F.slot_str_split PySem.F.type_str_split m_split (d_var 0 (pv 0)) (a_cons d_str a_nil)))))
    (ss_cons (s_set (ps_set (i := 2) sc_f_law_read.nd rfl (.inl rfl) (d_strM (pe_bm PySem.F.plainAttrs_str PySem.F.slot_str_split PySem.F.type_str_split m_split (d_ix hK (d_var 1 (pv 1)) d_int) (a_cons d_str a_nil)))))
    (ss_cons (s_if (PW.pt (dw_or (dt_cmp (o_ne hK hr.units) (d_callB (c_len hK) rfl T.b_len (by decide +kernel) (a_cons (d_var 2 (pv 2)) a_nil)) d_int (nomark _)) (dw_or (dt_cmp (o_notIn hK) (d_ix hK (d_var 2 (pv 2)) d_int) (d_tup (a_cons d_str (a_cons d_str a_nil))) rfl) (dw_or1 (dt_cmp (o_notIn hK) (d_ix hK (d_var 2 (pv 2)) d_int) (d_tup (a_cons d_str (a_cons d_str a_nil))) rfl))))) (ss_cons (s_ret d_int)
    ss_nil) ss_nil)
    (ss_cons (s_set (ps_set (i := 3) sc_f_law_read.nd rfl (.inr rfl) (d_lc (own := [(("line_here" : Str), 4)]) rfl sc_f_law_read.nd (i_any hK (d_slice hK (d_var 1 (pv 1)) (o_some d_int) o_none)) (blkOk_by (N := N_f_law_read) (sc := defScope s_f_law_read) (by decide +kernel)) (fun _ _ _ _ _ => (g_name (pg_name (i := 4) sc_f_law_read.nd rfl (.inl rfl)) (by decide))) (fun _ _ _ _ _ => pts_yes) (fun _ _ _ _ _ => (d_call h_f_law_line_row (hr.mono (by decide)) takes0N rfl rfl (a_cons (d_var 4 (pv 4)) a_nil) (al_cons al_nil))))))
    (ss_cons (s_setLc (i := 5) (own := [(("k" : Str), 6)]) rfl sc_f_law_read.nd rfl rfl (sw_true rfl rfl rfl (by decide +kernel)) (i_range1 (pi_range1 rfl T.b_range (a_cons (d_callB (c_len hK) rfl T.b_len (by decide +kernel) (a_cons (d_var 3 (pv 3)) a_nil)) a_nil))) (blkOk_by (N := N_f_law_read) (sc := defScope s_f_law_read) (by decide +kernel)) (fun _ _ _ _ _ => (g_name (pg_name (i := 6) sc_f_law_read.nd rfl (.inl rfl)) (by decide))) (fun _ _ _ _ _ => (pts_one (PW.pt (dw_or (dt_cmp o_isN (d_ix hK (d_var 3 (pv 3)) (d_var 6 (pv 6))) d_non (nomark _)) (dw_or1 (dt_cmp o_ge (d_var 6 (pv 6)) d_int (nomark _))))))) (fun _ _ _ _ _ => (d_op (o_add hK) (d_var 6 (pv 6)) d_int)))
    (ss_cons (s_ret (d_if (dt_cmp (o_ne hK hr.units) (d_var 5 (pv 5)) (d_lst a_nil) (nomark _)) (d_ix hK (d_var 5 (pv 5)) d_int) (d_tup (a_cons (d_ix hK (d_var 2 (pv 2)) d_int) (a_cons (d_ix hK (d_var 2 (pv 2)) d_int) (a_cons (d_var 3 (pv 3)) a_nil))))))
    ss_nil)))))))
set_option maxHeartbeats 4000000 in
theorem ok_f_law_read_right {fa : Addr} {fd : FuncData} (Ff : Fun K "_law_read_right" "_law_read_right" s_f_law_read_right fa fd) (hK : G.K = K) (T : Tx G K mg) (h_f_law_agree : Fn G P w K mg base "_law_agree" 6 ["found", "due"] (f_law_agree 6)) (h_f_law_said : Fn G P w K mg base "_law_said" 6 ["way", "thing"] f_law_said) (h_f_law_read : Fn G P w K mg base "_law_read" 3 ["text_here"] f_law_read) {ai_Book : Addr} (it_Book : ItFn P w K mg base (G.CA 5) ai_Book "kept_rows" 1) : FnOk P w K mg base (L2N.CX P w) 7 fa fd ["thing"] (spD G 1 f_law_read_right) :=
  fn_mk (k := 6) Ff sc_f_law_read_right fun cdv A outer s H E hr =>
    (ss_cons (s_set (ps_set (i := 1) sc_f_law_read_right.nd rfl (.inl rfl) (d_call h_f_law_read (hr.mono (by decide)) (L2N.takes_of rfl rfl rfl rfl) rfl rfl (a_cons (d_var 0 (pv 0)) a_nil) (al_cons al_nil))))
    (ss_cons (s_for (vl := [2]) (passes_of rfl) rfl (i_any hK (d_tup (a_cons d_int (a_cons d_int a_nil)))) (g_name (pg_name (i := 2) sc_f_law_read_right.nd rfl (.inl rfl)) (by decide)) (ss_cons (s_set (ps_set (i := 3) sc_f_law_read_right.nd rfl (.inl rfl) (d_call h_f_law_said (hr.mono (by decide)) (L2N.takes_of rfl rfl rfl rfl) rfl rfl (a_cons (d_var 2 (pv 2)) (a_cons (d_var 0 (pv 0)) a_nil)) (al_cons (al_cons al_nil)))))
    (ss_cons (s_if (dt_val (d_isi (u := .int) hK T.is (by decide) (by decide) rfl T.b_isinstance (d_var 1 (pv 1)) (pe_bltn (v := .ty "int") rfl T.b_int (by decide +kernel) rfl) (.ty _))) (ss_cons (s_if (dt_not (dt_val (d_call h_f_law_agree (hr.mono (by decide)) (L2N.takes_of rfl rfl rfl rfl) rfl rfl (a_cons (d_var 3 (pv 3)) (a_cons (d_var 1 (pv 1)) a_nil)) (al_cons (al_cons al_nil))))) (ss_cons (s_ret d_bl)
    ss_nil) ss_nil)
    ss_nil) (ss_cons (s_if (dt_not (dt_val (d_isi (u := (.own 5)) hK T.is (by decide) (by decide) rfl T.b_isinstance (d_var 3 (pv 3)) (pe_glob (v := .ref (G.CA 5)) rfl T.g_Book rfl) (.own _)))) (ss_cons (s_ret d_bl)
    ss_nil) (ss_cons (s_if (dt_not (dt_val (d_call h_f_law_agree (hr.mono (by decide)) (L2N.takes_of rfl rfl rfl rfl) rfl rfl (a_cons (d_tup (a_cons (d_fld T.k_Book T.n_Book_marks (pe_fld (d_var 3 (pv 3)) rfl)) (a_cons (d_fld T.k_Book T.n_Book_scope (pe_fld (d_var 3 (pv 3)) rfl)) (a_cons (d_lc (own := [(("row" : Str), 4)]) rfl sc_f_law_read_right.nd (i_own hK it_Book (hr.mono (by decide)) (d_var 3 (pv 3))) (blkOk_by (N := N_f_law_read_right) (sc := defScope s_f_law_read_right) (by decide +kernel)) (fun _ _ _ _ _ => (g_name (pg_name (i := 4) sc_f_law_read_right.nd rfl (.inl rfl)) (by decide))) (fun _ _ _ _ _ => pts_yes) (fun _ _ _ _ _ => (d_var 4 (pv 4)))) a_nil)))) (a_cons (d_var 1 (pv 1)) a_nil)) (al_cons (al_cons al_nil))))) (ss_cons (s_ret d_bl)
    ss_nil) ss_nil)
    ss_nil))
    ss_nil))
    ss_nil)))
    (ss_cons (s_ret d_bl)
    ss_nil)))
set_option maxHeartbeats 4000000 in
theorem ok_f_book_row_line {fa : Addr} {fd : FuncData} (Ff : Fun K "book_row_line" "book_row_line" s_f_book_row_line fa fd) (hK : G.K = K) (T : Tx G K mg)  : FnOk P w K mg base (L2N.CX P w) 1 fa fd ["row"] (spD G 1 f_book_row_line) :=
  fn_mk (k := 0) Ff sc_f_book_row_line fun cdv A outer s H E hr =>
    (ss_cons (s_set (ps_set (i := 1) sc_f_book_row_line.nd rfl (.inl rfl) (d_strM (pe_bm PySem.F.plainAttrs_str PySem.F.slot_str_join PySem.F.type_str_join (m_join hK) d_str (a_cons (d_strM (pe_bm PySem.F.plainAttrs_str PySem.F.slot_str_split PySem.F.type_str_split m_split (d_ix hK (d_var 0 (pv 0)) d_int) (a_cons d_str a_nil))) a_nil)))))
    (ss_cons (s_ret (d_strM (pe_bm PySem.F.plainAttrs_str PySem.F.slot_str_join PySem.F.type_str_join (m_join hK) d_str (a_cons (d_lst (a_star hK (d_slice hK (d_var 0 (pv 0)) o_none (o_some d_int)) (a_cons (d_var 1 (pv 1)) a_nil))) a_nil))))
    ss_nil))
set_option maxHeartbeats 4000000 in
theorem ok_f_check_book {fa : Addr} {fd : FuncData} (Ff : Fun K "check_book" "check_book" s_f_check_book fa fd) (hK : G.K = K) (T : Tx G K mg)  : FnOk P w K mg base (L2N.CX P w) 1 fa fd ["thing"] (spD G 1 f_check_book) :=
  fn_mk (k := 0) Ff sc_f_check_book fun cdv A outer s H E hr =>
    (ss_cons (s_if (dt_not (dt_val (d_isi (u := (.own 5)) hK T.is (by decide) (by decide) rfl T.b_isinstance (d_var 0 (pv 0)) (pe_glob (v := .ref (G.CA 5)) rfl T.g_Book rfl) (.own _)))) (ss_cons (s_raise (c := 2) (L2N.ps_raise rfl (L2N.takes_of rfl rfl rfl rfl) (L2N.pmk_own PySem.F.excBase_ValueError T.x_BadBook T.g_BadBook T.kp_BadBook (raises_own T.eb_BadBook T.et_BadBook) (by rfl))))
    ss_nil) ss_nil)
    ss_nil)
set_option maxHeartbeats 4000000 in
theorem ok_f_show_book {fa : Addr} {fd : FuncData} (Ff : Fun K "show_book" "show_book" s_f_show_book fa fd) (hK : G.K = K) (T : Tx G K mg) (h_f_book_row_line : Fn G P w K mg base "book_row_line" 1 ["row"] f_book_row_line) (h_f_check_book : Fn G P w K mg base "check_book" 1 ["thing"] f_check_book) {ai_Book : Addr} (it_Book : ItFn P w K mg base (G.CA 5) ai_Book "kept_rows" 1) {al_Book : Addr} (len_Book : LenFn P w K mg base (G.CA 5) al_Book "kept_rows" 1) : FnOk P w K mg base (L2N.CX P w) 7 fa fd ["book"] (spD G 1 f_show_book) :=
  fn_mk (k := 6) Ff sc_f_show_book fun cdv A outer s H E hr =>
    (ss_cons (s_expr (d_call h_f_check_book (hr.mono (by decide)) (L2N.takes_of rfl rfl rfl rfl) rfl rfl (a_cons (d_var 0 (pv 0)) a_nil) (al_cons al_nil)))
    (ss_cons (s_setLc (i := 1) (own := [(("row" : Str), 2)]) rfl sc_f_show_book.nd rfl rfl (sw_true rfl rfl rfl (by decide +kernel)) (i_any hK (d_listOwn hK it_Book len_Book (hr.mono (by decide)) rfl rfl T.b_list (d_var 0 (pv 0)))) (blkOk_by (N := N_f_show_book) (sc := defScope s_f_show_book) (by decide +kernel)) (fun _ _ _ _ _ => (g_name (pg_name (i := 2) sc_f_show_book.nd rfl (.inl rfl)) (by decide))) (fun _ _ _ _ _ => pts_yes) (fun _ _ _ _ _ => (d_call h_f_book_row_line (hr.mono (by decide)) takes0N rfl rfl (a_cons (d_var 2 (pv 2)) a_nil) (al_cons al_nil))))
    (ss_cons (s_ret (d_strM (pe_bm PySem.F.plainAttrs_str PySem.F.slot_str_join PySem.F.type_str_join (m_join hK) d_str (a_cons (d_lst (a_cons (d_joined (ms := [(dOp1 fmtD (dOp1 (fldD 5 ("marks" : Str)) (dVar 0))), (dC (.str " ")), (dOp1 fmtD (dOp1 (fldD 5 ("scope" : Str)) (dVar 0)))]) (PJ.cons (d_fmt (d_fld T.k_Book T.n_Book_marks (pe_fld (d_var 0 (pv 0)) rfl))) (PJ.cons d_str (PJ.cons (d_fmt (d_fld T.k_Book T.n_Book_scope (pe_fld (d_var 0 (pv 0)) rfl))) PJ.nil)))) (a_star hK (d_var 1 (pv 1)) a_nil))) a_nil))))
    ss_nil)))
set_option maxHeartbeats 4000000 in
theorem ok_f_law_no_book_right {fa : Addr} {fd : FuncData} (Ff : Fun K "_law_no_book_right" "_law_no_book_right" s_f_law_no_book_right fa fd) (hK : G.K = K) (T : Tx G K mg) (h_f_show_book : Fn G P w K mg base "show_book" 7 ["book"] f_show_book) : FnOk P w K mg base (L2N.CX P w) 8 fa fd [] (spD G 0 f_law_no_book_right) :=
  fn_mk (k := 7) Ff sc_f_law_no_book_right fun cdv A outer s H E hr =>
    (ss_cons (s_set (ps_set (i := 0) sc_f_law_no_book_right.nd rfl (.inl rfl) d_int))
    (ss_cons (s_for (vl := [1]) (passes_of rfl) rfl (i_any hK (d_tup (a_cons d_non (a_cons d_str (a_cons (d_tup (a_cons d_str (a_cons d_str (a_cons (d_lst a_nil) a_nil)))) (a_cons d_int (a_cons (d_lst a_nil) (a_cons d_bl a_nil)))))))) (g_name (pg_name (i := 1) sc_f_law_no_book_right.nd rfl (.inl rfl)) (by decide)) (ss_cons (s_tryNo (c := 2) (by decide) T.te_BadBook T.kn_BadBook_BadText (L2N.ps_try_as (c := .ref (G.CA 2)) (i := 2) (tb := fun W => tDrop (tE G W (dCall f_show_book (aCons (dVar 1) aNil)))) (ts := tSuiteNo G K (G.CA 2) 2 0 (.ref (G.CA 4))) (Wout := fun _ _ _ _ => False) rfl rfl sc_f_law_no_book_right.nd rfl rfl ⟨rfl, by decide, Or.inl T.g_BadBook⟩ takes0N (fun W pn xe tk _ => pss_one (ps_expr (d_call h_f_show_book (hr.mono (by decide)) tk rfl rfl (a_cons (d_var 1 (pv 1)) a_nil) (al_cons al_nil)))) (fun a oe cls d pn hz hf => pss_one (ps_set (i := 0) sc_f_law_no_book_right.nd rfl (.inl rfl) (pe_op op_add (pv 0) (pe_callTy c_int rfl T.b_int (by decide +kernel) (pa_cons (pe_not (pe_callB (call_isX T.ex_BadBook hz.zc hf) rfl T.b_isinstance (by decide +kernel) (pa_cons (pv 2) (pa_cons (pe_glob (v := .ref (G.CA 4)) rfl T.g_BadText rfl) pa_nil)))) pa_nil)))))))
    ss_nil))
    (ss_cons (s_ret (d_cmp (o_eq hK hr.units) (d_var 0 (pv 0)) d_int (nomark _)))
    ss_nil)))
set_option maxHeartbeats 4000000 in
theorem ok_f_law_tap {fa : Addr} {fd : FuncData} (Ff : Fun K "_law_tap" "_law_tap" s_f_law_tap fa fd) (hK : G.K = K) (T : Tx G K mg)  : FnOk P w K mg base (L2N.CX P w) 1 fa fd ["cask", "span"] (spD G 2 f_law_tap) :=
  fn_mk (k := 0) Ff sc_f_law_tap fun cdv A outer s H E hr =>
    (ss_cons (s_if (dt_cmp o_gt (d_ix hK (d_var 0 (pv 0)) d_int) d_int (nomark _)) (ss_cons (s_set (ps_set (i := 2) sc_f_law_tap.nd rfl (.inl rfl) (d_op o_mod (d_callTy c_int rfl T.b_int (by decide +kernel) (a_cons (d_ix hK (d_var 0 (pv 0)) d_int) a_nil)) (d_var 1 (pv 1)))))
    (ss_cons (s_setIx (ps_asg (d_op o_fdiv (d_ix hK (d_var 0 (pv 0)) d_int) (d_var 1 (pv 1))) (pg_sub (d_var 0 (pv 0)) d_int set_list)))
    (ss_cons (s_ret (d_var 2 (pv 2)))
    ss_nil))) ss_nil)
    (ss_cons (s_setIx (ps_asg (d_op (o_add hK) (d_ix hK (d_var 0 (pv 0)) d_int) d_int) (pg_sub (d_var 0 (pv 0)) d_int set_list)))
    (ss_cons (s_set (ps_set (i := 3) sc_f_law_tap.nd rfl (.inl rfl) (d_op o_mod (d_op o_pow (d_callTy c_int rfl T.b_int (by decide +kernel) (a_cons (d_op (o_add hK) (d_ix hK (d_var 0 (pv 0)) d_int) (d_op o_mul d_int (d_ix hK (d_var 0 (pv 0)) d_int))) a_nil)) d_int) (d_op (o_add hK) (d_op o_pow d_int d_int) d_int))))
    (ss_cons (s_set (ps_set (i := 3) sc_f_law_tap.nd rfl (.inl rfl) (d_op o_mod (d_op o_pow (d_callTy c_int rfl T.b_int (by decide +kernel) (a_cons (d_op (o_add hK) (d_var 3 (pv 3)) (d_op o_mul d_int (d_ix hK (d_var 0 (pv 0)) d_int))) a_nil)) d_int) (d_op (o_add hK) (d_op o_pow d_int d_int) d_int))))
    (ss_cons (s_ret (d_op o_mod (d_op o_fdiv (d_var 3 (pv 3)) d_int) (d_var 1 (pv 1))))
    ss_nil)))))
set_option maxHeartbeats 4000000 in
theorem ok_f_law_row_line {fa : Addr} {fd : FuncData} (Ff : Fun K "_law_row_line" "_law_row_line" s_f_law_row_line fa fd) (hK : G.K = K) (T : Tx G K mg)  : FnOk P w K mg base (L2N.CX P w) 1 fa fd ["row"] (spD G 1 f_law_row_line) :=
  fn_mk (k := 0) Ff sc_f_law_row_line fun cdv A outer s H E hr =>
    (ss_cons (s_ret (d_strM (pe_bm PySem.F.plainAttrs_str PySem.F.slot_str_join PySem.F.type_str_join (m_join hK) d_str (a_cons (d_lst (a_cons (d_ix hK (d_var 0 (pv 0)) d_int) (a_cons (d_ix hK (d_var 0 (pv 0)) d_int) (a_cons (d_ix hK (d_var 0 (pv 0)) d_int) (a_cons (d_ix hK (d_var 0 (pv 0)) d_int) (a_cons (d_replIx hK (d_var 0 (pv 0))) a_nil)))))) a_nil))))
    ss_nil)
set_option maxHeartbeats 4000000 in
theorem ok_f_law_any_row {fa : Addr} {fd : FuncData} (Ff : Fun K "_law_any_row" "_law_any_row" s_f_law_any_row fa fd) (hK : G.K = K) (T : Tx G K mg) (h_f_law_tap : Fn G P w K mg base "_law_tap" 1 ["cask", "span"] f_law_tap) (h_f_law_book_words : Fn G P w K mg base "_law_book_words" 1 ["deed"] f_law_book_words) : FnOk P w K mg base (L2N.CX P w) 2 fa fd ["cask"] (spD G 1 f_law_any_row) :=
  fn_mk (k := 1) Ff sc_f_law_any_row fun cdv A outer s H E hr =>
    (ss_cons (s_set (ps_set (i := 1) sc_f_law_any_row.nd rfl (.inl rfl) (d_ix hK (d_lst (a_cons d_str (a_cons d_str (a_cons d_str (a_cons d_str a_nil))))) (d_call h_f_law_tap (hr.mono (by decide)) (L2N.takes_of rfl rfl rfl rfl) rfl rfl (a_cons (d_var 0 (pv 0)) (a_cons d_int a_nil)) (al_cons (al_cons al_nil))))))
    (ss_cons (s_par (ps_par (i := 2) (j := 3) rfl sc_f_law_any_row.nd rfl rfl (by decide) rfl rfl (a_cons (d_call h_f_law_book_words (hr.mono (by decide)) (L2N.takes_of rfl rfl rfl rfl) rfl rfl (a_cons (d_var 1 (pv 1)) a_nil) (al_cons al_nil)) (a_cons (d_lstS (a_cons (d_var 1 (pv 1)) a_nil)) a_nil)) rfl))
    (ss_cons (s_for (vl := [4]) (passes_of rfl) rfl (i_range1 (pi_range1 rfl T.b_range (a_cons d_int a_nil))) (g_name (pg_name (i := 4) sc_f_law_any_row.nd rfl (.inl rfl)) (by decide)) (ss_cons (s_set (ps_set (i := 5) sc_f_law_any_row.nd rfl (.inl rfl) (d_ix hK (d_var 2 (pv 2)) (d_var 4 (pv 4)))))
    (ss_cons (s_if (PW.pt (dw_and (dt_cmp o_lt (d_var 4 (pv 4)) d_int (nomark _)) (dw_and1 (dt_cmp (o_eq hK hr.units) (d_call h_f_law_tap (hr.mono (by decide)) (L2N.takes_of rfl rfl rfl rfl) rfl rfl (a_cons (d_var 0 (pv 0)) (a_cons d_int a_nil)) (al_cons (al_cons al_nil))) d_int (nomark _))))) (ss_cons (s_set (ps_set (i := 5) sc_f_law_any_row.nd rfl (.inl rfl) (d_tup (a_cons d_str a_nil))))
    ss_nil) ss_nil)
    (ss_cons (s_expr (d_append (pe_bm PySem.F.plainAttrs_list PySem.F.slot_list_append PySem.F.type_list_append mt_append (d_var 3 (pv 3)) (pa_cons (d_ix hK (d_var 5 (pv 5)) (d_call h_f_law_tap (hr.mono (by decide)) (L2N.takes_of rfl rfl rfl rfl) rfl rfl (a_cons (d_var 0 (pv 0)) (a_cons (d_callB (c_len hK) rfl T.b_len (by decide +kernel) (a_cons (d_var 5 (pv 5)) a_nil)) a_nil)) (al_cons (al_cons al_nil)))) pa_nil))))
    ss_nil))))
    (ss_cons (s_ret (d_callTy (c_tuple hK) rfl T.b_tuple (by decide +kernel) (a_cons (d_var 3 (pv 3)) a_nil)))
    ss_nil))))
set_option maxHeartbeats 4000000 in
theorem ok_f_law_bent_text {fa : Addr} {fd : FuncData} (Ff : Fun K "_law_bent_text" "_law_bent_text" s_f_law_bent_text fa fd) (hK : G.K = K) (T : Tx G K mg) (h_f_law_row_line : Fn G P w K mg base "_law_row_line" 1 ["row"] f_law_row_line) (h_f_law_any_row : Fn G P w K mg base "_law_any_row" 2 ["cask"] f_law_any_row) (h_f_law_tap : Fn G P w K mg base "_law_tap" 1 ["cask", "span"] f_law_tap) : FnOk P w K mg base (L2N.CX P w) 3 fa fd ["cask", "text_here"] (spD G 2 f_law_bent_text) :=
  fn_mk (k := 2) Ff sc_f_law_bent_text fun cdv A outer s H E hr =>
    (ss_cons (s_set (ps_set (i := 2) sc_f_law_bent_text.nd rfl (.inl rfl) (d_strM (pe_bm PySem.F.plainAttrs_str PySem.F.slot_str_split PySem.F.type_str_split m_split (d_var 1 (pv 1)) (a_cons d_str a_nil)))))
    (ss_cons (s_par (ps_par (i := 3) (j := 4) rfl sc_f_law_bent_text.nd rfl rfl (by decide) rfl rfl (a_cons (d_call h_f_law_tap (hr.mono (by decide)) (L2N.takes_of rfl rfl rfl rfl) rfl rfl (a_cons (d_var 0 (pv 0)) (a_cons (d_callB (c_len hK) rfl T.b_len (by decide +kernel) (a_cons (d_var 2 (pv 2)) a_nil)) a_nil)) (al_cons (al_cons al_nil))) (a_cons (d_call h_f_law_tap (hr.mono (by decide)) (L2N.takes_of rfl rfl rfl rfl) rfl rfl (a_cons (d_var 0 (pv 0)) (a_cons d_int a_nil)) (al_cons (al_cons al_nil))) a_nil)) rfl))
    (ss_cons (s_set (ps_set (i := 5) sc_f_law_bent_text.nd rfl (.inl rfl) (d_ix hK (d_var 2 (pv 2)) (d_var 3 (pv 3)))))
    (ss_cons (s_set (ps_set (i := 6) sc_f_law_bent_text.nd rfl (.inl rfl) (d_call h_f_law_tap (hr.mono (by decide)) (L2N.takes_of rfl rfl rfl rfl) rfl rfl (a_cons (d_var 0 (pv 0)) (a_cons (d_op (o_add hK) (d_callB (c_len hK) rfl T.b_len (by decide +kernel) (a_cons (d_var 5 (pv 5)) a_nil)) d_int) a_nil)) (al_cons (al_cons al_nil)))))
    (ss_cons (s_set (ps_set (i := 7) sc_f_law_bent_text.nd rfl (.inl rfl) (d_ix hK (d_lst (a_cons d_str (a_cons d_str (a_cons d_str (a_cons d_str (a_cons d_str (a_cons d_str (a_cons d_str (a_cons d_str a_nil))))))))) (d_call h_f_law_tap (hr.mono (by decide)) (L2N.takes_of rfl rfl rfl rfl) rfl rfl (a_cons (d_var 0 (pv 0)) (a_cons d_int a_nil)) (al_cons (al_cons al_nil))))))
    (ss_cons (s_if (dt_cmp (o_eq hK hr.units) (d_var 4 (pv 4)) d_int (nomark _)) (ss_cons (s_set (ps_set (i := 5) sc_f_law_bent_text.nd rfl (.inl rfl) (d_op (o_add hK) (d_op (o_add hK) (d_slice hK (d_var 5 (pv 5)) o_none (o_some (d_var 6 (pv 6)))) (d_var 7 (pv 7))) (d_slice hK (d_var 5 (pv 5)) (o_some (d_var 6 (pv 6))) o_none))))
    ss_nil) (ss_cons (s_if (dt_cmp (o_eq hK hr.units) (d_var 4 (pv 4)) d_int (nomark _)) (ss_cons (s_set (ps_set (i := 5) sc_f_law_bent_text.nd rfl (.inl rfl) (d_op (o_add hK) (d_slice hK (d_var 5 (pv 5)) o_none (o_some (d_var 6 (pv 6)))) (d_slice hK (d_var 5 (pv 5)) (o_some (d_op (o_add hK) (d_var 6 (pv 6)) d_int)) o_none))))
    ss_nil) (ss_cons (s_if (dt_cmp (o_eq hK hr.units) (d_var 4 (pv 4)) d_int (nomark _)) (ss_cons (s_set (ps_set (i := 5) sc_f_law_bent_text.nd rfl (.inl rfl) (d_op (o_add hK) (d_op (o_add hK) (d_slice hK (d_var 5 (pv 5)) o_none (o_some (d_var 6 (pv 6)))) (d_var 7 (pv 7))) (d_slice hK (d_var 5 (pv 5)) (o_some (d_op (o_add hK) (d_var 6 (pv 6)) d_int)) o_none))))
    ss_nil) (ss_cons (s_if (dt_cmp (o_eq hK hr.units) (d_var 4 (pv 4)) d_int (nomark _)) (ss_cons (s_set (ps_set (i := 8) sc_f_law_bent_text.nd rfl (.inl rfl) (d_lst (a_cons d_str (a_cons d_str (a_cons d_str (a_cons d_str (a_cons d_str (a_cons d_str a_nil)))))))))
    (ss_cons (s_set (ps_set (i := 5) sc_f_law_bent_text.nd rfl (.inl rfl) (d_ix hK (d_var 8 (pv 8)) (d_call h_f_law_tap (hr.mono (by decide)) (L2N.takes_of rfl rfl rfl rfl) rfl rfl (a_cons (d_var 0 (pv 0)) (a_cons d_int a_nil)) (al_cons (al_cons al_nil))))))
    ss_nil)) ss_nil)
    ss_nil))
    ss_nil))
    ss_nil))
    (ss_cons (s_set (ps_set (i := 9) sc_f_law_bent_text.nd rfl (.inl rfl) (d_op (o_add hK) (d_op (o_add hK) (d_slice hK (d_var 2 (pv 2)) o_none (o_some (d_var 3 (pv 3)))) (d_lst (a_cons (d_var 5 (pv 5)) a_nil))) (d_slice hK (d_var 2 (pv 2)) (o_some (d_op (o_add hK) (d_var 3 (pv 3)) d_int)) o_none))))
    (ss_cons (s_if (dt_cmp (o_eq hK hr.units) (d_var 4 (pv 4)) d_int (nomark _)) (ss_cons (s_set (ps_set (i := 9) sc_f_law_bent_text.nd rfl (.inl rfl) (d_op (o_add hK) (d_slice hK (d_var 2 (pv 2)) o_none (o_some (d_var 3 (pv 3)))) (d_slice hK (d_var 2 (pv 2)) (o_some (d_op (o_add hK) (d_var 3 (pv 3)) d_int)) o_none))))
    ss_nil) (ss_cons (s_if (dt_cmp (o_eq hK hr.units) (d_var 4 (pv 4)) d_int (nomark _)) (ss_cons (s_set (ps_set (i := 9) sc_f_law_bent_text.nd rfl (.inl rfl) (d_op (o_add hK) (d_op (o_add hK) (d_slice hK (d_var 2 (pv 2)) o_none (o_some (d_op (o_add hK) (d_var 3 (pv 3)) d_int))) (d_lst (a_cons (d_var 5 (pv 5)) a_nil))) (d_slice hK (d_var 2 (pv 2)) (o_some (d_op (o_add hK) (d_var 3 (pv 3)) d_int)) o_none))))
    ss_nil) (ss_cons (s_if (dt_cmp (o_eq hK hr.units) (d_var 4 (pv 4)) d_int (nomark _)) (ss_cons (s_set (ps_set (i := 9) sc_f_law_bent_text.nd rfl (.inl rfl) (d_op (o_add hK) (d_var 2 (pv 2)) (d_lst (a_cons d_str a_nil)))))
    ss_nil) (ss_cons (s_if (dt_cmp (o_eq hK hr.units) (d_var 4 (pv 4)) d_int (nomark _)) (ss_cons (s_set (ps_set (i := 9) sc_f_law_bent_text.nd rfl (.inl rfl) (d_op (o_add hK) (d_var 2 (pv 2)) (d_lc (own := [(("turn" : Str), 10)]) rfl sc_f_law_bent_text.nd (i_range1 (pi_range1 rfl T.b_range (a_cons (d_op o_sub d_int (d_callB (c_min rfl) rfl T.b_min (by decide +kernel) (a_cons d_int (a_cons (d_callB (c_len hK) rfl T.b_len (by decide +kernel) (a_cons (d_var 2 (pv 2)) a_nil)) a_nil)))) a_nil))) (blkOk_by (N := N_f_law_bent_text) (sc := defScope s_f_law_bent_text) (by decide +kernel)) (fun _ _ _ _ _ => (g_name (pg_name (i := 10) sc_f_law_bent_text.nd rfl (.inl rfl)) (by decide))) (fun _ _ _ _ _ => pts_yes) (fun _ _ _ _ _ => (d_call h_f_law_row_line (hr.mono (by decide)) takes0N rfl rfl (a_cons (d_call h_f_law_any_row (hr.mono (by decide)) takes0N rfl rfl (a_cons (d_var 0 (pv 0)) a_nil) (al_cons al_nil)) a_nil) (al_cons al_nil)))))))
    ss_nil) ss_nil)
    ss_nil))
    ss_nil))
    ss_nil))
    (ss_cons (s_ret (d_strM (pe_bm PySem.F.plainAttrs_str PySem.F.slot_str_join PySem.F.type_str_join (m_join hK) d_str (a_cons (d_var 9 (pv 9)) a_nil))))
    ss_nil)))))))))
set_option maxHeartbeats 4000000 in
theorem ok_f_cases {fa : Addr} {fd : FuncData} (Ff : Fun K "cases" "cases" s_f_cases fa fd) (hK : G.K = K) (T : Tx G K mg) (h_f_roles_of : Fn G P w K mg base "roles_of" 1 ["deed"] f_roles_of) (h_f_relations_of : Fn G P w K mg base "relations_of" 1 ["deed"] f_relations_of) : FnOk P w K mg base (L2N.CX P w) 2 fa fd [] (spD G 0 f_cases) :=
  fn_mk (k := 1) Ff sc_f_cases fun cdv A outer s H E hr =>
    (ss_cons (s_set (ps_set (i := 0) sc_f_cases.nd rfl (.inl rfl) (d_lst a_nil)))
    (ss_cons (s_for (vl := [1]) (passes_of rfl) rfl (i_any hK (d_glob T.c_DEED_WORDS rfl)) (g_name (pg_name (i := 1) sc_f_cases.nd rfl (.inr rfl)) (by decide)) (ss_cons (s_for (vl := [2]) (passes_of rfl) rfl (i_any hK (d_call h_f_roles_of (hr.mono (by decide)) (L2N.takes_of rfl rfl rfl rfl) rfl rfl (a_cons (d_var 1 (pv 1)) a_nil) (al_cons al_nil))) (g_name (pg_name (i := 2) sc_f_cases.nd rfl (.inr rfl)) (by decide)) (ss_cons (s_set (ps_set (i := 0) sc_f_cases.nd rfl (.inl rfl) (d_lst (a_star hK (d_var 0 (pv 0)) (a_star hK (d_lc (own := [(("relation_word" : Str), 3)]) rfl sc_f_cases.nd (i_any hK (d_call h_f_relations_of (hr.mono (by decide)) (L2N.takes_of rfl rfl rfl rfl) rfl rfl (a_cons (d_var 1 (pv 1)) a_nil) (al_cons al_nil))) (blkOk_by (N := N_f_cases) (sc := defScope s_f_cases) (by decide +kernel)) (fun _ _ _ _ _ => (g_name (pg_name (i := 3) sc_f_cases.nd rfl (.inl rfl)) (by decide))) (fun _ _ _ _ _ => pts_yes) (fun _ _ _ _ _ => (d_tup (a_cons (d_var 1 (pv 1)) (a_cons (d_var 2 (pv 2)) (a_cons (d_var 3 (pv 3)) a_nil)))))) a_nil)))))
    ss_nil))
    ss_nil))
    (ss_cons (s_ret (d_var 0 (pv 0)))
    ss_nil)))
set_option maxHeartbeats 4000000 in
theorem ok_f_is_for {fa : Addr} {fd : FuncData} (Ff : Fun K "is_for" "is_for" s_f_is_for fa fd) (hK : G.K = K) (T : Tx G K mg)  : FnOk P w K mg base (L2N.CX P w) 1 fa fd ["row", "case"] (spD G 2 f_is_for) :=
  fn_mk (k := 0) Ff sc_f_is_for fun cdv A outer s H E hr =>
    (ss_cons (s_ret (d_and (d_cmp (o_eq hK hr.units) (d_ix hK (d_var 0 (pv 0)) d_int) (d_ix hK (d_var 1 (pv 1)) d_int) (nomark _)) (d_and (d_cmp (o_in hK) (d_ix hK (d_var 0 (pv 0)) d_int) (d_tup (a_cons (d_ix hK (d_var 1 (pv 1)) d_int) (a_cons (d_glob T.c_ANY rfl) a_nil))) rfl) (d_one (d_cmp (o_in hK) (d_ix hK (d_var 0 (pv 0)) d_int) (d_tup (a_cons (d_ix hK (d_var 1 (pv 1)) d_int) (a_cons (d_glob T.c_ANY rfl) a_nil))) rfl)))))
    ss_nil)
set_option maxHeartbeats 4000000 in
theorem ok_f_told_for {fa : Addr} {fd : FuncData} (Ff : Fun K "told_for" "told_for" s_f_told_for fa fd) (hK : G.K = K) (T : Tx G K mg) (h_f_is_for : Fn G P w K mg base "is_for" 1 ["row", "case"] f_is_for) : FnOk P w K mg base (L2N.CX P w) 2 fa fd ["rows", "case"] (spD G 2 f_told_for) :=
  fn_mk (k := 1) Ff sc_f_told_for fun cdv A outer s H E hr =>
    (ss_cons (s_for (vl := [2]) (passes_of rfl) rfl (i_any hK (d_var 0 (pv 0))) (g_name (pg_name (i := 2) sc_f_told_for.nd rfl (.inl rfl)) (by decide)) (ss_cons (s_if (dt_val (d_call h_f_is_for (hr.mono (by decide)) (L2N.takes_of rfl rfl rfl rfl) rfl rfl (a_cons (d_var 2 (pv 2)) (a_cons (d_var 1 (pv 1)) a_nil)) (al_cons (al_cons al_nil)))) (ss_cons (s_ret (d_tup (a_cons (d_ix hK (d_var 2 (pv 2)) d_int) (a_cons (d_ix hK (d_var 2 (pv 2)) d_int) a_nil))))
    ss_nil) ss_nil)
    ss_nil))
    (ss_cons (s_ret (d_tup (a_cons (d_glob T.c_WAIT rfl) (a_cons (d_glob T.c_NOTHING rfl) a_nil))))
    ss_nil))
set_option maxHeartbeats 4000000 in
theorem ok_f_is_case {fa : Addr} {fd : FuncData} (Ff : Fun K "is_case" "is_case" s_f_is_case fa fd) (hK : G.K = K) (T : Tx G K mg) (h_f_is_word_of : Fn G P w K mg base "is_word_of" 1 ["words", "thing"] f_is_word_of) (h_f_roles_of : Fn G P w K mg base "roles_of" 1 ["deed"] f_roles_of) (h_f_relations_of : Fn G P w K mg base "relations_of" 1 ["deed"] f_relations_of) : FnOk P w K mg base (L2N.CX P w) 2 fa fd ["thing"] (spD G 1 f_is_case) :=
  fn_mk (k := 1) Ff sc_f_is_case fun cdv A outer s H E hr =>
    (ss_cons (s_if (PW.pt (dw_or (dt_not (dt_val (d_isi (u := .tup) hK T.is (by decide) (by decide) rfl T.b_isinstance (d_var 0 (pv 0)) (pe_bltn (v := .ty "tuple") rfl T.b_tuple (by decide +kernel) rfl) (.ty _)))) (dw_or (dt_cmp (o_ne hK hr.units) (d_callB (c_len hK) rfl T.b_len (by decide +kernel) (a_cons (d_var 0 (pv 0)) a_nil)) d_int (nomark _)) (dw_or1 (dt_not (dt_val (d_call h_f_is_word_of (hr.mono (by decide)) (L2N.takes_of rfl rfl rfl rfl) rfl rfl (a_cons (d_glob T.c_DEED_WORDS rfl) (a_cons (d_ix hK (d_var 0 (pv 0)) d_int) a_nil)) (al_cons (al_cons al_nil))))))))) (ss_cons (s_ret d_bl)
    ss_nil) ss_nil)
    (ss_cons (s_asg (vl := [1, 2, 3]) (d_var 0 (pv 0)) (g_tup (n := 3) rfl hK (gs_cons (g_name (pg_name (i := 1) sc_f_is_case.nd rfl (.inl rfl)) (by decide)) (gs_cons (g_name (pg_name (i := 2) sc_f_is_case.nd rfl (.inl rfl)) (by decide)) (gs_cons (g_name (pg_name (i := 3) sc_f_is_case.nd rfl (.inl rfl)) (by decide)) gs_nil)))))
    (ss_cons (s_ret (d_and (d_call h_f_is_word_of (hr.mono (by decide)) (L2N.takes_of rfl rfl rfl rfl) rfl rfl (a_cons (d_call h_f_roles_of (hr.mono (by decide)) (L2N.takes_of rfl rfl rfl rfl) rfl rfl (a_cons (d_var 1 (pv 1)) a_nil) (al_cons al_nil)) (a_cons (d_var 2 (pv 2)) a_nil)) (al_cons (al_cons al_nil))) (d_one (d_call h_f_is_word_of (hr.mono (by decide)) (L2N.takes_of rfl rfl rfl rfl) rfl rfl (a_cons (d_call h_f_relations_of (hr.mono (by decide)) (L2N.takes_of rfl rfl rfl rfl) rfl rfl (a_cons (d_var 1 (pv 1)) a_nil) (al_cons al_nil)) (a_cons (d_var 3 (pv 3)) a_nil)) (al_cons (al_cons al_nil))))))
    ss_nil)))
set_option maxHeartbeats 4000000 in
theorem ok_f_check_case {fa : Addr} {fd : FuncData} (Ff : Fun K "check_case" "check_case" s_f_check_case fa fd) (hK : G.K = K) (T : Tx G K mg) (h_f_is_case : Fn G P w K mg base "is_case" 2 ["thing"] f_is_case) : FnOk P w K mg base (L2N.CX P w) 3 fa fd ["thing"] (spD G 1 f_check_case) :=
  fn_mk (k := 2) Ff sc_f_check_case fun cdv A outer s H E hr =>
    (ss_cons (s_if (dt_not (dt_val (d_call h_f_is_case (hr.mono (by decide)) (L2N.takes_of rfl rfl rfl rfl) rfl rfl (a_cons (d_var 0 (pv 0)) a_nil) (al_cons al_nil)))) (ss_cons (s_raise (c := 1) (L2N.ps_raise rfl (L2N.takes_of rfl rfl rfl rfl) (L2N.pmk_own PySem.F.excBase_ValueError T.x_BadCase T.g_BadCase T.kp_BadCase (raises_own T.eb_BadCase T.et_BadCase) (by rfl))))
    ss_nil) ss_nil)
    ss_nil)
set_option maxHeartbeats 4000000 in
theorem ok_M_Book_with_case {fa : Addr} {fd : FuncData} (Ff : Fun K "with_case" "Book.with_case" s_M_Book_with_case fa fd) (hK : G.K = K) (T : Tx G K mg) {a_M_Book_init_ : Addr} {d_M_Book_init_ : FuncData} (h_M_Book_init_ : FnOk P w K mg base (L2N.CX P w) 3 a_M_Book_init_ d_M_Book_init_ ["self", "marks", "scope", "rows"] (spD G 4 M_Book_init_)) (b_M_Book_init_ : Binds K d_M_Book_init_ ["self", "marks", "scope", "rows"] []) (mk_Book : Mk K (G.CA 5) a_M_Book_init_) (h_f_cases : Fn G P w K mg base "cases" 2 [] f_cases) (h_f_told_for : Fn G P w K mg base "told_for" 2 ["rows", "case"] f_told_for) (h_f_is_word_of : Fn G P w K mg base "is_word_of" 1 ["words", "thing"] f_is_word_of) (h_f_actions_of : Fn G P w K mg base "actions_of" 1 ["deed"] f_actions_of) (h_f_keeps_of : Fn G P w K mg base "keeps_of" 1 ["deed"] f_keeps_of) (h_f_check_case : Fn G P w K mg base "check_case" 3 ["thing"] f_check_case) : FnOk P w K mg base (L2N.CX P w) 5 fa fd ["self", "case", "action", "keep"] (spD G 4 M_Book_with_case) :=
  fn_mk (k := 4) Ff sc_M_Book_with_case fun cdv A outer s H E hr =>
    (ss_cons (s_expr (d_call h_f_check_case (hr.mono (by decide)) (L2N.takes_of rfl rfl rfl rfl) rfl rfl (a_cons (d_var 1 (pv 1)) a_nil) (al_cons al_nil)))
    (ss_cons (s_if (PW.pt (dw_or (dt_not (dt_val (d_call h_f_is_word_of (hr.mono (by decide)) (L2N.takes_of rfl rfl rfl rfl) rfl rfl (a_cons (d_call h_f_actions_of (hr.mono (by decide)) (L2N.takes_of rfl rfl rfl rfl) rfl rfl (a_cons (d_ix hK (d_var 1 (pv 1)) d_int) a_nil) (al_cons al_nil)) (a_cons (d_var 2 (pv 2)) a_nil)) (al_cons (al_cons al_nil))))) (dw_or1 (dt_not (dt_val (d_call h_f_is_word_of (hr.mono (by decide)) (L2N.takes_of rfl rfl rfl rfl) rfl rfl (a_cons (d_call h_f_keeps_of (hr.mono (by decide)) (L2N.takes_of rfl rfl rfl rfl) rfl rfl (a_cons (d_ix hK (d_var 1 (pv 1)) d_int) a_nil) (al_cons al_nil)) (a_cons (d_var 3 (pv 3)) a_nil)) (al_cons (al_cons al_nil)))))))) (ss_cons (s_raise (c := 2) (L2N.ps_raise rfl (L2N.takes_of rfl rfl rfl rfl) (L2N.pmk_own PySem.F.excBase_ValueError T.x_BadBook T.g_BadBook T.kp_BadBook (raises_own T.eb_BadBook T.et_BadBook) (by rfl))))
    ss_nil) ss_nil)
    (ss_cons (s_setLc (i := 4) (own := [(("other" : Str), 5)]) rfl sc_M_Book_with_case.nd rfl rfl (sw_true rfl rfl rfl (by decide +kernel)) (i_any hK (d_call0 h_f_cases (hr.mono (by decide)) (L2N.takes_of rfl rfl rfl rfl) noSlE rfl)) (blkOk_by (N := N_M_Book_with_case) (sc := defScope s_M_Book_with_case) (by decide +kernel)) (fun _ _ _ _ _ => (g_name (pg_name (i := 5) sc_M_Book_with_case.nd rfl (.inl rfl)) (by decide))) (fun _ _ _ _ _ => pts_yes) (fun _ _ _ _ _ => (d_tup (a_cons (d_var 5 (pv 5)) (a_cons (d_if (dt_cmp (o_eq hK hr.units) (d_var 5 (pv 5)) (d_var 1 (pv 1)) (nomark _)) (d_tup (a_cons (d_var 2 (pv 2)) (a_cons (d_var 3 (pv 3)) a_nil))) (d_call h_f_told_for (hr.mono (by decide)) takes0N rfl rfl (a_cons (d_fld T.k_Book T.n_Book_kept_rows (pe_fld (d_var 0 (pv 0)) rfl)) (a_cons (d_var 5 (pv 5)) a_nil)) (al_cons (al_cons al_nil)))) a_nil)))))
    (ss_cons (s_ret (d_make (n := 3) noSlE (al_cons (al_cons (al_cons al_nil))) (pe_make mk_Book h_M_Book_init_ (hr.mono (by decide)) rfl T.g_Book b_M_Book_init_ .nil (L2N.passes_call (L2N.takes_of rfl rfl rfl rfl) fun _ _ σ _ h => noSlE _ _ [] σ _ h) (a_cons (d_fld T.k_Book T.n_Book_marks (pe_fld (d_var 0 (pv 0)) rfl)) (a_cons (d_fld T.k_Book T.n_Book_scope (pe_fld (d_var 0 (pv 0)) rfl)) (a_cons (d_lc (own := [(("other" : Str), 5), (("pair" : Str), 6)]) rfl sc_M_Book_with_case.nd (i_any hK (d_var 4 (pv 4))) (blkOk_by (N := N_M_Book_with_case) (sc := defScope s_M_Book_with_case) (by decide +kernel)) (fun _ _ _ _ _ => (g_tup (n := 2) rfl hK (gs_cons (g_name (pg_name (i := 5) sc_M_Book_with_case.nd rfl (.inl rfl)) (by decide)) (gs_cons (g_name (pg_name (i := 6) sc_M_Book_with_case.nd rfl (.inl rfl)) (by decide)) gs_nil)))) (fun _ _ _ _ _ => pts_yes) (fun _ _ _ _ _ => (d_tup (a_star hK (d_var 5 (pv 5)) (a_cons (d_ix hK (d_var 6 (pv 6)) d_int) (a_cons (d_ix hK (d_var 6 (pv 6)) d_int) a_nil)))))) a_nil))))))
    ss_nil))))
set_option maxHeartbeats 4000000 in
theorem ok_M_Book_in_form {fa : Addr} {fd : FuncData} (Ff : Fun K "in_form" "Book.in_form" s_M_Book_in_form fa fd) (hK : G.K = K) (T : Tx G K mg) {a_M_Book_init_ : Addr} {d_M_Book_init_ : FuncData} (h_M_Book_init_ : FnOk P w K mg base (L2N.CX P w) 3 a_M_Book_init_ d_M_Book_init_ ["self", "marks", "scope", "rows"] (spD G 4 M_Book_init_)) (b_M_Book_init_ : Binds K d_M_Book_init_ ["self", "marks", "scope", "rows"] []) (mk_Book : Mk K (G.CA 5) a_M_Book_init_) : FnOk P w K mg base (L2N.CX P w) 5 fa fd ["self", "marks", "scope"] (spD G 3 M_Book_in_form) :=
  fn_mk (k := 4) Ff sc_M_Book_in_form fun cdv A outer s H E hr =>
    (ss_cons (s_ret (d_make (n := 3) noSlE (al_cons (al_cons (al_cons al_nil))) (pe_make mk_Book h_M_Book_init_ (hr.mono (by decide)) rfl T.g_Book b_M_Book_init_ .nil (L2N.passes_call (L2N.takes_of rfl rfl rfl rfl) fun _ _ σ _ h => noSlE _ _ [] σ _ h) (a_cons (d_var 1 (pv 1)) (a_cons (d_var 2 (pv 2)) (a_cons (d_callTy (c_list hK) rfl T.b_list (by decide +kernel) (a_cons (d_fld T.k_Book T.n_Book_kept_rows (pe_fld (d_var 0 (pv 0)) rfl)) a_nil)) a_nil))))))
    ss_nil)
set_option maxHeartbeats 4000000 in
theorem ok_f_law_cases {fa : Addr} {fd : FuncData} (Ff : Fun K "_law_cases" "_law_cases" s_f_law_cases fa fd) (hK : G.K = K) (T : Tx G K mg) (h_f_law_book_words : Fn G P w K mg base "_law_book_words" 1 ["deed"] f_law_book_words) : FnOk P w K mg base (L2N.CX P w) 2 fa fd [] (spD G 0 f_law_cases) :=
  fn_mk (k := 1) Ff sc_f_law_cases fun cdv A outer s H E hr =>
    (ss_cons (s_set (ps_set (i := 0) sc_f_law_cases.nd rfl (.inl rfl) (d_lst a_nil)))
    (ss_cons (s_for (vl := [1]) (passes_of rfl) rfl (i_any hK (d_tup (a_cons d_str (a_cons d_str (a_cons d_str a_nil))))) (g_name (pg_name (i := 1) sc_f_law_cases.nd rfl (.inr rfl)) (by decide)) (ss_cons (s_set (ps_set (i := 2) sc_f_law_cases.nd rfl (.inl rfl) (d_call h_f_law_book_words (hr.mono (by decide)) (L2N.takes_of rfl rfl rfl rfl) rfl rfl (a_cons (d_var 1 (pv 1)) a_nil) (al_cons al_nil))))
    (ss_cons (s_for (vl := [3]) (passes_of rfl) rfl (i_any hK (d_ix hK (d_var 2 (pv 2)) d_int)) (g_name (pg_name (i := 3) sc_f_law_cases.nd rfl (.inr rfl)) (by decide)) (ss_cons (s_set (ps_set (i := 0) sc_f_law_cases.nd rfl (.inl rfl) (d_op (o_add hK) (d_var 0 (pv 0)) (d_lc (own := [(("relation_here" : Str), 4)]) rfl sc_f_law_cases.nd (i_any hK (d_ix hK (d_var 2 (pv 2)) d_int)) (blkOk_by (N := N_f_law_cases) (sc := defScope s_f_law_cases) (by decide +kernel)) (fun _ _ _ _ _ => (g_name (pg_name (i := 4) sc_f_law_cases.nd rfl (.inl rfl)) (by decide))) (fun _ _ _ _ _ => pts_yes) (fun _ _ _ _ _ => (d_tup (a_cons (d_var 1 (pv 1)) (a_cons (d_var 3 (pv 3)) (a_cons (d_var 4 (pv 4)) a_nil)))))))))
    ss_nil))
    ss_nil)))
    (ss_cons (s_ret (d_var 0 (pv 0)))
    ss_nil)))
set_option maxHeartbeats 4000000 in
theorem ok_f_law_told {fa : Addr} {fd : FuncData} (Ff : Fun K "_law_told" "_law_told" s_f_law_told fa fd) (hK : G.K = K) (T : Tx G K mg)  : FnOk P w K mg base (L2N.CX P w) 1 fa fd ["book_rows", "case_here"] (spD G 2 f_law_told) :=
  fn_mk (k := 0) Ff sc_f_law_told fun cdv A outer s H E hr =>
    (ss_cons (s_for (vl := [2]) (passes_of rfl) rfl (i_any hK (d_var 0 (pv 0))) (g_name (pg_name (i := 2) sc_f_law_told.nd rfl (.inl rfl)) (by decide)) (ss_cons (s_if (PW.pt (dw_and (dt_cmp (o_eq hK hr.units) (d_ix hK (d_var 2 (pv 2)) d_int) (d_ix hK (d_var 1 (pv 1)) d_int) (nomark _)) (dw_and (dt_cmp (o_in hK) (d_ix hK (d_var 2 (pv 2)) d_int) (d_tup (a_cons (d_ix hK (d_var 1 (pv 1)) d_int) (a_cons d_str a_nil))) rfl) (dw_and1 (dt_cmp (o_in hK) (d_ix hK (d_var 2 (pv 2)) d_int) (d_tup (a_cons (d_ix hK (d_var 1 (pv 1)) d_int) (a_cons d_str a_nil))) rfl))))) (ss_cons (s_ret (d_tup (a_cons (d_ix hK (d_var 2 (pv 2)) d_int) (a_cons (d_ix hK (d_var 2 (pv 2)) d_int) a_nil))))
    ss_nil) ss_nil)
    ss_nil))
    (ss_cons (s_ret (d_tup (a_cons d_str (a_cons d_str a_nil))))
    ss_nil))
set_option maxHeartbeats 4000000 in
theorem ok_f_law_cask {fa : Addr} {fd : FuncData} (Ff : Fun K "_law_cask" "_law_cask" s_f_law_cask fa fd) (hK : G.K = K) (T : Tx G K mg)  : FnOk P w K mg base (L2N.CX P w) 1 fa fd ["script", "at"] (spD G 2 f_law_cask) :=
  fn_mk (k := 0) Ff sc_f_law_cask fun cdv A outer s H E hr =>
    (ss_cons (s_set (ps_set (i := 2) sc_f_law_cask.nd rfl (.inl rfl) (d_if (dt_cmp o_lt (d_var 1 (pv 1)) (d_callB (c_len hK) rfl T.b_len (by decide +kernel) (a_cons (d_var 0 (pv 0)) a_nil)) (nomark _)) (d_ix hK (d_var 0 (pv 0)) (d_var 1 (pv 1))) d_int)))
    (ss_cons (s_ret (d_lstS (a_cons (d_callB (c_max rfl) rfl T.b_max (by decide +kernel) (a_cons d_int (a_cons (d_op o_sub (d_callB c_abs rfl T.b_abs (by decide +kernel) (a_cons (d_var 2 (pv 2)) a_nil)) (d_op o_pow d_int d_int)) a_nil))) (a_cons (d_op (o_add hK) (d_op (o_add hK) (d_op o_mul (d_op o_mod (d_callTy c_int rfl T.b_int (by decide +kernel) (a_cons (d_var 2 (pv 2)) a_nil)) (d_op (o_add hK) (d_op o_pow d_int d_int) d_int)) d_int) (d_op o_mul d_int (d_var 1 (pv 1)))) d_int) (a_cons d_int a_nil)))))
    ss_nil))
set_option maxHeartbeats 4000000 in
theorem ok_f_law {fa : Addr} {fd : FuncData} (Ff : Fun K "law" "law" s_f_law fa fd) (hK : G.K = K) (T : Tx G K mg) (h_f_law_read_right : Fn G P w K mg base "_law_read_right" 7 ["thing"] f_law_read_right) (h_f_law_no_book_right : Fn G P w K mg base "_law_no_book_right" 8 [] f_law_no_book_right) (h_f_law_tap : Fn G P w K mg base "_law_tap" 1 ["cask", "span"] f_law_tap) (h_f_law_bent_text : Fn G P w K mg base "_law_bent_text" 3 ["cask", "text_here"] f_law_bent_text) (h_f_law_agree : Fn G P w K mg base "_law_agree" 6 ["found", "due"] (f_law_agree 6)) (h_f_show_book : Fn G P w K mg base "show_book" 7 ["book"] f_show_book) {a_M_Book_with_case : Addr} {d_M_Book_with_case : FuncData} (h_M_Book_with_case : FnOk P w K mg base (L2N.CX P w) 5 a_M_Book_with_case d_M_Book_with_case ["self", "case", "action", "keep"] (spD G 4 M_Book_with_case)) (b_M_Book_with_case : Binds K d_M_Book_with_case ["self", "case", "action", "keep"] []) (m_M_Book_with_case : Meth K (G.CA 5) "with_case" a_M_Book_with_case) {a_M_Book_in_form : Addr} {d_M_Book_in_form : FuncData} (h_M_Book_in_form : FnOk P w K mg base (L2N.CX P w) 5 a_M_Book_in_form d_M_Book_in_form ["self", "marks", "scope"] (spD G 3 M_Book_in_form)) (b_M_Book_in_form : Binds K d_M_Book_in_form ["self", "marks", "scope"] []) (m_M_Book_in_form : Meth K (G.CA 5) "in_form" a_M_Book_in_form) (h_f_law_row_line : Fn G P w K mg base "_law_row_line" 1 ["row"] f_law_row_line) (h_f_law_cases : Fn G P w K mg base "_law_cases" 2 [] f_law_cases) (h_f_law_told : Fn G P w K mg base "_law_told" 1 ["book_rows", "case_here"] f_law_told) {a_M_Book_init_ : Addr} {d_M_Book_init_ : FuncData} (h_M_Book_init_ : FnOk P w K mg base (L2N.CX P w) 3 a_M_Book_init_ d_M_Book_init_ ["self", "marks", "scope", "rows"] (spD G 4 M_Book_init_)) (b_M_Book_init_ : Binds K d_M_Book_init_ ["self", "marks", "scope", "rows"] []) (mk_Book : Mk K (G.CA 5) a_M_Book_init_) (h_f_law_any_row : Fn G P w K mg base "_law_any_row" 2 ["cask"] f_law_any_row) (h_f_law_cask : Fn G P w K mg base "_law_cask" 1 ["script", "at"] f_law_cask) (kw_f_show_book : FnK G P w K mg base "show_book" 7 ["book"] f_show_book) : FnOk P w K mg base (L2N.CX P w) 9 fa fd ["script"] (spD G 1 f_law) :=
  fn_mk (k := 8) Ff sc_f_law fun cdv A outer s H E hr =>
    (ss_cons (s_for (vl := [1]) (passes_of rfl) rfl (i_range1 (pi_range1 rfl T.b_range (a_cons (d_callB (c_max rfl) rfl T.b_max (by decide +kernel) (a_cons d_int (a_cons (d_callB (c_min rfl) rfl T.b_min (by decide +kernel) (a_cons d_int (a_cons (d_callB (c_len hK) rfl T.b_len (by decide +kernel) (a_cons (d_var 0 (pv 0)) a_nil)) a_nil))) a_nil))) a_nil))) (g_name (pg_name (i := 1) sc_f_law.nd rfl (.inl rfl)) (by decide)) (ss_cons (s_set (ps_set (i := 2) sc_f_law.nd rfl (.inr rfl) (d_call h_f_law_cask (hr.mono (by decide)) (L2N.takes_of rfl rfl rfl rfl) rfl rfl (a_cons (d_var 0 (pv 0)) (a_cons (d_var 1 (pv 1)) a_nil)) (al_cons (al_cons al_nil)))))
    (ss_cons (s_for (vl := [3]) (passes_of rfl) rfl (i_range1 (pi_range1 rfl T.b_range (a_cons d_int a_nil))) (g_name (pg_name (i := 3) sc_f_law.nd rfl (.inl rfl)) (by decide)) (ss_cons (s_set (ps_set (i := 4) sc_f_law.nd rfl (.inr rfl) (d_lc (own := [(("k" : Str), 5)]) rfl sc_f_law.nd (i_range1 (pi_range1 rfl T.b_range (a_cons (d_ix hK (d_lst (a_cons (d_call h_f_law_tap (hr.mono (by decide)) (L2N.takes_of rfl rfl rfl rfl) rfl rfl (a_cons (d_var 2 (pv 2)) (a_cons d_int a_nil)) (al_cons (al_cons al_nil))) (a_cons d_int a_nil))) (d_callTy c_int rfl T.b_int (by decide +kernel) (a_cons (d_cmp (o_eq hK hr.units) (d_var 3 (pv 3)) d_int (nomark _)) a_nil))) a_nil))) (blkOk_by (N := N_f_law) (sc := defScope s_f_law) (by decide +kernel)) (fun _ _ _ _ _ => (g_name (pg_name (i := 5) sc_f_law.nd rfl (.inl rfl)) (by decide))) (fun _ _ _ _ _ => pts_yes) (fun _ _ _ _ _ => (d_call h_f_law_any_row (hr.mono (by decide)) takes0N rfl rfl (a_cons (d_var 2 (pv 2)) a_nil) (al_cons al_nil))))))
    (ss_cons (s_set (ps_set (i := 6) sc_f_law.nd rfl (.inl rfl) (d_tup (a_cons (d_ix hK (d_lst (a_cons d_str (a_cons d_str a_nil))) (d_call h_f_law_tap (hr.mono (by decide)) (L2N.takes_of rfl rfl rfl rfl) rfl rfl (a_cons (d_var 2 (pv 2)) (a_cons d_int a_nil)) (al_cons (al_cons al_nil)))) (a_cons (d_ix hK (d_lst (a_cons d_str (a_cons d_str a_nil))) (d_call h_f_law_tap (hr.mono (by decide)) (L2N.takes_of rfl rfl rfl rfl) rfl rfl (a_cons (d_var 2 (pv 2)) (a_cons d_int a_nil)) (al_cons (al_cons al_nil)))) a_nil)))))
    (ss_cons (s_set (ps_set (i := 7) sc_f_law.nd rfl (.inl rfl) (d_make (n := 3) noSlE (al_cons (al_cons (al_cons al_nil))) (pe_make mk_Book h_M_Book_init_ (hr.mono (by decide)) rfl T.g_Book b_M_Book_init_ .nil (L2N.passes_call (L2N.takes_of rfl rfl rfl rfl) fun _ _ σ _ h => noSlE _ _ [] σ _ h) (a_cons (d_ix hK (d_var 6 (pv 6)) d_int) (a_cons (d_ix hK (d_var 6 (pv 6)) d_int) (a_cons (d_var 4 (pv 4)) a_nil)))))))
    (ss_cons (s_set (ps_set (i := 8) sc_f_law.nd rfl (.inl rfl) (d_strM (pe_bm PySem.F.plainAttrs_str PySem.F.slot_str_join PySem.F.type_str_join (m_join hK) d_str (a_cons (d_op (o_add hK) (d_lst (a_cons (d_strM (pe_bm PySem.F.plainAttrs_str PySem.F.slot_str_join PySem.F.type_str_join (m_join hK) d_str (a_cons (d_var 6 (pv 6)) a_nil))) a_nil)) (d_lc (own := [(("row" : Str), 9)]) rfl sc_f_law.nd (i_any hK (d_var 4 (pv 4))) (blkOk_by (N := N_f_law) (sc := defScope s_f_law) (by decide +kernel)) (fun _ _ _ _ _ => (g_name (pg_name (i := 9) sc_f_law.nd rfl (.inl rfl)) (by decide))) (fun _ _ _ _ _ => pts_yes) (fun _ _ _ _ _ => (d_call h_f_law_row_line (hr.mono (by decide)) takes0N rfl rfl (a_cons (d_var 9 (pv 9)) a_nil) (al_cons al_nil))))) a_nil)))))
    (ss_cons (s_if (dt_not (dt_val (d_call h_f_law_agree (hr.mono (by decide)) (L2N.takes_of rfl rfl rfl rfl) rfl rfl (a_cons (d_lst (a_cons (d_call h_f_show_book (hr.mono (by decide)) (L2N.takes_of rfl rfl rfl rfl) rfl rfl (a_cons (d_var 7 (pv 7)) a_nil) (al_cons al_nil)) (a_cons (d_callKw kw_f_show_book (hr.mono (by decide)) (L2N.takes_of rfl rfl rfl rfl) rfl (kw_cons (d_var 7 (pv 7)) kw_nil) (al_cons al_nil)) a_nil))) (a_cons (d_lst (a_cons (d_var 8 (pv 8)) (a_cons (d_var 8 (pv 8)) a_nil))) a_nil)) (al_cons (al_cons al_nil))))) (ss_cons (s_ret d_bl)
    ss_nil) ss_nil)
    (ss_cons (s_if (dt_not (dt_val (d_call h_f_law_read_right (hr.mono (by decide)) (L2N.takes_of rfl rfl rfl rfl) rfl rfl (a_cons (d_var 8 (pv 8)) a_nil) (al_cons al_nil)))) (ss_cons (s_ret d_bl)
    ss_nil) ss_nil)
    (ss_cons (s_set (ps_set (i := 10) sc_f_law.nd rfl (.inl rfl) (d_tup (a_cons (d_ix hK (d_lst (a_cons d_str (a_cons d_str a_nil))) (d_call h_f_law_tap (hr.mono (by decide)) (L2N.takes_of rfl rfl rfl rfl) rfl rfl (a_cons (d_var 2 (pv 2)) (a_cons d_int a_nil)) (al_cons (al_cons al_nil)))) (a_cons (d_ix hK (d_lst (a_cons d_str (a_cons d_str a_nil))) (d_call h_f_law_tap (hr.mono (by decide)) (L2N.takes_of rfl rfl rfl rfl) rfl rfl (a_cons (d_var 2 (pv 2)) (a_cons d_int a_nil)) (al_cons (al_cons al_nil)))) a_nil)))))
    (ss_cons (s_set (ps_set (i := 11) sc_f_law.nd rfl (.inl rfl) (d_strM (pe_bm PySem.F.plainAttrs_str PySem.F.slot_str_join PySem.F.type_str_join (m_join hK) d_str (a_cons (d_op (o_add hK) (d_lst (a_cons (d_strM (pe_bm PySem.F.plainAttrs_str PySem.F.slot_str_join PySem.F.type_str_join (m_join hK) d_str (a_cons (d_var 10 (pv 10)) a_nil))) a_nil)) (d_lc (own := [(("row" : Str), 9)]) rfl sc_f_law.nd (i_any hK (d_var 4 (pv 4))) (blkOk_by (N := N_f_law) (sc := defScope s_f_law) (by decide +kernel)) (fun _ _ _ _ _ => (g_name (pg_name (i := 9) sc_f_law.nd rfl (.inl rfl)) (by decide))) (fun _ _ _ _ _ => pts_yes) (fun _ _ _ _ _ => (d_call h_f_law_row_line (hr.mono (by decide)) takes0N rfl rfl (a_cons (d_var 9 (pv 9)) a_nil) (al_cons al_nil))))) a_nil)))))
    (ss_cons (s_set (ps_set (i := 12) sc_f_law.nd rfl (.inr rfl) (d_ix hK (d_call0 h_f_law_cases (hr.mono (by decide)) (L2N.takes_of rfl rfl rfl rfl) noSlE rfl) (d_call h_f_law_tap (hr.mono (by decide)) (L2N.takes_of rfl rfl rfl rfl) rfl rfl (a_cons (d_var 2 (pv 2)) (a_cons d_int a_nil)) (al_cons (al_cons al_nil))))))
    (ss_cons (s_setLc (i := 13) (own := [(("one" : Str), 14)]) rfl sc_f_law.nd rfl rfl (sw_true rfl rfl rfl (by decide +kernel)) (i_any hK (d_call0 h_f_law_cases (hr.mono (by decide)) (L2N.takes_of rfl rfl rfl rfl) noSlE rfl)) (blkOk_by (N := N_f_law) (sc := defScope s_f_law) (by decide +kernel)) (fun _ _ _ _ _ => (g_name (pg_name (i := 14) sc_f_law.nd rfl (.inl rfl)) (by decide))) (fun _ _ _ _ _ => pts_yes) (fun _ _ _ _ _ => (d_op (o_add hK) (d_var 14 (pv 14)) (d_call h_f_law_told (hr.mono (by decide)) takes0N rfl rfl (a_cons (d_op (o_add hK) (d_lst (a_cons (d_op (o_add hK) (d_var 12 (pv 12)) (d_tup (a_cons d_str (a_cons d_str a_nil)))) a_nil)) (d_var 4 (pv 4))) (a_cons (d_var 14 (pv 14)) a_nil)) (al_cons (al_cons al_nil))))))
    (ss_cons (s_set (ps_set (i := 15) sc_f_law.nd rfl (.inl rfl) (d_strM (pe_bm PySem.F.plainAttrs_str PySem.F.slot_str_join PySem.F.type_str_join (m_join hK) d_str (a_cons (d_op (o_add hK) (d_lst (a_cons (d_strM (pe_bm PySem.F.plainAttrs_str PySem.F.slot_str_join PySem.F.type_str_join (m_join hK) d_str (a_cons (d_var 6 (pv 6)) a_nil))) a_nil)) (d_lc (own := [(("row" : Str), 9)]) rfl sc_f_law.nd (i_any hK (d_var 13 (pv 13))) (blkOk_by (N := N_f_law) (sc := defScope s_f_law) (by decide +kernel)) (fun _ _ _ _ _ => (g_name (pg_name (i := 9) sc_f_law.nd rfl (.inl rfl)) (by decide))) (fun _ _ _ _ _ => pts_yes) (fun _ _ _ _ _ => (d_call h_f_law_row_line (hr.mono (by decide)) takes0N rfl rfl (a_cons (d_var 9 (pv 9)) a_nil) (al_cons al_nil))))) a_nil)))))
    (ss_cons (s_set (ps_set (i := 16) sc_f_law.nd rfl (.inl rfl) (d_lstS (a_cons (d_call h_f_show_book (hr.mono (by decide)) (L2N.takes_of rfl rfl rfl rfl) rfl rfl (a_cons (d_meth (n := 2) noSlE (al_cons (al_cons al_nil)) (pe_meth (d_var 7 (pv 7)) T.k_Book m_M_Book_in_form h_M_Book_in_form (hr.mono (by decide)) b_M_Book_in_form .nil (L2N.passes_call (L2N.takes_of rfl rfl rfl rfl) fun _ _ σ _ h => noSlE _ _ [] σ _ h) (a_cons (d_ix hK (d_var 10 (pv 10)) d_int) (a_cons (d_ix hK (d_var 10 (pv 10)) d_int) a_nil)))) a_nil) (al_cons al_nil)) a_nil))))
    (ss_cons (s_expr (d_append (pe_bm PySem.F.plainAttrs_list PySem.F.slot_list_append PySem.F.type_list_append mt_append (d_var 16 (pv 16)) (pa_cons (d_call h_f_show_book (hr.mono (by decide)) (L2N.takes_of rfl rfl rfl rfl) rfl rfl (a_cons (d_meth (n := 3) noSlE (al_cons (al_cons (al_cons al_nil))) (pe_meth (d_var 7 (pv 7)) T.k_Book m_M_Book_with_case h_M_Book_with_case (hr.mono (by decide)) b_M_Book_with_case .nil (L2N.passes_call (L2N.takes_of rfl rfl rfl rfl) fun _ _ σ _ h => noSlE _ _ [] σ _ h) (a_cons (d_var 12 (pv 12)) (a_cons d_str (a_cons d_str a_nil))))) a_nil) (al_cons al_nil)) pa_nil))))
    (ss_cons (s_if (dt_not (dt_val (d_call h_f_law_agree (hr.mono (by decide)) (L2N.takes_of rfl rfl rfl rfl) rfl rfl (a_cons (d_var 16 (pv 16)) (a_cons (d_lst (a_cons (d_var 11 (pv 11)) (a_cons (d_var 15 (pv 15)) a_nil))) a_nil)) (al_cons (al_cons al_nil))))) (ss_cons (s_ret d_bl)
    ss_nil) ss_nil)
    (ss_cons (s_for (vl := [17]) (passes_of rfl) rfl (i_range1 (pi_range1 rfl T.b_range (a_cons d_int a_nil))) (g_name (pg_name (i := 17) sc_f_law.nd rfl (.inl rfl)) (by decide)) (ss_cons (s_set (ps_set (i := 18) sc_f_law.nd rfl (.inl rfl) (d_call h_f_law_bent_text (hr.mono (by decide)) (L2N.takes_of rfl rfl rfl rfl) rfl rfl (a_cons (d_var 2 (pv 2)) (a_cons (d_var 8 (pv 8)) a_nil)) (al_cons (al_cons al_nil)))))
    (ss_cons (s_set (ps_set (i := 18) sc_f_law.nd rfl (.inl rfl) (d_if (dt_cmp (o_eq hK hr.units) (d_call h_f_law_tap (hr.mono (by decide)) (L2N.takes_of rfl rfl rfl rfl) rfl rfl (a_cons (d_var 2 (pv 2)) (a_cons d_int a_nil)) (al_cons (al_cons al_nil))) d_int (nomark _)) (d_call h_f_law_bent_text (hr.mono (by decide)) (L2N.takes_of rfl rfl rfl rfl) rfl rfl (a_cons (d_var 2 (pv 2)) (a_cons (d_var 18 (pv 18)) a_nil)) (al_cons (al_cons al_nil))) (d_var 18 (pv 18)))))
    (ss_cons (s_if (dt_not (dt_val (d_call h_f_law_read_right (hr.mono (by decide)) (L2N.takes_of rfl rfl rfl rfl) rfl rfl (a_cons (d_var 18 (pv 18)) a_nil) (al_cons al_nil)))) (ss_cons (s_ret d_bl)
    ss_nil) ss_nil)
    ss_nil))))
    ss_nil))))))))))))))))
    ss_nil)))
    (ss_cons (s_set (ps_set (i := 19) sc_f_law.nd rfl (.inl rfl) (d_lst (a_cons d_non (a_cons d_int (a_cons d_bl (a_cons (d_lst a_nil) (a_cons (d_tup (a_cons d_str a_nil)) (a_cons d_str (a_cons d_str (a_cons d_str (a_cons d_str (a_cons d_str a_nil)))))))))))))
    (ss_cons (s_ret (d_and (d_cmp (o_eq hK hr.units) (d_lc (own := [(("thing" : Str), 20)]) rfl sc_f_law.nd (i_any hK (d_var 19 (pv 19))) (blkOk_by (N := N_f_law) (sc := defScope s_f_law) (by decide +kernel)) (fun _ _ _ _ _ => (g_name (pg_name (i := 20) sc_f_law.nd rfl (.inl rfl)) (by decide))) (fun _ _ _ _ _ => (pts_one (dt_not (dt_val (d_call h_f_law_read_right (hr.mono (by decide)) takes0N rfl rfl (a_cons (d_var 20 (pv 20)) a_nil) (al_cons al_nil)))))) (fun _ _ _ _ _ => (d_var 20 (pv 20)))) (d_lst a_nil) (nomark _)) (d_one (d_call0 h_f_law_no_book_right (hr.mono (by decide)) (L2N.takes_of rfl rfl rfl rfl) noSlE rfl))))
    ss_nil)))
end
end K50
namespace K50
open PySem PySem.Spec PyProof.Rows L2 Tok
abbrev s_M_Book_iter_ : Stmt := inClass (top 58) 6
def N_M_Book_iter_ : List Str := ["self"]
theorem sc_M_Book_iter_ : FnScope N_M_Book_iter_ ["self"] (defScope s_M_Book_iter_) := ⟨rfl, rfl, rfl, by decide +kernel, rfl, by decide +kernel, by decide +kernel⟩
abbrev s_M_Book_len_ : Stmt := inClass (top 58) 5
def N_M_Book_len_ : List Str := ["self"]
theorem sc_M_Book_len_ : FnScope N_M_Book_len_ ["self"] (defScope s_M_Book_len_) := ⟨rfl, rfl, rfl, by decide +kernel, rfl, by decide +kernel, by decide +kernel⟩
set_option maxHeartbeats 8000000 in
theorem all_mk {P : Program} {w : World} {K : PySem.W.Frag} {h : Heap} {mg : Str → Option Value} {fa : Addr} (hlaw : ∀ ns : List Int, ns.length ≤ 63 → ∃ S', f_law [.scr (ns.map .int)] [] = .ok (.bl true) S') (X : K.In h) (Gm : h.Ns mainGlobals mg) (hfa : mg "law" = some (.ref fa))
    {C0 : Addr}
    {C1 : Addr}
    {C2 : Addr}
    {C3 : Addr}
    {C4 : Addr}
    {C5 : Addr}
    {A_f_law_agree : Addr}
    {od_f_law_agree an_f_law_agree : Option Addr}
    {sl_f_law_agree : Array (Option Value)}
    {oc_f_law_agree kV_f_law_agree dc_f_law_agree pm_f_law_agree cd_f_law_agree ct_f_law_agree : Value}
    {A_f_is_word_of : Addr}
    {od_f_is_word_of an_f_is_word_of : Option Addr}
    {sl_f_is_word_of : Array (Option Value)}
    {oc_f_is_word_of kV_f_is_word_of dc_f_is_word_of pm_f_is_word_of cd_f_is_word_of ct_f_is_word_of : Value}
    {A_f_actions_of : Addr}
    {od_f_actions_of an_f_actions_of : Option Addr}
    {sl_f_actions_of : Array (Option Value)}
    {oc_f_actions_of kV_f_actions_of dc_f_actions_of pm_f_actions_of cd_f_actions_of ct_f_actions_of : Value}
    {A_f_keeps_of : Addr}
    {od_f_keeps_of an_f_keeps_of : Option Addr}
    {sl_f_keeps_of : Array (Option Value)}
    {oc_f_keeps_of kV_f_keeps_of dc_f_keeps_of pm_f_keeps_of cd_f_keeps_of ct_f_keeps_of : Value}
    {A_f_roles_of : Addr}
    {od_f_roles_of an_f_roles_of : Option Addr}
    {sl_f_roles_of : Array (Option Value)}
    {oc_f_roles_of kV_f_roles_of dc_f_roles_of pm_f_roles_of cd_f_roles_of ct_f_roles_of : Value}
    {A_f_relations_of : Addr}
    {od_f_relations_of an_f_relations_of : Option Addr}
    {sl_f_relations_of : Array (Option Value)}
    {oc_f_relations_of kV_f_relations_of dc_f_relations_of pm_f_relations_of cd_f_relations_of ct_f_relations_of : Value}
    {A_f_is_book_row : Addr}
    {od_f_is_book_row an_f_is_book_row : Option Addr}
    {sl_f_is_book_row : Array (Option Value)}
    {oc_f_is_book_row kV_f_is_book_row dc_f_is_book_row pm_f_is_book_row cd_f_is_book_row ct_f_is_book_row : Value}
    {A_f_check_form : Addr}
    {od_f_check_form an_f_check_form : Option Addr}
    {sl_f_check_form : Array (Option Value)}
    {oc_f_check_form kV_f_check_form dc_f_check_form pm_f_check_form cd_f_check_form ct_f_check_form : Value}
    {A_M_Book_init_ : Addr}
    {od_M_Book_init_ an_M_Book_init_ : Option Addr}
    {sl_M_Book_init_ : Array (Option Value)}
    {oc_M_Book_init_ kV_M_Book_init_ dc_M_Book_init_ pm_M_Book_init_ cd_M_Book_init_ ct_M_Book_init_ : Value}
    {A_M_BadText_init_ : Addr}
    {od_M_BadText_init_ an_M_BadText_init_ : Option Addr}
    {sl_M_BadText_init_ : Array (Option Value)}
    {oc_M_BadText_init_ kV_M_BadText_init_ dc_M_BadText_init_ pm_M_BadText_init_ cd_M_BadText_init_ ct_M_BadText_init_ : Value}
    {A_f_book_row_in : Addr}
    {od_f_book_row_in an_f_book_row_in : Option Addr}
    {sl_f_book_row_in : Array (Option Value)}
    {oc_f_book_row_in kV_f_book_row_in dc_f_book_row_in pm_f_book_row_in cd_f_book_row_in ct_f_book_row_in : Value}
    {A_f_check_text : Addr}
    {od_f_check_text an_f_check_text : Option Addr}
    {sl_f_check_text : Array (Option Value)}
    {oc_f_check_text kV_f_check_text dc_f_check_text pm_f_check_text cd_f_check_text ct_f_check_text : Value}
    {A_f_read_book : Addr}
    {od_f_read_book an_f_read_book : Option Addr}
    {sl_f_read_book : Array (Option Value)}
    {oc_f_read_book kV_f_read_book dc_f_read_book pm_f_read_book cd_f_read_book ct_f_read_book : Value}
    {A_f_law_said : Addr}
    {od_f_law_said an_f_law_said : Option Addr}
    {sl_f_law_said : Array (Option Value)}
    {oc_f_law_said kV_f_law_said dc_f_law_said pm_f_law_said cd_f_law_said ct_f_law_said : Value}
    {A_f_law_book_words : Addr}
    {od_f_law_book_words an_f_law_book_words : Option Addr}
    {sl_f_law_book_words : Array (Option Value)}
    {oc_f_law_book_words kV_f_law_book_words dc_f_law_book_words pm_f_law_book_words cd_f_law_book_words ct_f_law_book_words : Value}
    {A_f_law_line_row : Addr}
    {od_f_law_line_row an_f_law_line_row : Option Addr}
    {sl_f_law_line_row : Array (Option Value)}
    {oc_f_law_line_row kV_f_law_line_row dc_f_law_line_row pm_f_law_line_row cd_f_law_line_row ct_f_law_line_row : Value}
    {A_f_law_read : Addr}
    {od_f_law_read an_f_law_read : Option Addr}
    {sl_f_law_read : Array (Option Value)}
    {oc_f_law_read kV_f_law_read dc_f_law_read pm_f_law_read cd_f_law_read ct_f_law_read : Value}
    {A_f_law_read_right : Addr}
    {od_f_law_read_right an_f_law_read_right : Option Addr}
    {sl_f_law_read_right : Array (Option Value)}
    {oc_f_law_read_right kV_f_law_read_right dc_f_law_read_right pm_f_law_read_right cd_f_law_read_right ct_f_law_read_right : Value}
    {A_f_book_row_line : Addr}
    {od_f_book_row_line an_f_book_row_line : Option Addr}
    {sl_f_book_row_line : Array (Option Value)}
    {oc_f_book_row_line kV_f_book_row_line dc_f_book_row_line pm_f_book_row_line cd_f_book_row_line ct_f_book_row_line : Value}
    {A_f_check_book : Addr}
    {od_f_check_book an_f_check_book : Option Addr}
    {sl_f_check_book : Array (Option Value)}
    {oc_f_check_book kV_f_check_book dc_f_check_book pm_f_check_book cd_f_check_book ct_f_check_book : Value}
    {A_f_show_book : Addr}
    {od_f_show_book an_f_show_book : Option Addr}
    {sl_f_show_book : Array (Option Value)}
    {oc_f_show_book kV_f_show_book dc_f_show_book pm_f_show_book cd_f_show_book ct_f_show_book : Value}
    {A_f_law_no_book_right : Addr}
    {od_f_law_no_book_right an_f_law_no_book_right : Option Addr}
    {sl_f_law_no_book_right : Array (Option Value)}
    {oc_f_law_no_book_right kV_f_law_no_book_right dc_f_law_no_book_right pm_f_law_no_book_right cd_f_law_no_book_right ct_f_law_no_book_right : Value}
    {A_f_law_tap : Addr}
    {od_f_law_tap an_f_law_tap : Option Addr}
    {sl_f_law_tap : Array (Option Value)}
    {oc_f_law_tap kV_f_law_tap dc_f_law_tap pm_f_law_tap cd_f_law_tap ct_f_law_tap : Value}
    {A_f_law_row_line : Addr}
    {od_f_law_row_line an_f_law_row_line : Option Addr}
    {sl_f_law_row_line : Array (Option Value)}
    {oc_f_law_row_line kV_f_law_row_line dc_f_law_row_line pm_f_law_row_line cd_f_law_row_line ct_f_law_row_line : Value}
    {A_f_law_any_row : Addr}
    {od_f_law_any_row an_f_law_any_row : Option Addr}
    {sl_f_law_any_row : Array (Option Value)}
    {oc_f_law_any_row kV_f_law_any_row dc_f_law_any_row pm_f_law_any_row cd_f_law_any_row ct_f_law_any_row : Value}
    {A_f_law_bent_text : Addr}
    {od_f_law_bent_text an_f_law_bent_text : Option Addr}
    {sl_f_law_bent_text : Array (Option Value)}
    {oc_f_law_bent_text kV_f_law_bent_text dc_f_law_bent_text pm_f_law_bent_text cd_f_law_bent_text ct_f_law_bent_text : Value}
    {A_f_cases : Addr}
    {od_f_cases an_f_cases : Option Addr}
    {sl_f_cases : Array (Option Value)}
    {oc_f_cases kV_f_cases dc_f_cases pm_f_cases cd_f_cases ct_f_cases : Value}
    {A_f_is_for : Addr}
    {od_f_is_for an_f_is_for : Option Addr}
    {sl_f_is_for : Array (Option Value)}
    {oc_f_is_for kV_f_is_for dc_f_is_for pm_f_is_for cd_f_is_for ct_f_is_for : Value}
    {A_f_told_for : Addr}
    {od_f_told_for an_f_told_for : Option Addr}
    {sl_f_told_for : Array (Option Value)}
    {oc_f_told_for kV_f_told_for dc_f_told_for pm_f_told_for cd_f_told_for ct_f_told_for : Value}
    {A_f_is_case : Addr}
    {od_f_is_case an_f_is_case : Option Addr}
    {sl_f_is_case : Array (Option Value)}
    {oc_f_is_case kV_f_is_case dc_f_is_case pm_f_is_case cd_f_is_case ct_f_is_case : Value}
    {A_f_check_case : Addr}
    {od_f_check_case an_f_check_case : Option Addr}
    {sl_f_check_case : Array (Option Value)}
    {oc_f_check_case kV_f_check_case dc_f_check_case pm_f_check_case cd_f_check_case ct_f_check_case : Value}
    {A_M_Book_with_case : Addr}
    {od_M_Book_with_case an_M_Book_with_case : Option Addr}
    {sl_M_Book_with_case : Array (Option Value)}
    {oc_M_Book_with_case kV_M_Book_with_case dc_M_Book_with_case pm_M_Book_with_case cd_M_Book_with_case ct_M_Book_with_case : Value}
    {A_M_Book_in_form : Addr}
    {od_M_Book_in_form an_M_Book_in_form : Option Addr}
    {sl_M_Book_in_form : Array (Option Value)}
    {oc_M_Book_in_form kV_M_Book_in_form dc_M_Book_in_form pm_M_Book_in_form cd_M_Book_in_form ct_M_Book_in_form : Value}
    {A_f_law_cases : Addr}
    {od_f_law_cases an_f_law_cases : Option Addr}
    {sl_f_law_cases : Array (Option Value)}
    {oc_f_law_cases kV_f_law_cases dc_f_law_cases pm_f_law_cases cd_f_law_cases ct_f_law_cases : Value}
    {A_f_law_told : Addr}
    {od_f_law_told an_f_law_told : Option Addr}
    {sl_f_law_told : Array (Option Value)}
    {oc_f_law_told kV_f_law_told dc_f_law_told pm_f_law_told cd_f_law_told ct_f_law_told : Value}
    {A_f_law_cask : Addr}
    {od_f_law_cask an_f_law_cask : Option Addr}
    {sl_f_law_cask : Array (Option Value)}
    {oc_f_law_cask kV_f_law_cask dc_f_law_cask pm_f_law_cask cd_f_law_cask ct_f_law_cask : Value}
    {A_f_law : Addr}
    {od_f_law an_f_law : Option Addr}
    {sl_f_law : Array (Option Value)}
    {oc_f_law kV_f_law dc_f_law pm_f_law cd_f_law ct_f_law : Value}
    {A_M_Book_iter_ : Addr}
    {od_M_Book_iter_ an_M_Book_iter_ : Option Addr}
    {sl_M_Book_iter_ : Array (Option Value)}
    {oc_M_Book_iter_ kV_M_Book_iter_ dc_M_Book_iter_ pm_M_Book_iter_ cd_M_Book_iter_ ct_M_Book_iter_ : Value}
    {A_M_Book_len_ : Addr}
    {od_M_Book_len_ an_M_Book_len_ : Option Addr}
    {sl_M_Book_len_ : Array (Option Value)}
    {oc_M_Book_len_ kV_M_Book_len_ dc_M_Book_len_ pm_M_Book_len_ cd_M_Book_len_ ct_M_Book_len_ : Value}
    {tk180 : Tok}
    {tk181_0 tk181_1 tk181_2 tk181_3 tk181_4 : Tok}
    {ta181 : Addr}
    {td181 : Option Addr}
    {tn181 : Nat}
    {ts181 : Array (Option Value)}
    {tk183_0 tk183_1 tk183_2 tk183_3 tk183_4 : Tok}
    {ta183 : Addr}
    {td183 : Option Addr}
    {tn183 : Nat}
    {ts183 : Array (Option Value)}
    {tk185_0 tk185_1 tk185_2 : Tok}
    {ta185 : Addr}
    {td185 : Option Addr}
    {tn185 : Nat}
    {ts185 : Array (Option Value)}
    {tk187 : Tok}
    {tk188_0 tk188_1 : Tok}
    {ta188 : Addr}
    {td188 : Option Addr}
    {tn188 : Nat}
    {ts188 : Array (Option Value)}
    {tk190 : Tok}
    {tk191_0 tk191_1 tk191_2 tk191_3 tk191_4 : Tok}
    {ta191 : Addr}
    {td191 : Option Addr}
    {tn191 : Nat}
    {ts191 : Array (Option Value)}
    {tk193 : Tok}
    {tk194 : Tok}
    {tk195 : Tok}
    {tk196 : Tok}
    {tk197_0 tk197_1 tk197_2 tk197_3 tk197_4 : Tok}
    {ta197 : Addr}
    {td197 : Option Addr}
    {tn197 : Nat}
    {ts197 : Array (Option Value)}
    {tk199_0 tk199_1 tk199_2 tk199_3 tk199_4 : Tok}
    {ta199 : Addr}
    {td199 : Option Addr}
    {tn199 : Nat}
    {ts199 : Array (Option Value)}
    {tk201_0 tk201_1 : Tok}
    {ta201 : Addr}
    {td201 : Option Addr}
    {tn201 : Nat}
    {ts201 : Array (Option Value)}
    {tk203 : Tok}
    {tk204 : Tok}
    {tk205_0 tk205_1 tk205_2 tk205_3 : Tok}
    {ta205 : Addr}
    {td205 : Option Addr}
    {tn205 : Nat}
    {ts205 : Array (Option Value)}
    {tk207_0 tk207_1 tk207_2 : Tok}
    {ta207 : Addr}
    {td207 : Option Addr}
    {tn207 : Nat}
    {ts207 : Array (Option Value)}
    {xn268 xq268 : Str}
    {xN268 : Addr}
    {xb268 xs268 : List Value}
    {xl268 : List Str}
    {xa268 : Bool}
    {xc268 : Option Bool}
    {xd268 : Option Addr}
    {xe268 xf268 xg268 xh268 xi268 : Option Value}
    (q0 : PySem.W.nsIn K mainGlobals "StoreError" = some (some (.ref C0)))
    (q1 : PySem.W.nsIn K mainGlobals "BadCase" = some (some (.ref C1)))
    (q2 : PySem.W.nsIn K mainGlobals "BadBook" = some (some (.ref C2)))
    (q3 : PySem.W.nsIn K mainGlobals "BadCommand" = some (some (.ref C3)))
    (q4 : PySem.W.nsIn K mainGlobals "BadText" = some (some (.ref C4)))
    (q5 : PySem.W.nsIn K mainGlobals "Book" = some (some (.ref C5)))
    (q6 : PySem.W.nsIn K mainGlobals "_law_agree" = some (some (.ref A_f_law_agree)))
    (q7 : K.lookup A_f_law_agree = some ⟨oc_f_law_agree, od_f_law_agree, .func (PySem.W.fnOf "_law_agree" "_law_agree" (defArgs s_f_law_agree) (defBody s_f_law_agree) (defScope s_f_law_agree) .none kV_f_law_agree dc_f_law_agree pm_f_law_agree an_f_law_agree cd_f_law_agree ct_f_law_agree), sl_f_law_agree⟩)
    (q8 : PySem.W.codeIn K cd_f_law_agree "_law_agree" = true)
    (q9 : PySem.W.keepIn K (.ref A_f_law_agree) = true)
    (q10 : PySem.W.nsIn K mainGlobals "is_word_of" = some (some (.ref A_f_is_word_of)))
    (q11 : K.lookup A_f_is_word_of = some ⟨oc_f_is_word_of, od_f_is_word_of, .func (PySem.W.fnOf "is_word_of" "is_word_of" (defArgs s_f_is_word_of) (defBody s_f_is_word_of) (defScope s_f_is_word_of) .none kV_f_is_word_of dc_f_is_word_of pm_f_is_word_of an_f_is_word_of cd_f_is_word_of ct_f_is_word_of), sl_f_is_word_of⟩)
    (q12 : PySem.W.codeIn K cd_f_is_word_of "is_word_of" = true)
    (q13 : PySem.W.keepIn K (.ref A_f_is_word_of) = true)
    (q14 : PySem.W.nsIn K mainGlobals "actions_of" = some (some (.ref A_f_actions_of)))
    (q15 : K.lookup A_f_actions_of = some ⟨oc_f_actions_of, od_f_actions_of, .func (PySem.W.fnOf "actions_of" "actions_of" (defArgs s_f_actions_of) (defBody s_f_actions_of) (defScope s_f_actions_of) .none kV_f_actions_of dc_f_actions_of pm_f_actions_of an_f_actions_of cd_f_actions_of ct_f_actions_of), sl_f_actions_of⟩)
    (q16 : PySem.W.codeIn K cd_f_actions_of "actions_of" = true)
    (q17 : PySem.W.keepIn K (.ref A_f_actions_of) = true)
    (q18 : PySem.W.nsIn K mainGlobals "keeps_of" = some (some (.ref A_f_keeps_of)))
    (q19 : K.lookup A_f_keeps_of = some ⟨oc_f_keeps_of, od_f_keeps_of, .func (PySem.W.fnOf "keeps_of" "keeps_of" (defArgs s_f_keeps_of) (defBody s_f_keeps_of) (defScope s_f_keeps_of) .none kV_f_keeps_of dc_f_keeps_of pm_f_keeps_of an_f_keeps_of cd_f_keeps_of ct_f_keeps_of), sl_f_keeps_of⟩)
    (q20 : PySem.W.codeIn K cd_f_keeps_of "keeps_of" = true)
    (q21 : PySem.W.keepIn K (.ref A_f_keeps_of) = true)
    (q22 : PySem.W.nsIn K mainGlobals "roles_of" = some (some (.ref A_f_roles_of)))
    (q23 : K.lookup A_f_roles_of = some ⟨oc_f_roles_of, od_f_roles_of, .func (PySem.W.fnOf "roles_of" "roles_of" (defArgs s_f_roles_of) (defBody s_f_roles_of) (defScope s_f_roles_of) .none kV_f_roles_of dc_f_roles_of pm_f_roles_of an_f_roles_of cd_f_roles_of ct_f_roles_of), sl_f_roles_of⟩)
    (q24 : PySem.W.codeIn K cd_f_roles_of "roles_of" = true)
    (q25 : PySem.W.keepIn K (.ref A_f_roles_of) = true)
    (q26 : PySem.W.nsIn K mainGlobals "relations_of" = some (some (.ref A_f_relations_of)))
    (q27 : K.lookup A_f_relations_of = some ⟨oc_f_relations_of, od_f_relations_of, .func (PySem.W.fnOf "relations_of" "relations_of" (defArgs s_f_relations_of) (defBody s_f_relations_of) (defScope s_f_relations_of) .none kV_f_relations_of dc_f_relations_of pm_f_relations_of an_f_relations_of cd_f_relations_of ct_f_relations_of), sl_f_relations_of⟩)
    (q28 : PySem.W.codeIn K cd_f_relations_of "relations_of" = true)
    (q29 : PySem.W.keepIn K (.ref A_f_relations_of) = true)
    (q30 : PySem.W.nsIn K mainGlobals "is_book_row" = some (some (.ref A_f_is_book_row)))
    (q31 : K.lookup A_f_is_book_row = some ⟨oc_f_is_book_row, od_f_is_book_row, .func (PySem.W.fnOf "is_book_row" "is_book_row" (defArgs s_f_is_book_row) (defBody s_f_is_book_row) (defScope s_f_is_book_row) .none kV_f_is_book_row dc_f_is_book_row pm_f_is_book_row an_f_is_book_row cd_f_is_book_row ct_f_is_book_row), sl_f_is_book_row⟩)
    (q32 : PySem.W.codeIn K cd_f_is_book_row "is_book_row" = true)
    (q33 : PySem.W.keepIn K (.ref A_f_is_book_row) = true)
    (q34 : PySem.W.nsIn K mainGlobals "check_form" = some (some (.ref A_f_check_form)))
    (q35 : K.lookup A_f_check_form = some ⟨oc_f_check_form, od_f_check_form, .func (PySem.W.fnOf "check_form" "check_form" (defArgs s_f_check_form) (defBody s_f_check_form) (defScope s_f_check_form) .none kV_f_check_form dc_f_check_form pm_f_check_form an_f_check_form cd_f_check_form ct_f_check_form), sl_f_check_form⟩)
    (q36 : PySem.W.codeIn K cd_f_check_form "check_form" = true)
    (q37 : PySem.W.keepIn K (.ref A_f_check_form) = true)
    (q38 : PySem.W.findIn K (.ref C5) "__init__" = some (some (.ref A_M_Book_init_)))
    (q39 : K.lookup A_M_Book_init_ = some ⟨oc_M_Book_init_, od_M_Book_init_, .func (PySem.W.fnOf "__init__" "Book.__init__" (defArgs s_M_Book_init_) (defBody s_M_Book_init_) (defScope s_M_Book_init_) .none kV_M_Book_init_ dc_M_Book_init_ pm_M_Book_init_ an_M_Book_init_ cd_M_Book_init_ ct_M_Book_init_), sl_M_Book_init_⟩)
    (q40 : PySem.W.codeIn K cd_M_Book_init_ "Book.__init__" = true)
    (q41 : PySem.W.keepIn K (.ref A_M_Book_init_) = true)
    (q42 : PySem.W.isFn K (.ref A_M_Book_init_) = true)
    (q43 : PySem.W.findIn K (.ref C4) "__init__" = some (some (.ref A_M_BadText_init_)))
    (q44 : K.lookup A_M_BadText_init_ = some ⟨oc_M_BadText_init_, od_M_BadText_init_, .func (PySem.W.fnOf "__init__" "BadText.__init__" (defArgs s_M_BadText_init_) (defBody s_M_BadText_init_) (defScope s_M_BadText_init_) .none kV_M_BadText_init_ dc_M_BadText_init_ pm_M_BadText_init_ an_M_BadText_init_ cd_M_BadText_init_ ct_M_BadText_init_), sl_M_BadText_init_⟩)
    (q45 : PySem.W.codeIn K cd_M_BadText_init_ "BadText.__init__" = true)
    (q46 : PySem.W.keepIn K (.ref A_M_BadText_init_) = true)
    (q47 : PySem.W.nsIn K mainGlobals "book_row_in" = some (some (.ref A_f_book_row_in)))
    (q48 : K.lookup A_f_book_row_in = some ⟨oc_f_book_row_in, od_f_book_row_in, .func (PySem.W.fnOf "book_row_in" "book_row_in" (defArgs s_f_book_row_in) (defBody s_f_book_row_in) (defScope s_f_book_row_in) .none kV_f_book_row_in dc_f_book_row_in pm_f_book_row_in an_f_book_row_in cd_f_book_row_in ct_f_book_row_in), sl_f_book_row_in⟩)
    (q49 : PySem.W.codeIn K cd_f_book_row_in "book_row_in" = true)
    (q50 : PySem.W.keepIn K (.ref A_f_book_row_in) = true)
    (q51 : PySem.W.nsIn K mainGlobals "check_text" = some (some (.ref A_f_check_text)))
    (q52 : K.lookup A_f_check_text = some ⟨oc_f_check_text, od_f_check_text, .func (PySem.W.fnOf "check_text" "check_text" (defArgs s_f_check_text) (defBody s_f_check_text) (defScope s_f_check_text) .none kV_f_check_text dc_f_check_text pm_f_check_text an_f_check_text cd_f_check_text ct_f_check_text), sl_f_check_text⟩)
    (q53 : PySem.W.codeIn K cd_f_check_text "check_text" = true)
    (q54 : PySem.W.keepIn K (.ref A_f_check_text) = true)
    (q55 : PySem.W.nsIn K mainGlobals "read_book" = some (some (.ref A_f_read_book)))
    (q56 : K.lookup A_f_read_book = some ⟨oc_f_read_book, od_f_read_book, .func (PySem.W.fnOf "read_book" "read_book" (defArgs s_f_read_book) (defBody s_f_read_book) (defScope s_f_read_book) .none kV_f_read_book dc_f_read_book pm_f_read_book an_f_read_book cd_f_read_book ct_f_read_book), sl_f_read_book⟩)
    (q57 : PySem.W.codeIn K cd_f_read_book "read_book" = true)
    (q58 : PySem.W.keepIn K (.ref A_f_read_book) = true)
    (q59 : PySem.W.nsIn K mainGlobals "_law_said" = some (some (.ref A_f_law_said)))
    (q60 : K.lookup A_f_law_said = some ⟨oc_f_law_said, od_f_law_said, .func (PySem.W.fnOf "_law_said" "_law_said" (defArgs s_f_law_said) (defBody s_f_law_said) (defScope s_f_law_said) .none kV_f_law_said dc_f_law_said pm_f_law_said an_f_law_said cd_f_law_said ct_f_law_said), sl_f_law_said⟩)
    (q61 : PySem.W.codeIn K cd_f_law_said "_law_said" = true)
    (q62 : PySem.W.keepIn K (.ref A_f_law_said) = true)
    (q63 : PySem.W.nsIn K mainGlobals "_law_book_words" = some (some (.ref A_f_law_book_words)))
    (q64 : K.lookup A_f_law_book_words = some ⟨oc_f_law_book_words, od_f_law_book_words, .func (PySem.W.fnOf "_law_book_words" "_law_book_words" (defArgs s_f_law_book_words) (defBody s_f_law_book_words) (defScope s_f_law_book_words) .none kV_f_law_book_words dc_f_law_book_words pm_f_law_book_words an_f_law_book_words cd_f_law_book_words ct_f_law_book_words), sl_f_law_book_words⟩)
    (q65 : PySem.W.codeIn K cd_f_law_book_words "_law_book_words" = true)
    (q66 : PySem.W.keepIn K (.ref A_f_law_book_words) = true)
    (q67 : PySem.W.nsIn K mainGlobals "_law_line_row" = some (some (.ref A_f_law_line_row)))
    (q68 : K.lookup A_f_law_line_row = some ⟨oc_f_law_line_row, od_f_law_line_row, .func (PySem.W.fnOf "_law_line_row" "_law_line_row" (defArgs s_f_law_line_row) (defBody s_f_law_line_row) (defScope s_f_law_line_row) .none kV_f_law_line_row dc_f_law_line_row pm_f_law_line_row an_f_law_line_row cd_f_law_line_row ct_f_law_line_row), sl_f_law_line_row⟩)
    (q69 : PySem.W.codeIn K cd_f_law_line_row "_law_line_row" = true)
    (q70 : PySem.W.keepIn K (.ref A_f_law_line_row) = true)
    (q71 : PySem.W.nsIn K mainGlobals "_law_read" = some (some (.ref A_f_law_read)))
    (q72 : K.lookup A_f_law_read = some ⟨oc_f_law_read, od_f_law_read, .func (PySem.W.fnOf "_law_read" "_law_read" (defArgs s_f_law_read) (defBody s_f_law_read) (defScope s_f_law_read) .none kV_f_law_read dc_f_law_read pm_f_law_read an_f_law_read cd_f_law_read ct_f_law_read), sl_f_law_read⟩)
    (q73 : PySem.W.codeIn K cd_f_law_read "_law_read" = true)
    (q74 : PySem.W.keepIn K (.ref A_f_law_read) = true)
    (q75 : PySem.W.nsIn K mainGlobals "_law_read_right" = some (some (.ref A_f_law_read_right)))
    (q76 : K.lookup A_f_law_read_right = some ⟨oc_f_law_read_right, od_f_law_read_right, .func (PySem.W.fnOf "_law_read_right" "_law_read_right" (defArgs s_f_law_read_right) (defBody s_f_law_read_right) (defScope s_f_law_read_right) .none kV_f_law_read_right dc_f_law_read_right pm_f_law_read_right an_f_law_read_right cd_f_law_read_right ct_f_law_read_right), sl_f_law_read_right⟩)
    (q77 : PySem.W.codeIn K cd_f_law_read_right "_law_read_right" = true)
    (q78 : PySem.W.keepIn K (.ref A_f_law_read_right) = true)
    (q79 : PySem.W.nsIn K mainGlobals "book_row_line" = some (some (.ref A_f_book_row_line)))
    (q80 : K.lookup A_f_book_row_line = some ⟨oc_f_book_row_line, od_f_book_row_line, .func (PySem.W.fnOf "book_row_line" "book_row_line" (defArgs s_f_book_row_line) (defBody s_f_book_row_line) (defScope s_f_book_row_line) .none kV_f_book_row_line dc_f_book_row_line pm_f_book_row_line an_f_book_row_line cd_f_book_row_line ct_f_book_row_line), sl_f_book_row_line⟩)
    (q81 : PySem.W.codeIn K cd_f_book_row_line "book_row_line" = true)
    (q82 : PySem.W.keepIn K (.ref A_f_book_row_line) = true)
    (q83 : PySem.W.nsIn K mainGlobals "check_book" = some (some (.ref A_f_check_book)))
    (q84 : K.lookup A_f_check_book = some ⟨oc_f_check_book, od_f_check_book, .func (PySem.W.fnOf "check_book" "check_book" (defArgs s_f_check_book) (defBody s_f_check_book) (defScope s_f_check_book) .none kV_f_check_book dc_f_check_book pm_f_check_book an_f_check_book cd_f_check_book ct_f_check_book), sl_f_check_book⟩)
    (q85 : PySem.W.codeIn K cd_f_check_book "check_book" = true)
    (q86 : PySem.W.keepIn K (.ref A_f_check_book) = true)
    (q87 : PySem.W.nsIn K mainGlobals "show_book" = some (some (.ref A_f_show_book)))
    (q88 : K.lookup A_f_show_book = some ⟨oc_f_show_book, od_f_show_book, .func (PySem.W.fnOf "show_book" "show_book" (defArgs s_f_show_book) (defBody s_f_show_book) (defScope s_f_show_book) .none kV_f_show_book dc_f_show_book pm_f_show_book an_f_show_book cd_f_show_book ct_f_show_book), sl_f_show_book⟩)
    (q89 : PySem.W.codeIn K cd_f_show_book "show_book" = true)
    (q90 : PySem.W.keepIn K (.ref A_f_show_book) = true)
    (q91 : PySem.W.nsIn K mainGlobals "_law_no_book_right" = some (some (.ref A_f_law_no_book_right)))
    (q92 : K.lookup A_f_law_no_book_right = some ⟨oc_f_law_no_book_right, od_f_law_no_book_right, .func (PySem.W.fnOf "_law_no_book_right" "_law_no_book_right" (defArgs s_f_law_no_book_right) (defBody s_f_law_no_book_right) (defScope s_f_law_no_book_right) .none kV_f_law_no_book_right dc_f_law_no_book_right pm_f_law_no_book_right an_f_law_no_book_right cd_f_law_no_book_right ct_f_law_no_book_right), sl_f_law_no_book_right⟩)
    (q93 : PySem.W.codeIn K cd_f_law_no_book_right "_law_no_book_right" = true)
    (q94 : PySem.W.keepIn K (.ref A_f_law_no_book_right) = true)
    (q95 : PySem.W.nsIn K mainGlobals "_law_tap" = some (some (.ref A_f_law_tap)))
    (q96 : K.lookup A_f_law_tap = some ⟨oc_f_law_tap, od_f_law_tap, .func (PySem.W.fnOf "_law_tap" "_law_tap" (defArgs s_f_law_tap) (defBody s_f_law_tap) (defScope s_f_law_tap) .none kV_f_law_tap dc_f_law_tap pm_f_law_tap an_f_law_tap cd_f_law_tap ct_f_law_tap), sl_f_law_tap⟩)
    (q97 : PySem.W.codeIn K cd_f_law_tap "_law_tap" = true)
    (q98 : PySem.W.keepIn K (.ref A_f_law_tap) = true)
    (q99 : PySem.W.nsIn K mainGlobals "_law_row_line" = some (some (.ref A_f_law_row_line)))
    (q100 : K.lookup A_f_law_row_line = some ⟨oc_f_law_row_line, od_f_law_row_line, .func (PySem.W.fnOf "_law_row_line" "_law_row_line" (defArgs s_f_law_row_line) (defBody s_f_law_row_line) (defScope s_f_law_row_line) .none kV_f_law_row_line dc_f_law_row_line pm_f_law_row_line an_f_law_row_line cd_f_law_row_line ct_f_law_row_line), sl_f_law_row_line⟩)
    (q101 : PySem.W.codeIn K cd_f_law_row_line "_law_row_line" = true)
    (q102 : PySem.W.keepIn K (.ref A_f_law_row_line) = true)
    (q103 : PySem.W.nsIn K mainGlobals "_law_any_row" = some (some (.ref A_f_law_any_row)))
    (q104 : K.lookup A_f_law_any_row = some ⟨oc_f_law_any_row, od_f_law_any_row, .func (PySem.W.fnOf "_law_any_row" "_law_any_row" (defArgs s_f_law_any_row) (defBody s_f_law_any_row) (defScope s_f_law_any_row) .none kV_f_law_any_row dc_f_law_any_row pm_f_law_any_row an_f_law_any_row cd_f_law_any_row ct_f_law_any_row), sl_f_law_any_row⟩)
    (q105 : PySem.W.codeIn K cd_f_law_any_row "_law_any_row" = true)
    (q106 : PySem.W.keepIn K (.ref A_f_law_any_row) = true)
    (q107 : PySem.W.nsIn K mainGlobals "_law_bent_text" = some (some (.ref A_f_law_bent_text)))
    (q108 : K.lookup A_f_law_bent_text = some ⟨oc_f_law_bent_text, od_f_law_bent_text, .func (PySem.W.fnOf "_law_bent_text" "_law_bent_text" (defArgs s_f_law_bent_text) (defBody s_f_law_bent_text) (defScope s_f_law_bent_text) .none kV_f_law_bent_text dc_f_law_bent_text pm_f_law_bent_text an_f_law_bent_text cd_f_law_bent_text ct_f_law_bent_text), sl_f_law_bent_text⟩)
    (q109 : PySem.W.codeIn K cd_f_law_bent_text "_law_bent_text" = true)
    (q110 : PySem.W.keepIn K (.ref A_f_law_bent_text) = true)
    (q111 : PySem.W.nsIn K mainGlobals "cases" = some (some (.ref A_f_cases)))
    (q112 : K.lookup A_f_cases = some ⟨oc_f_cases, od_f_cases, .func (PySem.W.fnOf "cases" "cases" (defArgs s_f_cases) (defBody s_f_cases) (defScope s_f_cases) .none kV_f_cases dc_f_cases pm_f_cases an_f_cases cd_f_cases ct_f_cases), sl_f_cases⟩)
    (q113 : PySem.W.codeIn K cd_f_cases "cases" = true)
    (q114 : PySem.W.keepIn K (.ref A_f_cases) = true)
    (q115 : PySem.W.nsIn K mainGlobals "is_for" = some (some (.ref A_f_is_for)))
    (q116 : K.lookup A_f_is_for = some ⟨oc_f_is_for, od_f_is_for, .func (PySem.W.fnOf "is_for" "is_for" (defArgs s_f_is_for) (defBody s_f_is_for) (defScope s_f_is_for) .none kV_f_is_for dc_f_is_for pm_f_is_for an_f_is_for cd_f_is_for ct_f_is_for), sl_f_is_for⟩)
    (q117 : PySem.W.codeIn K cd_f_is_for "is_for" = true)
    (q118 : PySem.W.keepIn K (.ref A_f_is_for) = true)
    (q119 : PySem.W.nsIn K mainGlobals "told_for" = some (some (.ref A_f_told_for)))
    (q120 : K.lookup A_f_told_for = some ⟨oc_f_told_for, od_f_told_for, .func (PySem.W.fnOf "told_for" "told_for" (defArgs s_f_told_for) (defBody s_f_told_for) (defScope s_f_told_for) .none kV_f_told_for dc_f_told_for pm_f_told_for an_f_told_for cd_f_told_for ct_f_told_for), sl_f_told_for⟩)
    (q121 : PySem.W.codeIn K cd_f_told_for "told_for" = true)
    (q122 : PySem.W.keepIn K (.ref A_f_told_for) = true)
    (q123 : PySem.W.nsIn K mainGlobals "is_case" = some (some (.ref A_f_is_case)))
    (q124 : K.lookup A_f_is_case = some ⟨oc_f_is_case, od_f_is_case, .func (PySem.W.fnOf "is_case" "is_case" (defArgs s_f_is_case) (defBody s_f_is_case) (defScope s_f_is_case) .none kV_f_is_case dc_f_is_case pm_f_is_case an_f_is_case cd_f_is_case ct_f_is_case), sl_f_is_case⟩)
    (q125 : PySem.W.codeIn K cd_f_is_case "is_case" = true)
    (q126 : PySem.W.keepIn K (.ref A_f_is_case) = true)
    (q127 : PySem.W.nsIn K mainGlobals "check_case" = some (some (.ref A_f_check_case)))
    (q128 : K.lookup A_f_check_case = some ⟨oc_f_check_case, od_f_check_case, .func (PySem.W.fnOf "check_case" "check_case" (defArgs s_f_check_case) (defBody s_f_check_case) (defScope s_f_check_case) .none kV_f_check_case dc_f_check_case pm_f_check_case an_f_check_case cd_f_check_case ct_f_check_case), sl_f_check_case⟩)
    (q129 : PySem.W.codeIn K cd_f_check_case "check_case" = true)
    (q130 : PySem.W.keepIn K (.ref A_f_check_case) = true)
    (q131 : PySem.W.findIn K (.ref C5) "with_case" = some (some (.ref A_M_Book_with_case)))
    (q132 : K.lookup A_M_Book_with_case = some ⟨oc_M_Book_with_case, od_M_Book_with_case, .func (PySem.W.fnOf "with_case" "Book.with_case" (defArgs s_M_Book_with_case) (defBody s_M_Book_with_case) (defScope s_M_Book_with_case) .none kV_M_Book_with_case dc_M_Book_with_case pm_M_Book_with_case an_M_Book_with_case cd_M_Book_with_case ct_M_Book_with_case), sl_M_Book_with_case⟩)
    (q133 : PySem.W.codeIn K cd_M_Book_with_case "Book.with_case" = true)
    (q134 : PySem.W.keepIn K (.ref A_M_Book_with_case) = true)
    (q135 : PySem.W.isFn K (.ref A_M_Book_with_case) = true)
    (q136 : PySem.W.findIn K (.ref C5) "in_form" = some (some (.ref A_M_Book_in_form)))
    (q137 : K.lookup A_M_Book_in_form = some ⟨oc_M_Book_in_form, od_M_Book_in_form, .func (PySem.W.fnOf "in_form" "Book.in_form" (defArgs s_M_Book_in_form) (defBody s_M_Book_in_form) (defScope s_M_Book_in_form) .none kV_M_Book_in_form dc_M_Book_in_form pm_M_Book_in_form an_M_Book_in_form cd_M_Book_in_form ct_M_Book_in_form), sl_M_Book_in_form⟩)
    (q138 : PySem.W.codeIn K cd_M_Book_in_form "Book.in_form" = true)
    (q139 : PySem.W.keepIn K (.ref A_M_Book_in_form) = true)
    (q140 : PySem.W.isFn K (.ref A_M_Book_in_form) = true)
    (q141 : PySem.W.nsIn K mainGlobals "_law_cases" = some (some (.ref A_f_law_cases)))
    (q142 : K.lookup A_f_law_cases = some ⟨oc_f_law_cases, od_f_law_cases, .func (PySem.W.fnOf "_law_cases" "_law_cases" (defArgs s_f_law_cases) (defBody s_f_law_cases) (defScope s_f_law_cases) .none kV_f_law_cases dc_f_law_cases pm_f_law_cases an_f_law_cases cd_f_law_cases ct_f_law_cases), sl_f_law_cases⟩)
    (q143 : PySem.W.codeIn K cd_f_law_cases "_law_cases" = true)
    (q144 : PySem.W.keepIn K (.ref A_f_law_cases) = true)
    (q145 : PySem.W.nsIn K mainGlobals "_law_told" = some (some (.ref A_f_law_told)))
    (q146 : K.lookup A_f_law_told = some ⟨oc_f_law_told, od_f_law_told, .func (PySem.W.fnOf "_law_told" "_law_told" (defArgs s_f_law_told) (defBody s_f_law_told) (defScope s_f_law_told) .none kV_f_law_told dc_f_law_told pm_f_law_told an_f_law_told cd_f_law_told ct_f_law_told), sl_f_law_told⟩)
    (q147 : PySem.W.codeIn K cd_f_law_told "_law_told" = true)
    (q148 : PySem.W.keepIn K (.ref A_f_law_told) = true)
    (q149 : PySem.W.nsIn K mainGlobals "_law_cask" = some (some (.ref A_f_law_cask)))
    (q150 : K.lookup A_f_law_cask = some ⟨oc_f_law_cask, od_f_law_cask, .func (PySem.W.fnOf "_law_cask" "_law_cask" (defArgs s_f_law_cask) (defBody s_f_law_cask) (defScope s_f_law_cask) .none kV_f_law_cask dc_f_law_cask pm_f_law_cask an_f_law_cask cd_f_law_cask ct_f_law_cask), sl_f_law_cask⟩)
    (q151 : PySem.W.codeIn K cd_f_law_cask "_law_cask" = true)
    (q152 : PySem.W.keepIn K (.ref A_f_law_cask) = true)
    (q153 : PySem.W.nsIn K mainGlobals "law" = some (some (.ref A_f_law)))
    (q154 : K.lookup A_f_law = some ⟨oc_f_law, od_f_law, .func (PySem.W.fnOf "law" "law" (defArgs s_f_law) (defBody s_f_law) (defScope s_f_law) .none kV_f_law dc_f_law pm_f_law an_f_law cd_f_law ct_f_law), sl_f_law⟩)
    (q155 : PySem.W.codeIn K cd_f_law "law" = true)
    (q156 : PySem.W.keepIn K (.ref A_f_law) = true)
    (q157 : PySem.W.findIn K (.ref C5) "__iter__" = some (some (.ref A_M_Book_iter_)))
    (q158 : K.lookup A_M_Book_iter_ = some ⟨oc_M_Book_iter_, od_M_Book_iter_, .func (PySem.W.fnOf "__iter__" "Book.__iter__" (defArgs s_M_Book_iter_) (defBody s_M_Book_iter_) (defScope s_M_Book_iter_) .none kV_M_Book_iter_ dc_M_Book_iter_ pm_M_Book_iter_ an_M_Book_iter_ cd_M_Book_iter_ ct_M_Book_iter_), sl_M_Book_iter_⟩)
    (q159 : PySem.W.codeIn K cd_M_Book_iter_ "Book.__iter__" = true)
    (q160 : PySem.W.keepIn K (.ref A_M_Book_iter_) = true)
    (q161 : PySem.W.isFn K (.ref A_M_Book_iter_) = true)
    (q162 : PySem.W.findIn K (.ref C5) "__len__" = some (some (.ref A_M_Book_len_)))
    (q163 : K.lookup A_M_Book_len_ = some ⟨oc_M_Book_len_, od_M_Book_len_, .func (PySem.W.fnOf "__len__" "Book.__len__" (defArgs s_M_Book_len_) (defBody s_M_Book_len_) (defScope s_M_Book_len_) .none kV_M_Book_len_ dc_M_Book_len_ pm_M_Book_len_ an_M_Book_len_ cd_M_Book_len_ ct_M_Book_len_), sl_M_Book_len_⟩)
    (q164 : PySem.W.codeIn K cd_M_Book_len_ "Book.__len__" = true)
    (q165 : PySem.W.keepIn K (.ref A_M_Book_len_) = true)
    (q166 : PySem.W.isFn K (.ref A_M_Book_len_) = true)
    (q167 : PySem.W.nsIn K mainGlobals "abs" = some none)
    (q168 : PySem.W.nsIn K mainGlobals "all" = some none)
    (q169 : PySem.W.nsIn K mainGlobals "bool" = some none)
    (q170 : PySem.W.nsIn K mainGlobals "enumerate" = some none)
    (q171 : PySem.W.nsIn K mainGlobals "int" = some none)
    (q172 : PySem.W.nsIn K mainGlobals "isinstance" = some none)
    (q173 : PySem.W.nsIn K mainGlobals "len" = some none)
    (q174 : PySem.W.nsIn K mainGlobals "list" = some none)
    (q175 : PySem.W.nsIn K mainGlobals "max" = some none)
    (q176 : PySem.W.nsIn K mainGlobals "min" = some none)
    (q177 : PySem.W.nsIn K mainGlobals "range" = some none)
    (q178 : PySem.W.nsIn K mainGlobals "str" = some none)
    (q179 : PySem.W.nsIn K mainGlobals "tuple" = some none)
    (q180 : PySem.W.nsIn K mainGlobals "ANY" = some (some (.str "any" tk180)))
    (q181 : PySem.W.nsIn K mainGlobals "AT_SERVERS" = some (some (.ref ta181)))
    (q182 : K.lookup ta181 = some ⟨.type "tuple", td181, .seq #[.str "none" tk181_0, .str "safe" tk181_1, .str "held" tk181_2, .str "behind" tk181_3, .str "lost" tk181_4] tn181, ts181⟩)
    (q183 : PySem.W.nsIn K mainGlobals "BETWEEN_MARKS" = some (some (.ref ta183)))
    (q184 : K.lookup ta183 = some ⟨.type "tuple", td183, .seq #[.str "none" tk183_0, .str "first" tk183_1, .str "same" tk183_2, .str "elder" tk183_3, .str "newer" tk183_4] tn183, ts183⟩)
    (q185 : PySem.W.nsIn K mainGlobals "DEED_WORDS" = some (some (.ref ta185)))
    (q186 : K.lookup ta185 = some ⟨.type "tuple", td185, .seq #[.str "read" tk185_0, .str "write" tk185_1, .str "hand" tk185_2] tn185, ts185⟩)
    (q187 : PySem.W.nsIn K mainGlobals "FOLLOWS" = some (some (.str "follows" tk187)))
    (q188 : PySem.W.nsIn K mainGlobals "FORMS" = some (some (.ref ta188)))
    (q189 : K.lookup ta188 = some ⟨.type "tuple", td188, .seq #[.str "termed" tk188_0, .str "bare" tk188_1] tn188, ts188⟩)
    (q190 : PySem.W.nsIn K mainGlobals "HAND" = some (some (.str "hand" tk190)))
    (q191 : PySem.W.nsIn K mainGlobals "HAND_ACTIONS" = some (some (.ref ta191)))
    (q192 : K.lookup ta191 = some ⟨.type "tuple", td191, .seq #[.str "join" tk191_0, .str "put" tk191_1, .str "drop" tk191_2, .str "wait" tk191_3, .str "tell" tk191_4] tn191, ts191⟩)
    (q193 : PySem.W.nsIn K mainGlobals "LEADS" = some (some (.str "leads" tk193)))
    (q194 : PySem.W.nsIn K mainGlobals "MOST_ROWS" = some (some (.int 40 tk194)))
    (q195 : PySem.W.nsIn K mainGlobals "NOTHING" = some (some (.str "nothing" tk195)))
    (q196 : PySem.W.nsIn K mainGlobals "READ" = some (some (.str "read" tk196)))
    (q197 : PySem.W.nsIn K mainGlobals "READ_ACTIONS" = some (some (.ref ta197)))
    (q198 : K.lookup ta197 = some ⟨.type "tuple", td197, .seq #[.str "answer" tk197_0, .str "safe" tk197_1, .str "ask" tk197_2, .str "wait" tk197_3, .str "tell" tk197_4] tn197, ts197⟩)
    (q199 : PySem.W.nsIn K mainGlobals "READ_KEEPS" = some (some (.ref ta199)))
    (q200 : K.lookup ta199 = some ⟨.type "tuple", td199, .seq #[.str "nothing" tk199_0, .str "raise seen" tk199_1, .str "raise end" tk199_2, .str "put seen" tk199_3, .str "put end" tk199_4] tn199, ts199⟩)
    (q201 : PySem.W.nsIn K mainGlobals "SCOPES" = some (some (.ref ta201)))
    (q202 : K.lookup ta201 = some ⟨.type "tuple", td201, .seq #[.str "all" tk201_0, .str "key" tk201_1] tn201, ts201⟩)
    (q203 : PySem.W.nsIn K mainGlobals "WAIT" = some (some (.str "wait" tk203)))
    (q204 : PySem.W.nsIn K mainGlobals "WRITE" = some (some (.str "write" tk204)))
    (q205 : PySem.W.nsIn K mainGlobals "WRITE_ACTIONS" = some (some (.ref ta205)))
    (q206 : K.lookup ta205 = some ⟨.type "tuple", td205, .seq #[.str "take" tk205_0, .str "sure" tk205_1, .str "wait" tk205_2, .str "tell" tk205_3] tn205, ts205⟩)
    (q207 : PySem.W.nsIn K mainGlobals "WRITE_KEEPS" = some (some (.ref ta207)))
    (q208 : K.lookup ta207 = some ⟨.type "tuple", td207, .seq #[.str "nothing" tk207_0, .str "raise" tk207_1, .str "put" tk207_2] tn207, ts207⟩)
    (q209 : PySem.W.subIn K (.ref C2) (.type "BaseException") = some true)
    (q210 : PySem.W.subIn K (.ref C1) (.type "BaseException") = some true)
    (q211 : PySem.W.typeIn K (.ref C2) = some (.type "type"))
    (q212 : PySem.W.typeIn K (.ref C1) = some (.type "type"))
    (q213 : PySem.W.findIn K (.ref C2) "__getattribute__" = some (some (.builtin "BaseException.__getattribute__")))
    (q214 : PySem.W.findIn K (.ref C2) "__getattr__" = some none)
    (q215 : PySem.W.hasDictIn K C2 = true)
    (q216 : PySem.W.findIn K (.ref C2) "__class__" = some (some (.builtin "object.__class__")))
    (q217 : PySem.W.specialIn K (.builtin "object.__class__") "__get__" = some (some (.builtin "getset_descriptor.__get__")))
    (q218 : PySem.W.takesIn K (.builtin "object.__class__") = some true)
    (q219 : PySem.W.mroIn K C2 (.type "object") = some true)
    (q220 : PySem.W.findIn K (.ref C4) "__getattribute__" = some (some (.builtin "BaseException.__getattribute__")))
    (q221 : PySem.W.findIn K (.ref C4) "__getattr__" = some none)
    (q222 : PySem.W.subIn K (.ref C4) (.type "BaseException") = some true)
    (q223 : PySem.W.hasDictIn K C4 = true)
    (q224 : PySem.W.findIn K (.ref C4) "__class__" = some (some (.builtin "object.__class__")))
    (q225 : PySem.W.mroIn K C4 (.type "object") = some true)
    (q226 : PySem.W.subIn K (.ref C5) (.type "NoneType") = some false)
    (q227 : PySem.W.subIn K (.type "NoneType") (.ref C5) = some false)
    (q228 : PySem.W.subIn K (.ref C5) (.type "bool") = some false)
    (q229 : PySem.W.subIn K (.type "bool") (.ref C5) = some false)
    (q230 : PySem.W.subIn K (.ref C5) (.type "int") = some false)
    (q231 : PySem.W.subIn K (.type "int") (.ref C5) = some false)
    (q232 : PySem.W.subIn K (.ref C5) (.type "str") = some false)
    (q233 : PySem.W.subIn K (.type "str") (.ref C5) = some false)
    (q234 : PySem.W.subIn K (.ref C5) (.type "list") = some false)
    (q235 : PySem.W.subIn K (.type "list") (.ref C5) = some false)
    (q236 : PySem.W.subIn K (.ref C5) (.type "tuple") = some false)
    (q237 : PySem.W.subIn K (.type "tuple") (.ref C5) = some false)
    (q238 : PySem.W.plainGet K C5 Str.empty = true)
    (q239 : PySem.W.hasDictIn K C5 = true)
    (q240 : PySem.W.plainOver K C5 = true)
    (q241 : PySem.W.findIn K (.ref C5) "__setattr__" = some (some (.builtin "object.__setattr__")))
    (q242 : PySem.W.findIn K (.ref C5) "__class__" = some (some (.builtin "object.__class__")))
    (q243 : PySem.W.mroIn K C5 (.type "object") = some true)
    (q244 : PySem.W.isClsIn K C5 = true)
    (q245 : PySem.W.typeIn K (.ref C5) = some (.type "type"))
    (q246 : PySem.W.subIn K (.ref C5) (.ref C5) = some true)
    (q247 : PySem.W.isClsIn K C0 = true)
    (q248 : PySem.W.typeIn K (.ref C0) = some (.type "type"))
    (q249 : PySem.W.subIn K (.ref C0) (.ref C0) = some true)
    (q250 : PySem.W.subIn K (.ref C4) (.ref C0) = some true)
    (q251 : PySem.W.isClsIn K C2 = true)
    (q252 : PySem.W.subIn K (.ref C2) (.ref C2) = some true)
    (q253 : PySem.W.subIn K (.ref C4) (.ref C2) = some false)
    (q254 : PySem.W.isClsIn K C3 = true)
    (q255 : PySem.W.typeIn K (.ref C3) = some (.type "type"))
    (q256 : PySem.W.subIn K (.ref C3) (.ref C3) = some true)
    (q257 : PySem.W.subIn K (.ref C4) (.ref C3) = some false)
    (q258 : PySem.W.isClsIn K C4 = true)
    (q259 : PySem.W.typeIn K (.ref C4) = some (.type "type"))
    (q260 : PySem.W.subIn K (.ref C4) (.ref C4) = some true)
    (q261 : PySem.W.subIn K (.ref C2) (.ref C4) = some false)
    (q262 : PySem.W.keepIn K (.ref C2) = true)
    (q263 : PySem.W.keepIn K (.ref C1) = true)
    (q264 : PySem.W.findIn K (.ref C5) "kept_rows" = some none)
    (q265 : PySem.W.findIn K (.ref C5) "marks" = some none)
    (q266 : PySem.W.findIn K (.ref C5) "scope" = some none)
    (q267 : PySem.W.findIn K (.ref C4) "at" = some none)
    (q268 : K.lookup C4 = some (excClassObj xn268 xq268 C4 xN268 xb268 [.ref C0, .type "ValueError", .type "Exception", .type "BaseException", .type "object"] true xl268 xs268 xa268 xc268 xd268 xe268 xf268 xg268 xh268 xi268 "ValueError.__new__"))
    (q269 : PySem.W.findIn K (.ref C4) "__setattr__" = some (some (.builtin "object.__setattr__")))
    (q270 : PySem.W.keepIn K (.ref C4) = true)
    (q271 : PySem.W.excIn K C2 [.type "ValueError", .type "Exception", .type "BaseException", .type "object"] "ValueError.__new__" = true)
    (q272 : PySem.W.excIn K C1 [.type "ValueError", .type "Exception", .type "BaseException", .type "object"] "ValueError.__new__" = true)
    (q273 : PySem.W.nsIn K mainGlobals "iter" = some none)
    (q274 : PySem.W.specialIn K (.ref C0) "__getattribute__" = some (some (.builtin "type.__getattribute__")))
    (q275 : PySem.W.readsIn K C0 (.type "type") = true)
    (q276 : PySem.W.findCls K (.ref C0) (.type "type") "__init__" = some (.val (.builtin "ValueError.__init__")))
    (q277 : PySem.W.typeIn K (.ref A_M_BadText_init_) = some (.type "function"))
    (q278 : PySem.W.makesIn K C5 = true)
    (q279 : PySem.W.keepIn K (.ref C5) = true)
    : ∃ fd : FuncData, (∀ (s : Shared) (v : Value), BindsTo s fd ⟨[v], []⟩ [("script", v)]) ∧ ∀ base : Heap, K.In base → base.Ns mainGlobals mg → FnOk P w K mg base (L2N.CX P w) 9 fa fd ["script"] (spLaw K) := by
  let G : Gx := ⟨K, fun i => match i with | 0 => C0 | 1 => C1 | 2 => C2 | 3 => C3 | 4 => C4 | 5 => C5 | _ => 0, fun _ => 0⟩
  have T : Tx G K mg := {
    b_abs := (PySem.W.mg_none_of X Gm q167),
    b_all := (PySem.W.mg_none_of X Gm q168),
    b_bool := (PySem.W.mg_none_of X Gm q169),
    b_enumerate := (PySem.W.mg_none_of X Gm q170),
    b_int := (PySem.W.mg_none_of X Gm q171),
    b_isinstance := (PySem.W.mg_none_of X Gm q172),
    b_len := (PySem.W.mg_none_of X Gm q173),
    b_list := (PySem.W.mg_none_of X Gm q174),
    b_max := (PySem.W.mg_none_of X Gm q175),
    b_min := (PySem.W.mg_none_of X Gm q176),
    b_range := (PySem.W.mg_none_of X Gm q177),
    b_str := (PySem.W.mg_none_of X Gm q178),
    b_tuple := (PySem.W.mg_none_of X Gm q179),
    c_ANY := (globC_str (PySem.W.mg_of X Gm q180)),
    c_AT_SERVERS := (globC_tup (G := G) (K := K) rfl (us := [.str "none" tk181_0, .str "safe" tk181_1, .str "held" tk181_2, .str "behind" tk181_3, .str "lost" tk181_4]) (vs := [.str "none", .str "safe", .str "held", .str "behind", .str "lost"]) (PySem.W.mg_of X Gm q181) q182 (by show 5 ≤ sizeLine; decide) (.cons ⟨tk181_0, rfl⟩ (.cons ⟨tk181_1, rfl⟩ (.cons ⟨tk181_2, rfl⟩ (.cons ⟨tk181_3, rfl⟩ (.cons ⟨tk181_4, rfl⟩ Paired.nil))))) fun _ _ => (.cons .str (.cons .str (.cons .str (.cons .str (.cons .str .nil)))))),
    c_BETWEEN_MARKS := (globC_tup (G := G) (K := K) rfl (us := [.str "none" tk183_0, .str "first" tk183_1, .str "same" tk183_2, .str "elder" tk183_3, .str "newer" tk183_4]) (vs := [.str "none", .str "first", .str "same", .str "elder", .str "newer"]) (PySem.W.mg_of X Gm q183) q184 (by show 5 ≤ sizeLine; decide) (.cons ⟨tk183_0, rfl⟩ (.cons ⟨tk183_1, rfl⟩ (.cons ⟨tk183_2, rfl⟩ (.cons ⟨tk183_3, rfl⟩ (.cons ⟨tk183_4, rfl⟩ Paired.nil))))) fun _ _ => (.cons .str (.cons .str (.cons .str (.cons .str (.cons .str .nil)))))),
    c_DEED_WORDS := (globC_tup (G := G) (K := K) rfl (us := [.str "read" tk185_0, .str "write" tk185_1, .str "hand" tk185_2]) (vs := [.str "read", .str "write", .str "hand"]) (PySem.W.mg_of X Gm q185) q186 (by show 3 ≤ sizeLine; decide) (.cons ⟨tk185_0, rfl⟩ (.cons ⟨tk185_1, rfl⟩ (.cons ⟨tk185_2, rfl⟩ Paired.nil))) fun _ _ => (.cons .str (.cons .str (.cons .str .nil)))),
    c_FOLLOWS := (globC_str (PySem.W.mg_of X Gm q187)),
    c_FORMS := (globC_tup (G := G) (K := K) rfl (us := [.str "termed" tk188_0, .str "bare" tk188_1]) (vs := [.str "termed", .str "bare"]) (PySem.W.mg_of X Gm q188) q189 (by show 2 ≤ sizeLine; decide) (.cons ⟨tk188_0, rfl⟩ (.cons ⟨tk188_1, rfl⟩ Paired.nil)) fun _ _ => (.cons .str (.cons .str .nil))),
    c_HAND := (globC_str (PySem.W.mg_of X Gm q190)),
    c_HAND_ACTIONS := (globC_tup (G := G) (K := K) rfl (us := [.str "join" tk191_0, .str "put" tk191_1, .str "drop" tk191_2, .str "wait" tk191_3, .str "tell" tk191_4]) (vs := [.str "join", .str "put", .str "drop", .str "wait", .str "tell"]) (PySem.W.mg_of X Gm q191) q192 (by show 5 ≤ sizeLine; decide) (.cons ⟨tk191_0, rfl⟩ (.cons ⟨tk191_1, rfl⟩ (.cons ⟨tk191_2, rfl⟩ (.cons ⟨tk191_3, rfl⟩ (.cons ⟨tk191_4, rfl⟩ Paired.nil))))) fun _ _ => (.cons .str (.cons .str (.cons .str (.cons .str (.cons .str .nil)))))),
    c_LEADS := (globC_str (PySem.W.mg_of X Gm q193)),
    c_MOST_ROWS := (globC_int (PySem.W.mg_of X Gm q194)),
    c_NOTHING := (globC_str (PySem.W.mg_of X Gm q195)),
    c_READ := (globC_str (PySem.W.mg_of X Gm q196)),
    c_READ_ACTIONS := (globC_tup (G := G) (K := K) rfl (us := [.str "answer" tk197_0, .str "safe" tk197_1, .str "ask" tk197_2, .str "wait" tk197_3, .str "tell" tk197_4]) (vs := [.str "answer", .str "safe", .str "ask", .str "wait", .str "tell"]) (PySem.W.mg_of X Gm q197) q198 (by show 5 ≤ sizeLine; decide) (.cons ⟨tk197_0, rfl⟩ (.cons ⟨tk197_1, rfl⟩ (.cons ⟨tk197_2, rfl⟩ (.cons ⟨tk197_3, rfl⟩ (.cons ⟨tk197_4, rfl⟩ Paired.nil))))) fun _ _ => (.cons .str (.cons .str (.cons .str (.cons .str (.cons .str .nil)))))),
    c_READ_KEEPS := (globC_tup (G := G) (K := K) rfl (us := [.str "nothing" tk199_0, .str "raise seen" tk199_1, .str "raise end" tk199_2, .str "put seen" tk199_3, .str "put end" tk199_4]) (vs := [.str "nothing", .str "raise seen", .str "raise end", .str "put seen", .str "put end"]) (PySem.W.mg_of X Gm q199) q200 (by show 5 ≤ sizeLine; decide) (.cons ⟨tk199_0, rfl⟩ (.cons ⟨tk199_1, rfl⟩ (.cons ⟨tk199_2, rfl⟩ (.cons ⟨tk199_3, rfl⟩ (.cons ⟨tk199_4, rfl⟩ Paired.nil))))) fun _ _ => (.cons .str (.cons .str (.cons .str (.cons .str (.cons .str .nil)))))),
    c_SCOPES := (globC_tup (G := G) (K := K) rfl (us := [.str "all" tk201_0, .str "key" tk201_1]) (vs := [.str "all", .str "key"]) (PySem.W.mg_of X Gm q201) q202 (by show 2 ≤ sizeLine; decide) (.cons ⟨tk201_0, rfl⟩ (.cons ⟨tk201_1, rfl⟩ Paired.nil)) fun _ _ => (.cons .str (.cons .str .nil))),
    c_WAIT := (globC_str (PySem.W.mg_of X Gm q203)),
    c_WRITE := (globC_str (PySem.W.mg_of X Gm q204)),
    c_WRITE_ACTIONS := (globC_tup (G := G) (K := K) rfl (us := [.str "take" tk205_0, .str "sure" tk205_1, .str "wait" tk205_2, .str "tell" tk205_3]) (vs := [.str "take", .str "sure", .str "wait", .str "tell"]) (PySem.W.mg_of X Gm q205) q206 (by show 4 ≤ sizeLine; decide) (.cons ⟨tk205_0, rfl⟩ (.cons ⟨tk205_1, rfl⟩ (.cons ⟨tk205_2, rfl⟩ (.cons ⟨tk205_3, rfl⟩ Paired.nil)))) fun _ _ => (.cons .str (.cons .str (.cons .str (.cons .str .nil))))),
    c_WRITE_KEEPS := (globC_tup (G := G) (K := K) rfl (us := [.str "nothing" tk207_0, .str "raise" tk207_1, .str "put" tk207_2]) (vs := [.str "nothing", .str "raise", .str "put"]) (PySem.W.mg_of X Gm q207) q208 (by show 3 ≤ sizeLine; decide) (.cons ⟨tk207_0, rfl⟩ (.cons ⟨tk207_1, rfl⟩ (.cons ⟨tk207_2, rfl⟩ Paired.nil))) fun _ _ => (.cons .str (.cons .str (.cons .str .nil)))),
    eb_BadBook := q209,
    eb_BadCase := q210,
    et_BadBook := q211,
    et_BadCase := q212,
    ex_BadBook := ⟨q213, q214, q209, q215, q216, q217, q218, q219⟩,
    ex_BadText := ⟨q220, q221, q222, q223, q224, q217, q218, q225⟩,
    g_BadBook := (PySem.W.mg_of X Gm q2),
    g_BadCase := (PySem.W.mg_of X Gm q1),
    g_BadCommand := (PySem.W.mg_of X Gm q3),
    g_BadText := (PySem.W.mg_of X Gm q4),
    g_Book := (PySem.W.mg_of X Gm q5),
    g_StoreError := (PySem.W.mg_of X Gm q0),
    is := (isOk_one (G := G) (c := 5) ⟨q238, q239, q240, q241⟩ q242 q243 q217 q218 q244 q245 q246 (fun n hn => by
    rcases List.mem_cons.mp hn with rfl | hn
    · exact ⟨q226, q227⟩
    rcases List.mem_cons.mp hn with rfl | hn
    · exact ⟨q228, q229⟩
    rcases List.mem_cons.mp hn with rfl | hn
    · exact ⟨q230, q231⟩
    rcases List.mem_cons.mp hn with rfl | hn
    · exact ⟨q232, q233⟩
    rcases List.mem_cons.mp hn with rfl | hn
    · exact ⟨q234, q235⟩
    rcases List.mem_cons.mp hn with rfl | hn
    · exact ⟨q236, q237⟩
    cases hn)),
    k_Book := ⟨q238, q239, q240, q241⟩,
    ki_BadText_StoreError := (kit_own q247 q248 q249 q250),
    kj_BadText_BadBook_BadCommand := (kit_any2 (kit_own q251 q211 q252 q253) (kit_own q254 q255 q256 q257)),
    kn_BadBook_BadText := (kit_own q258 q259 q260 q261),
    kp_BadBook := q262,
    kp_BadCase := q263,
    n_Book_kept_rows := q264,
    n_Book_marks := q265,
    n_Book_scope := q266,
    no_BadText_at := q267,
    o_BadText := ⟨⟨_, _, _, _, _, _, _, _, _, _, _, _, _, _, _, q268, (refsVE_own (by decide +kernel))⟩, q269, q222, q259, q270⟩,
    te_BadBook := (exm_own q209 q251 q211 q252),
    te_BadText := (exm_own q222 q258 q259 q260),
    x_BadBook := q271,
    x_BadCase := q272,
    xf_BadText := ⟨q220, q221, q222, q223⟩ }
  have F_f_law_agree := fun_mk (st := s_f_law_agree) q7 q8 q9
  have B_f_law_agree := F_f_law_agree.binds (ps := ["found", "due"]) fun _ _ _ _ _ _ us hl => match us, hl with | [_, _], _ => rfl
  have F_f_is_word_of := fun_mk (st := s_f_is_word_of) q11 q12 q13
  have B_f_is_word_of := F_f_is_word_of.binds (ps := ["words", "thing"]) fun _ _ _ _ _ _ us hl => match us, hl with | [_, _], _ => rfl
  have F_f_actions_of := fun_mk (st := s_f_actions_of) q15 q16 q17
  have B_f_actions_of := F_f_actions_of.binds (ps := ["deed"]) fun _ _ _ _ _ _ us hl => match us, hl with | [_], _ => rfl
  have F_f_keeps_of := fun_mk (st := s_f_keeps_of) q19 q20 q21
  have B_f_keeps_of := F_f_keeps_of.binds (ps := ["deed"]) fun _ _ _ _ _ _ us hl => match us, hl with | [_], _ => rfl
  have F_f_roles_of := fun_mk (st := s_f_roles_of) q23 q24 q25
  have B_f_roles_of := F_f_roles_of.binds (ps := ["deed"]) fun _ _ _ _ _ _ us hl => match us, hl with | [_], _ => rfl
  have F_f_relations_of := fun_mk (st := s_f_relations_of) q27 q28 q29
  have B_f_relations_of := F_f_relations_of.binds (ps := ["deed"]) fun _ _ _ _ _ _ us hl => match us, hl with | [_], _ => rfl
  have F_f_is_book_row := fun_mk (st := s_f_is_book_row) q31 q32 q33
  have B_f_is_book_row := F_f_is_book_row.binds (ps := ["thing"]) fun _ _ _ _ _ _ us hl => match us, hl with | [_], _ => rfl
  have F_f_check_form := fun_mk (st := s_f_check_form) q35 q36 q37
  have B_f_check_form := F_f_check_form.binds (ps := ["marks", "scope"]) fun _ _ _ _ _ _ us hl => match us, hl with | [_, _], _ => rfl
  have F_M_Book_init_ := fun_mk (st := s_M_Book_init_) q39 q40 q41
  have B_M_Book_init_ := F_M_Book_init_.binds (ps := ["self", "marks", "scope", "rows"]) fun _ _ _ _ _ _ us hl => match us, hl with | [_, _, _, _], _ => rfl
  have F_M_BadText_init_ := fun_mk (st := s_M_BadText_init_) q44 q45 q46
  have B_M_BadText_init_ := F_M_BadText_init_.binds (ps := ["self", "at"]) fun _ _ _ _ _ _ us hl => match us, hl with | [_, _], _ => rfl
  have F_f_book_row_in := fun_mk (st := s_f_book_row_in) q48 q49 q50
  have B_f_book_row_in := F_f_book_row_in.binds (ps := ["line"]) fun _ _ _ _ _ _ us hl => match us, hl with | [_], _ => rfl
  have F_f_check_text := fun_mk (st := s_f_check_text) q52 q53 q54
  have B_f_check_text := F_f_check_text.binds (ps := ["thing"]) fun _ _ _ _ _ _ us hl => match us, hl with | [_], _ => rfl
  have F_f_read_book := fun_mk (st := s_f_read_book) q56 q57 q58
  have B_f_read_book := F_f_read_book.binds (ps := ["text"]) fun _ _ _ _ _ _ us hl => match us, hl with | [_], _ => rfl
  have F_f_law_said := fun_mk (st := s_f_law_said) q60 q61 q62
  have B_f_law_said := F_f_law_said.binds (ps := ["way", "thing"]) fun _ _ _ _ _ _ us hl => match us, hl with | [_, _], _ => rfl
  have F_f_law_book_words := fun_mk (st := s_f_law_book_words) q64 q65 q66
  have B_f_law_book_words := F_f_law_book_words.binds (ps := ["deed"]) fun _ _ _ _ _ _ us hl => match us, hl with | [_], _ => rfl
  have F_f_law_line_row := fun_mk (st := s_f_law_line_row) q68 q69 q70
  have B_f_law_line_row := F_f_law_line_row.binds (ps := ["line_here"]) fun _ _ _ _ _ _ us hl => match us, hl with | [_], _ => rfl
  have F_f_law_read := fun_mk (st := s_f_law_read) q72 q73 q74
  have B_f_law_read := F_f_law_read.binds (ps := ["text_here"]) fun _ _ _ _ _ _ us hl => match us, hl with | [_], _ => rfl
  have F_f_law_read_right := fun_mk (st := s_f_law_read_right) q76 q77 q78
  have B_f_law_read_right := F_f_law_read_right.binds (ps := ["thing"]) fun _ _ _ _ _ _ us hl => match us, hl with | [_], _ => rfl
  have F_f_book_row_line := fun_mk (st := s_f_book_row_line) q80 q81 q82
  have B_f_book_row_line := F_f_book_row_line.binds (ps := ["row"]) fun _ _ _ _ _ _ us hl => match us, hl with | [_], _ => rfl
  have F_f_check_book := fun_mk (st := s_f_check_book) q84 q85 q86
  have B_f_check_book := F_f_check_book.binds (ps := ["thing"]) fun _ _ _ _ _ _ us hl => match us, hl with | [_], _ => rfl
  have F_f_show_book := fun_mk (st := s_f_show_book) q88 q89 q90
  have B_f_show_book := F_f_show_book.binds (ps := ["book"]) fun _ _ _ _ _ _ us hl => match us, hl with | [_], _ => rfl
  have F_f_law_no_book_right := fun_mk (st := s_f_law_no_book_right) q92 q93 q94
  have B_f_law_no_book_right := F_f_law_no_book_right.binds (ps := []) fun _ _ _ _ _ _ us hl => match us, hl with | [], _ => rfl
  have F_f_law_tap := fun_mk (st := s_f_law_tap) q96 q97 q98
  have B_f_law_tap := F_f_law_tap.binds (ps := ["cask", "span"]) fun _ _ _ _ _ _ us hl => match us, hl with | [_, _], _ => rfl
  have F_f_law_row_line := fun_mk (st := s_f_law_row_line) q100 q101 q102
  have B_f_law_row_line := F_f_law_row_line.binds (ps := ["row"]) fun _ _ _ _ _ _ us hl => match us, hl with | [_], _ => rfl
  have F_f_law_any_row := fun_mk (st := s_f_law_any_row) q104 q105 q106
  have B_f_law_any_row := F_f_law_any_row.binds (ps := ["cask"]) fun _ _ _ _ _ _ us hl => match us, hl with | [_], _ => rfl
  have F_f_law_bent_text := fun_mk (st := s_f_law_bent_text) q108 q109 q110
  have B_f_law_bent_text := F_f_law_bent_text.binds (ps := ["cask", "text_here"]) fun _ _ _ _ _ _ us hl => match us, hl with | [_, _], _ => rfl
  have F_f_cases := fun_mk (st := s_f_cases) q112 q113 q114
  have B_f_cases := F_f_cases.binds (ps := []) fun _ _ _ _ _ _ us hl => match us, hl with | [], _ => rfl
  have F_f_is_for := fun_mk (st := s_f_is_for) q116 q117 q118
  have B_f_is_for := F_f_is_for.binds (ps := ["row", "case"]) fun _ _ _ _ _ _ us hl => match us, hl with | [_, _], _ => rfl
  have F_f_told_for := fun_mk (st := s_f_told_for) q120 q121 q122
  have B_f_told_for := F_f_told_for.binds (ps := ["rows", "case"]) fun _ _ _ _ _ _ us hl => match us, hl with | [_, _], _ => rfl
  have F_f_is_case := fun_mk (st := s_f_is_case) q124 q125 q126
  have B_f_is_case := F_f_is_case.binds (ps := ["thing"]) fun _ _ _ _ _ _ us hl => match us, hl with | [_], _ => rfl
  have F_f_check_case := fun_mk (st := s_f_check_case) q128 q129 q130
  have B_f_check_case := F_f_check_case.binds (ps := ["thing"]) fun _ _ _ _ _ _ us hl => match us, hl with | [_], _ => rfl
  have F_M_Book_with_case := fun_mk (st := s_M_Book_with_case) q132 q133 q134
  have B_M_Book_with_case := F_M_Book_with_case.binds (ps := ["self", "case", "action", "keep"]) fun _ _ _ _ _ _ us hl => match us, hl with | [_, _, _, _], _ => rfl
  have F_M_Book_in_form := fun_mk (st := s_M_Book_in_form) q137 q138 q139
  have B_M_Book_in_form := F_M_Book_in_form.binds (ps := ["self", "marks", "scope"]) fun _ _ _ _ _ _ us hl => match us, hl with | [_, _, _], _ => rfl
  have F_f_law_cases := fun_mk (st := s_f_law_cases) q142 q143 q144
  have B_f_law_cases := F_f_law_cases.binds (ps := []) fun _ _ _ _ _ _ us hl => match us, hl with | [], _ => rfl
  have F_f_law_told := fun_mk (st := s_f_law_told) q146 q147 q148
  have B_f_law_told := F_f_law_told.binds (ps := ["book_rows", "case_here"]) fun _ _ _ _ _ _ us hl => match us, hl with | [_, _], _ => rfl
  have F_f_law_cask := fun_mk (st := s_f_law_cask) q150 q151 q152
  have B_f_law_cask := F_f_law_cask.binds (ps := ["script", "at"]) fun _ _ _ _ _ _ us hl => match us, hl with | [_, _], _ => rfl
  have F_f_law := fun_mk (st := s_f_law) q154 q155 q156
  have B_f_law := F_f_law.binds (ps := ["script"]) fun _ _ _ _ _ _ us hl => match us, hl with | [_], _ => rfl
  have F_M_Book_iter_ := fun_mk (st := s_M_Book_iter_) q158 q159 q160
  have B_M_Book_iter_ := F_M_Book_iter_.binds (ps := ["self"]) fun _ _ _ _ _ _ us hl => match us, hl with | [_], _ => rfl
  have F_M_Book_len_ := fun_mk (st := s_M_Book_len_) q163 q164 q165
  have B_M_Book_len_ := F_M_Book_len_.binds (ps := ["self"]) fun _ _ _ _ _ _ us hl => match us, hl with | [_], _ => rfl
  refine ⟨PySem.W.fnOf "law" "law" (defArgs s_f_law) (defBody s_f_law) (defScope s_f_law) .none kV_f_law dc_f_law pm_f_law an_f_law cd_f_law ct_f_law, fun s v => .of_eq rfl, fun base hb1 hb2 => (?_ : FnOk P w K mg base (L2N.CX P w) 9 _ _ ["script"] (spD G 1 f_law)).imp (spLaw_imp (G := G) hlaw)⟩
  have it_Book : ItFn P w K mg base C5 A_M_Book_iter_ "kept_rows" 1 := itFn_mk F_M_Book_iter_ sc_M_Book_iter_ B_M_Book_iter_ q157 q161 ⟨q238, q239, q240, q241⟩ q264 fun cdv A outer s H E => pss_one (ps_ret (pe_callB call_iterT (by rfl) (PySem.W.mg_none_of X Gm q273) (by decide +kernel) (pa_cons (pe_fld (pv 0) rfl) pa_nil)))
  have len_Book : LenFn P w K mg base C5 A_M_Book_len_ "kept_rows" 1 := lenFn_mk F_M_Book_len_ sc_M_Book_len_ B_M_Book_len_ q162 q166 ⟨q238, q239, q240, q241⟩ q264 fun cdv A outer s H E => pss_one (ps_ret (pe_callB call_len_seq (by rfl) (PySem.W.mg_none_of X Gm q173) (by decide +kernel) (pa_cons (pe_fld (pv 0) rfl) pa_nil)))
  have h_f_law_agree : Fn G P w K mg base "_law_agree" 6 ["found", "due"] (f_law_agree 6) := ⟨_, _, ok_f_law_agree F_f_law_agree rfl T (PySem.W.mg_of X Gm q6) B_f_law_agree  _, (PySem.W.mg_of X Gm q6), q9, B_f_law_agree⟩
  have o_f_is_word_of := ok_f_is_word_of F_f_is_word_of rfl T  (P := P) (w := w) (base := base) (G := G)
  have h_f_is_word_of : Fn G P w K mg base "is_word_of" 1 ["words", "thing"] f_is_word_of := ⟨_, _, o_f_is_word_of, (PySem.W.mg_of X Gm q10), q13, B_f_is_word_of⟩
  have o_f_actions_of := ok_f_actions_of F_f_actions_of rfl T  (P := P) (w := w) (base := base) (G := G)
  have h_f_actions_of : Fn G P w K mg base "actions_of" 1 ["deed"] f_actions_of := ⟨_, _, o_f_actions_of, (PySem.W.mg_of X Gm q14), q17, B_f_actions_of⟩
  have o_f_keeps_of := ok_f_keeps_of F_f_keeps_of rfl T  (P := P) (w := w) (base := base) (G := G)
  have h_f_keeps_of : Fn G P w K mg base "keeps_of" 1 ["deed"] f_keeps_of := ⟨_, _, o_f_keeps_of, (PySem.W.mg_of X Gm q18), q21, B_f_keeps_of⟩
  have o_f_roles_of := ok_f_roles_of F_f_roles_of rfl T  (P := P) (w := w) (base := base) (G := G)
  have h_f_roles_of : Fn G P w K mg base "roles_of" 1 ["deed"] f_roles_of := ⟨_, _, o_f_roles_of, (PySem.W.mg_of X Gm q22), q25, B_f_roles_of⟩
  have o_f_relations_of := ok_f_relations_of F_f_relations_of rfl T  (P := P) (w := w) (base := base) (G := G)
  have h_f_relations_of : Fn G P w K mg base "relations_of" 1 ["deed"] f_relations_of := ⟨_, _, o_f_relations_of, (PySem.W.mg_of X Gm q26), q29, B_f_relations_of⟩
  have o_f_is_book_row := ok_f_is_book_row F_f_is_book_row rfl T h_f_is_word_of h_f_actions_of h_f_keeps_of h_f_roles_of h_f_relations_of (P := P) (w := w) (base := base) (G := G)
  have h_f_is_book_row : Fn G P w K mg base "is_book_row" 2 ["thing"] f_is_book_row := ⟨_, _, o_f_is_book_row, (PySem.W.mg_of X Gm q30), q33, B_f_is_book_row⟩
  have o_f_check_form := ok_f_check_form F_f_check_form rfl T h_f_is_word_of (P := P) (w := w) (base := base) (G := G)
  have h_f_check_form : Fn G P w K mg base "check_form" 2 ["marks", "scope"] f_check_form := ⟨_, _, o_f_check_form, (PySem.W.mg_of X Gm q34), q37, B_f_check_form⟩
  have h_M_Book_init_ := ok_M_Book_init_ F_M_Book_init_ rfl T h_f_is_book_row h_f_check_form (P := P) (w := w) (base := base) (G := G)
  have h_M_BadText_init_ : FnOk P w K mg base (L2N.CX P w) 1 A_M_BadText_init_ _ ["self", "at"] (spX1 C4 "at") := spX1_ok (m := "a text cannot be read") F_M_BadText_init_ sc_M_BadText_init_ rfl (by decide) T.o_BadText T.no_BadText_at fun cdv A outer s H E => pss_cons (ps_expr (pe_binit (C0 := C0) (by rfl) (PySem.W.mg_of X Gm q0) q274 q275 q276 (pa_cons (pv 0) (pa_cons pe_str pa_nil)))) (pss_one (ps_ost (pv 0) (pv 1)))
  have o_f_book_row_in := ok_f_book_row_in F_f_book_row_in rfl T h_f_is_book_row (P := P) (w := w) (base := base) (G := G)
  have h_f_book_row_in : Fn G P w K mg base "book_row_in" 3 ["line"] f_book_row_in := ⟨_, _, o_f_book_row_in, (PySem.W.mg_of X Gm q47), q50, B_f_book_row_in⟩
  have o_f_check_text := ok_f_check_text F_f_check_text rfl T h_M_BadText_init_ B_M_BadText_init_ q43 q277 (P := P) (w := w) (base := base) (G := G)
  have h_f_check_text : Fn G P w K mg base "check_text" 3 ["thing"] f_check_text := ⟨_, _, o_f_check_text, (PySem.W.mg_of X Gm q51), q54, B_f_check_text⟩
  have o_f_read_book := ok_f_read_book F_f_read_book rfl T h_M_Book_init_ B_M_Book_init_ ⟨q278, q38, q42, q279⟩ h_M_BadText_init_ B_M_BadText_init_ q43 q277 h_f_book_row_in h_f_is_word_of h_f_check_text (P := P) (w := w) (base := base) (G := G)
  have h_f_read_book : Fn G P w K mg base "read_book" 5 ["text"] f_read_book := ⟨_, _, o_f_read_book, (PySem.W.mg_of X Gm q55), q58, B_f_read_book⟩
  have kw_f_read_book : FnK G P w K mg base "read_book" 5 ["text"] f_read_book := ⟨_, _, o_f_read_book, (PySem.W.mg_of X Gm q55), q58, fun s ws _ hw => match ws, hw with | [_], _ => .of_eq rfl⟩
  have o_f_law_said := ok_f_law_said F_f_law_said rfl T h_f_read_book kw_f_read_book (P := P) (w := w) (base := base) (G := G)
  have h_f_law_said : Fn G P w K mg base "_law_said" 6 ["way", "thing"] f_law_said := ⟨_, _, o_f_law_said, (PySem.W.mg_of X Gm q59), q62, B_f_law_said⟩
  have o_f_law_book_words := ok_f_law_book_words F_f_law_book_words rfl T  (P := P) (w := w) (base := base) (G := G)
  have h_f_law_book_words : Fn G P w K mg base "_law_book_words" 1 ["deed"] f_law_book_words := ⟨_, _, o_f_law_book_words, (PySem.W.mg_of X Gm q63), q66, B_f_law_book_words⟩
  have o_f_law_line_row := ok_f_law_line_row F_f_law_line_row rfl T h_f_law_book_words (P := P) (w := w) (base := base) (G := G)
  have h_f_law_line_row : Fn G P w K mg base "_law_line_row" 2 ["line_here"] f_law_line_row := ⟨_, _, o_f_law_line_row, (PySem.W.mg_of X Gm q67), q70, B_f_law_line_row⟩
  have o_f_law_read := ok_f_law_read F_f_law_read rfl T h_f_law_line_row (P := P) (w := w) (base := base) (G := G)
  have h_f_law_read : Fn G P w K mg base "_law_read" 3 ["text_here"] f_law_read := ⟨_, _, o_f_law_read, (PySem.W.mg_of X Gm q71), q74, B_f_law_read⟩
  have o_f_law_read_right := ok_f_law_read_right F_f_law_read_right rfl T h_f_law_agree h_f_law_said h_f_law_read it_Book (P := P) (w := w) (base := base) (G := G)
  have h_f_law_read_right : Fn G P w K mg base "_law_read_right" 7 ["thing"] f_law_read_right := ⟨_, _, o_f_law_read_right, (PySem.W.mg_of X Gm q75), q78, B_f_law_read_right⟩
  have o_f_book_row_line := ok_f_book_row_line F_f_book_row_line rfl T  (P := P) (w := w) (base := base) (G := G)
  have h_f_book_row_line : Fn G P w K mg base "book_row_line" 1 ["row"] f_book_row_line := ⟨_, _, o_f_book_row_line, (PySem.W.mg_of X Gm q79), q82, B_f_book_row_line⟩
  have o_f_check_book := ok_f_check_book F_f_check_book rfl T  (P := P) (w := w) (base := base) (G := G)
  have h_f_check_book : Fn G P w K mg base "check_book" 1 ["thing"] f_check_book := ⟨_, _, o_f_check_book, (PySem.W.mg_of X Gm q83), q86, B_f_check_book⟩
  have o_f_show_book := ok_f_show_book F_f_show_book rfl T h_f_book_row_line h_f_check_book it_Book len_Book (P := P) (w := w) (base := base) (G := G)
  have h_f_show_book : Fn G P w K mg base "show_book" 7 ["book"] f_show_book := ⟨_, _, o_f_show_book, (PySem.W.mg_of X Gm q87), q90, B_f_show_book⟩
  have kw_f_show_book : FnK G P w K mg base "show_book" 7 ["book"] f_show_book := ⟨_, _, o_f_show_book, (PySem.W.mg_of X Gm q87), q90, fun s ws _ hw => match ws, hw with | [_], _ => .of_eq rfl⟩
  have o_f_law_no_book_right := ok_f_law_no_book_right F_f_law_no_book_right rfl T h_f_show_book (P := P) (w := w) (base := base) (G := G)
  have h_f_law_no_book_right : Fn G P w K mg base "_law_no_book_right" 8 [] f_law_no_book_right := ⟨_, _, o_f_law_no_book_right, (PySem.W.mg_of X Gm q91), q94, B_f_law_no_book_right⟩
  have o_f_law_tap := ok_f_law_tap F_f_law_tap rfl T  (P := P) (w := w) (base := base) (G := G)
  have h_f_law_tap : Fn G P w K mg base "_law_tap" 1 ["cask", "span"] f_law_tap := ⟨_, _, o_f_law_tap, (PySem.W.mg_of X Gm q95), q98, B_f_law_tap⟩
  have o_f_law_row_line := ok_f_law_row_line F_f_law_row_line rfl T  (P := P) (w := w) (base := base) (G := G)
  have h_f_law_row_line : Fn G P w K mg base "_law_row_line" 1 ["row"] f_law_row_line := ⟨_, _, o_f_law_row_line, (PySem.W.mg_of X Gm q99), q102, B_f_law_row_line⟩
  have o_f_law_any_row := ok_f_law_any_row F_f_law_any_row rfl T h_f_law_tap h_f_law_book_words (P := P) (w := w) (base := base) (G := G)
  have h_f_law_any_row : Fn G P w K mg base "_law_any_row" 2 ["cask"] f_law_any_row := ⟨_, _, o_f_law_any_row, (PySem.W.mg_of X Gm q103), q106, B_f_law_any_row⟩
  have o_f_law_bent_text := ok_f_law_bent_text F_f_law_bent_text rfl T h_f_law_row_line h_f_law_any_row h_f_law_tap (P := P) (w := w) (base := base) (G := G)
  have h_f_law_bent_text : Fn G P w K mg base "_law_bent_text" 3 ["cask", "text_here"] f_law_bent_text := ⟨_, _, o_f_law_bent_text, (PySem.W.mg_of X Gm q107), q110, B_f_law_bent_text⟩
  have o_f_cases := ok_f_cases F_f_cases rfl T h_f_roles_of h_f_relations_of (P := P) (w := w) (base := base) (G := G)
  have h_f_cases : Fn G P w K mg base "cases" 2 [] f_cases := ⟨_, _, o_f_cases, (PySem.W.mg_of X Gm q111), q114, B_f_cases⟩
  have o_f_is_for := ok_f_is_for F_f_is_for rfl T  (P := P) (w := w) (base := base) (G := G)
  have h_f_is_for : Fn G P w K mg base "is_for" 1 ["row", "case"] f_is_for := ⟨_, _, o_f_is_for, (PySem.W.mg_of X Gm q115), q118, B_f_is_for⟩
  have o_f_told_for := ok_f_told_for F_f_told_for rfl T h_f_is_for (P := P) (w := w) (base := base) (G := G)
  have h_f_told_for : Fn G P w K mg base "told_for" 2 ["rows", "case"] f_told_for := ⟨_, _, o_f_told_for, (PySem.W.mg_of X Gm q119), q122, B_f_told_for⟩
  have o_f_is_case := ok_f_is_case F_f_is_case rfl T h_f_is_word_of h_f_roles_of h_f_relations_of (P := P) (w := w) (base := base) (G := G)
  have h_f_is_case : Fn G P w K mg base "is_case" 2 ["thing"] f_is_case := ⟨_, _, o_f_is_case, (PySem.W.mg_of X Gm q123), q126, B_f_is_case⟩
  have o_f_check_case := ok_f_check_case F_f_check_case rfl T h_f_is_case (P := P) (w := w) (base := base) (G := G)
  have h_f_check_case : Fn G P w K mg base "check_case" 3 ["thing"] f_check_case := ⟨_, _, o_f_check_case, (PySem.W.mg_of X Gm q127), q130, B_f_check_case⟩
  have h_M_Book_with_case := ok_M_Book_with_case F_M_Book_with_case rfl T h_M_Book_init_ B_M_Book_init_ ⟨q278, q38, q42, q279⟩ h_f_cases h_f_told_for h_f_is_word_of h_f_actions_of h_f_keeps_of h_f_check_case (P := P) (w := w) (base := base) (G := G)
  have h_M_Book_in_form := ok_M_Book_in_form F_M_Book_in_form rfl T h_M_Book_init_ B_M_Book_init_ ⟨q278, q38, q42, q279⟩ (P := P) (w := w) (base := base) (G := G)
  have o_f_law_cases := ok_f_law_cases F_f_law_cases rfl T h_f_law_book_words (P := P) (w := w) (base := base) (G := G)
  have h_f_law_cases : Fn G P w K mg base "_law_cases" 2 [] f_law_cases := ⟨_, _, o_f_law_cases, (PySem.W.mg_of X Gm q141), q144, B_f_law_cases⟩
  have o_f_law_told := ok_f_law_told F_f_law_told rfl T  (P := P) (w := w) (base := base) (G := G)
  have h_f_law_told : Fn G P w K mg base "_law_told" 1 ["book_rows", "case_here"] f_law_told := ⟨_, _, o_f_law_told, (PySem.W.mg_of X Gm q145), q148, B_f_law_told⟩
  have o_f_law_cask := ok_f_law_cask F_f_law_cask rfl T  (P := P) (w := w) (base := base) (G := G)
  have h_f_law_cask : Fn G P w K mg base "_law_cask" 1 ["script", "at"] f_law_cask := ⟨_, _, o_f_law_cask, (PySem.W.mg_of X Gm q149), q152, B_f_law_cask⟩
  have hl := ok_f_law F_f_law rfl T h_f_law_read_right h_f_law_no_book_right h_f_law_tap h_f_law_bent_text h_f_law_agree h_f_show_book h_M_Book_with_case B_M_Book_with_case ⟨q131, q135, q134⟩ h_M_Book_in_form B_M_Book_in_form ⟨q136, q140, q139⟩ h_f_law_row_line h_f_law_cases h_f_law_told h_M_Book_init_ B_M_Book_init_ ⟨q278, q38, q42, q279⟩ h_f_law_any_row h_f_law_cask kw_f_show_book (P := P) (w := w) (base := base) (G := G)
  have e := hfa.symm.trans (PySem.W.mg_of X Gm q153)
  cases e
  exact hl
theorem walk {l : PySem.W.OpenLaw} {q : Program} {loose : List Str} {XP : (Str → Option Value) → Heap → Prop} {YP : World → Heap → Prop} {d : DefRec} {K : Params → PySem.W.Frag} (hn : l.most = some 63) (hdf : d.params.defaults = []) (hY : ∀ (w : World) (h : Heap), YP w h → (K w.params).In h)
    (F : ∀ (w : World) (mg : Str → Option Value) (fa : Addr) (h : Heap), (K w.params).In h → h.Ns mainGlobals mg → mg d.name = some (.ref fa) → ∃ fd : FuncData, (∀ (s : Shared) (u : Value), BindsTo s fd ⟨[u], []⟩ [("script", u)]) ∧ ∀ base : Heap, (K w.params).In base → base.Ns mainGlobals mg → FnOk l.prog w (K w.params) mg base (L2N.CX l.prog w) 9 fa fd ["script"] (spLaw (K w.params))) :
    PySem.W.WalkO q loose XP YP l.row.toRowW d [] (fun f vs => PySem.call f vs) :=
  L2.walk_of (n := 63) (k := 9) (x := "script") (CX := fun w => L2N.CX l.prog w) (sp := fun w => spLaw (K w.params)) hn (by decide) hdf ⟨rfl, by decide, by decide⟩ hY F (fun _ _ a ns hl _ hS => ⟨a, ns, rfl, hS, hl, fun v _ e => e⟩) fun _ _ _ _ _ z => by obtain ⟨_, _, _, _, _, _, _, _, _, _, _, _, z⟩ := z; exact z
end K50
namespace Tok
open PySem L2
/-! ## evaluation by simp -/
variable {ρ : Env} {S : Sto} {m n mo mv mi ma mb : Den} {na : DenA} {t u : DenT} {a b : DenS}
def fin : R Fl → R D
  | .ok (.rt d) S => .ok d S
  | .ok (.nx _) S => .ok .non S
  | .ok _ _ => .bad
  | .exn c fs S => .exn c fs S
  | .bad => .bad
@[simp] theorem fin_rt {d : D} : fin (.ok (.rt d) S) = .ok d S := rfl
@[simp] theorem fin_nx : fin (.ok (.nx ρ) S) = .ok .non S := rfl
@[simp] theorem fin_exn {c : Nat} {fs : List (Str × D)} : fin (.exn c fs S) = .exn c fs S := rfl
@[simp] theorem fin_bad : fin .bad = .bad := rfl
theorem dFn_eq (k : Nat) (body : DenS) (ds : List D) (S : Sto) : dFn k body ds S = fin (body (startD k ds) S) := by
  unfold dFn
  cases h : body (startD k ds) S with
  | bad => rfl
  | exn => rfl
  | ok f S => cases f <;> rfl
def look (o : Option (Option D)) (S : Sto) : R D := match o with
  | some (some d) => .ok d S
  | _ => .bad
@[simp] theorem look_some {d : D} : look (some (some d)) S = .ok d S := rfl
@[simp] theorem e_dVar {i : Nat} : dVar i ρ S = look ρ[i]? S := by unfold dVar look; rfl
@[simp] theorem e_dC {d : D} : dC d ρ S = .ok d S := rfl
@[simp] theorem e_dOp1 {f : P1} : dOp1 f m ρ S = (m ρ S).bind fun x S1 => R.ofO (f S1 x) S1 := rfl
@[simp] theorem e_dOp2 {f : P2} : dOp2 f m n ρ S = (m ρ S).bind fun x S1 => (n ρ S1).bind fun y S2 => R.ofO (f S2 x y) S2 := rfl
@[simp] theorem e_dOpN {f : PN} : dOpN f na ρ S = (na ρ S).bind fun x S1 => R.ofO (f S1 x) S1 := rfl
@[simp] theorem asB_ok {c : Bool} : asB (.ok (.bl c) S) = .ok c S := rfl
@[simp] theorem asB_bad : asB .bad = .bad := rfl
@[simp] theorem e_dTest : dTest m ρ S = asB (m ρ S) := rfl
@[simp] theorem e_dNotT : dNotT t ρ S = (t ρ S).bind fun b S1 => .ok (!b) S1 := rfl
@[simp] theorem e_dAndT : dAndT t u ρ S = (t ρ S).bind fun b S1 => if b then u ρ S1 else .ok false S1 := rfl
@[simp] theorem e_dOrT : dOrT t u ρ S = (t ρ S).bind fun b S1 => if b then .ok true S1 else u ρ S1 := rfl
@[simp] theorem e_dIfE : dIfE t m n ρ S = (t ρ S).bind fun b S1 => if b then m ρ S1 else n ρ S1 := rfl
@[simp] theorem e_dNot : dNot m ρ S = (dTest m ρ S).bind fun b S1 => .ok (.bl (!b)) S1 := rfl
@[simp] theorem e_dAnd : dAnd m n ρ S = (dTest m ρ S).bind fun b S1 => if b then n ρ S1 else .ok (.bl false) S1 := rfl
@[simp] theorem e_dOr : dOr m n ρ S = (dTest m ρ S).bind fun b S1 => if b then .ok (.bl true) S1 else n ρ S1 := rfl
@[simp] theorem e_aNil : aNil ρ S = .ok [] S := rfl
@[simp] theorem e_aCons : aCons m na ρ S = (m ρ S).bind fun x S1 => (na ρ S1).bind fun xs S2 => .ok (x :: xs) S2 := rfl
@[simp] theorem e_sNext : sNext ρ S = .ok (.nx ρ) S := rfl
@[simp] theorem andThen_nx : andThen (.ok (.nx ρ) S) b = b ρ S := rfl
@[simp] theorem andThen_rt {d : D} : andThen (.ok (.rt d) S) b = .ok (.rt d) S := rfl
@[simp] theorem andThen_exn {c : Nat} {fs : List (Str × D)} : andThen (.exn c fs S) b = .exn c fs S := rfl
@[simp] theorem andThen_bad : andThen .bad b = .bad := rfl
@[simp] theorem e_sSeq : sSeq a b ρ S = andThen (a ρ S) b := rfl
@[simp] theorem e_sRet : sRet m ρ S = (m ρ S).bind fun d S1 => .ok (.rt d) S1 := rfl
@[simp] theorem e_sDrop : sDrop m ρ S = (m ρ S).bind fun _ S1 => .ok (.nx ρ) S1 := rfl
@[simp] theorem e_sIf : sIf t a b ρ S = (t ρ S).bind fun c S1 => if c then a ρ S1 else b ρ S1 := rfl
def putT (o : Option Env) (S : Sto) : R Fl := match o with
  | some ρ => .ok (.nx ρ) S
  | none => .bad
@[simp] theorem putT_some : putT (some ρ) S = .ok (.nx ρ) S := rfl
@[simp] theorem e_sAsg {g : Tgt} : sAsg m g ρ S = (m ρ S).bind fun d S1 => putT (g d ρ) S1 := rfl
@[simp] theorem e_tgName {i : Nat} {d : D} : tgName i d ρ = some (ρ.set i (some d)) := rfl
@[simp] theorem e_tgNil : tgNil [] ρ = some ρ := rfl
@[simp] theorem e_tgCons {g : Tgt} {gs : Tgts} {d : D} {ds : List D} : tgCons g gs (d :: ds) ρ = (g d ρ).bind fun ρ1 => gs ds ρ1 := rfl
@[simp] theorem e_dCall {f : DF} : dCall f na ρ S = (na ρ S).bind f := rfl
@[simp] theorem e_dTup : dTup na ρ S = (na ρ S).bind fun xs S1 => sized xs (.ok (.tup xs) S1) := rfl
@[simp] theorem e_dLst : dLst na ρ S = (na ρ S).bind fun xs S1 => sized xs (.ok (.lst xs) S1) := rfl
@[simp] theorem e_dLstS : dLstS na ρ S = (na ρ S).bind fun xs S1 => sized xs (.ok (.ref S1.length) (S1 ++ [.lst xs])) := rfl
@[simp] theorem e_oNone : oNone ρ S = .ok none S := rfl
@[simp] theorem e_sRaise {c : Nat} : sRaise c ρ S = .exn c [] S := rfl
@[simp] theorem e_sRaise1 {c : Nat} {fl : Str} : sRaise1 c fl m ρ S = (m ρ S).bind fun d S1 => .exn c [(fl, d)] S1 := rfl
theorem sized_of {xs : List D} {r : R D} (h : xs.length ≤ 1000) : sized xs r = r := if_pos (Nat.le_trans h (by decide))
def starA (x : D) (S1 : Sto) (na : DenA) (ρ : Env) : R (List D) := match x with
  | .tup xs => (na ρ S1).bind fun ys S2 => .ok (xs ++ ys) S2
  | .lst xs => (na ρ S1).bind fun ys S2 => .ok (xs ++ ys) S2
  | _ => .bad
@[simp] theorem starA_tup {xs : List D} : starA (.tup xs) S na ρ = (na ρ S).bind fun ys S2 => .ok (xs ++ ys) S2 := rfl
@[simp] theorem starA_lst {xs : List D} : starA (.lst xs) S na ρ = (na ρ S).bind fun ys S2 => .ok (xs ++ ys) S2 := rfl
@[simp] theorem e_aStar : aStar m na ρ S = (m ρ S).bind fun x S1 => starA x S1 na ρ := by unfold aStar starA; rfl
theorem start_eq (k : Nat) (ds : List D) : startD k ds = ds.map some ++ List.replicate (k - ds.length) none := rfl
@[simp] theorem bind_ite {α β : Type} {c : Prop} [Decidable c] {x y : R α} {k : α → Sto → R β} : (if c then x else y).bind k = if c then x.bind k else y.bind k := by split <;> rfl
@[simp] theorem bindN_ok {α β : Type} {x : α} {k : α → Sto → R β} : (R.ok x S).bindN k = k x S := rfl
@[simp] theorem bindN_bad {α β : Type} {k : α → Sto → R β} : (R.bad : R α).bindN k = .bad := rfl
@[simp] theorem bindN_ite {α β : Type} {c : Prop} [Decidable c] {x y : R α} {k : α → Sto → R β} : (if c then x else y).bindN k = if c then x.bindN k else y.bindN k := by split <;> rfl
@[simp] theorem e_tYesD : tYesD ρ S = .ok true S := rfl
@[simp] theorem lcD_nil {g : Tgt} {tt : DenT} {te : Den} : lcD g tt te [] ρ S = .ok [] S := rfl
def lcOne (o : Option Env) (tt : DenT) (te : Den) (rest : Sto → R (List D)) (S : Sto) : R (List D) := match o with
  | none => .bad
  | some ρ1 => (tt ρ1 S).bindN fun b S1 => if b then (te ρ1 S1).bindN fun y S2 => (rest S2).bind fun ys S3 => .ok (y :: ys) S3 else rest S1
@[simp] theorem lcOne_some {ρ1 : Env} {tt : DenT} {te : Den} {rest : Sto → R (List D)} : lcOne (some ρ1) tt te rest S = (tt ρ1 S).bindN fun b S1 => if b then (te ρ1 S1).bindN fun y S2 => (rest S2).bind fun ys S3 => .ok (y :: ys) S3 else rest S1 := rfl
@[simp] theorem lcD_cons {g : Tgt} {tt : DenT} {te : Den} {d : D} {ds : List D} : lcD g tt te (d :: ds) ρ S = lcOne (g d ρ) tt te (lcD g tt te ds ρ) S := rfl
theorem e_dLc {mi : DenI} {g : Tgt} {tt : DenT} {te : Den} {vs : List Nat} : dLc mi g tt te vs ρ S = (mi ρ S).bind fun ds S1 => if ds.length ≤ sizeLine then (lcD g tt te ds (wipeD ρ vs) S1).bind fun ys S2 => .ok (.lst ys) S2 else .bad := rfl
theorem lc_map {i : Nat} {te : Den} {h : D → D} : ∀ (ds : List D), (∀ d ∈ ds, te (ρ.set i (some d)) S = .ok (h d) S) → lcD (tgName i) tYesD te ds ρ S = .ok (ds.map h) S
  | [], _ => rfl
  | d :: ds, k => by
    rw [lcD_cons, e_tgName, lcOne_some, e_tYesD, bindN_ok, if_pos rfl, k d List.mem_cons_self, bindN_ok, lc_map ds fun x hx => k x (List.mem_cons_of_mem _ hx)]
    rfl
theorem lc_filt {i : Nat} {tt : DenT} {te : Den} {p : D → Bool} {h : D → D} : ∀ (ds : List D), (∀ d ∈ ds, tt (ρ.set i (some d)) S = .ok (p d) S) → (∀ d ∈ ds, p d = true → te (ρ.set i (some d)) S = .ok (h d) S) → lcD (tgName i) tt te ds ρ S = .ok ((ds.filter p).map h) S
  | [], _, _ => rfl
  | d :: ds, k1, k2 => by
    have ih := lc_filt ds (fun x hx => k1 x (List.mem_cons_of_mem _ hx)) (fun x hx => k2 x (List.mem_cons_of_mem _ hx))
    rw [lcD_cons, e_tgName, lcOne_some, k1 d List.mem_cons_self, bindN_ok]
    cases e : p d with
    | true => rw [if_pos rfl, k2 d List.mem_cons_self e, bindN_ok, ih, List.filter_cons_of_pos e]; rfl
    | false => rw [if_neg Bool.false_ne_true, ih, List.filter_cons_of_neg (by rw [e]; exact Bool.false_ne_true)]
def seqR (d : D) (S : Sto) : R (List D) := match d with
  | .lst ds => .ok ds S
  | .tup ds => .ok ds S
  | _ => .bad
@[simp] theorem seqR_lst {ds : List D} : seqR (.lst ds) S = .ok ds S := rfl
@[simp] theorem seqR_tup {ds : List D} : seqR (.tup ds) S = .ok ds S := rfl
@[simp] theorem e_iAny : iAny m ρ S = (m ρ S).bind fun d S1 => seqR d S1 := rfl
def rngR (ds : List D) (S : Sto) : R (List D) := match ds with
  | [.int j] => if -(2 ^ 62) ≤ j ∧ j < 2 ^ 62 then .ok (rngD 0 j.toNat) S else .bad
  | _ => .bad
@[simp] theorem e_iRange1 : iRange1 na ρ S = (na ρ S).bind fun ds S1 => rngR ds S1 := rfl
theorem rngR_nat {n : Nat} (h : n < 2 ^ 62) : rngR [.int n] S = .ok (rngD 0 n) S := by
  unfold rngR
  dsimp only
  rw [if_pos ⟨by omega, by omega⟩]
  rfl
@[simp] theorem e_sFor {mi : DenI} {g : Tgt} : sFor mi g a ρ S = (mi ρ S).bind fun ds S1 => loopD g a ds ρ S1 := rfl
@[simp] theorem loop_nil {g : Tgt} : loopD g a [] ρ S = .ok (.nx ρ) S := rfl
def loopK (g : Tgt) (a : DenS) (ds : List D) : R Fl → R Fl
  | .ok (.nx ρ) S => loopD g a ds ρ S
  | .ok (.ct ρ) S => loopD g a ds ρ S
  | .ok (.bk ρ) S => .ok (.nx ρ) S
  | .ok (.rt d) S => .ok (.rt d) S
  | .exn c fs S => .exn c fs S
  | .bad => .bad
def loopO (g : Tgt) (a : DenS) (ds : List D) (o : Option Env) (S : Sto) : R Fl := match o with
  | none => .bad
  | some ρ1 => loopK g a ds (a ρ1 S)
@[simp] theorem loopO_some {g : Tgt} {ds : List D} : loopO g a ds (some ρ) S = loopK g a ds (a ρ S) := rfl
@[simp] theorem loopK_nx {g : Tgt} {ds : List D} : loopK g a ds (.ok (.nx ρ) S) = loopD g a ds ρ S := rfl
@[simp] theorem loopK_rt {g : Tgt} {ds : List D} {d : D} : loopK g a ds (.ok (.rt d) S) = .ok (.rt d) S := rfl
@[simp] theorem loopK_exn {g : Tgt} {ds : List D} {c : Nat} {fs : List (Str × D)} : loopK g a ds (.exn c fs S) = .exn c fs S := rfl
@[simp] theorem loop_cons {g : Tgt} {d : D} {ds : List D} : loopD g a (d :: ds) ρ S = loopO g a ds (g d ρ) S := by
  rw [loopD]
  cases h : g d ρ with
  | none => rfl
  | some ρ1 =>
    show (a ρ1 S).bind _ = loopK g a ds (a ρ1 S)
    cases h2 : a ρ1 S with
    | bad => rfl
    | exn => rfl
    | ok f S => cases f <;> rfl
def strMR (f : PM) (o : D) (S1 : Sto) (r : R (List D)) : R D := match o with
  | .str z => r.bind fun ds S2 => R.ofO (f z ds) S2
  | _ => .bad
@[simp] theorem strMR_str {f : PM} {z : Str} {r : R (List D)} : strMR f (.str z) S r = r.bind fun ds S2 => R.ofO (f z ds) S2 := rfl
@[simp] theorem e_dStrM {f : PM} : dStrM f mo na ρ S = (mo ρ S).bind fun o S1 => strMR f o S1 (na ρ S1) := rfl
def optR (d : D) (S : Sto) : R (Option Int) := match d with
  | .int i => .ok (some i) S
  | _ => .bad
end Tok
namespace Tok
open PySem L2
variable {ρ : Env} {S : Sto} {m n mx : Den} {ml mh : DenO}
@[simp] theorem optR_int {i : Int} : optR (.int i) S = .ok (some i) S := rfl
@[simp] theorem e_oSome : oSome m ρ S = (m ρ S).bind fun d S1 => optR d S1 := by unfold oSome optR; rfl
@[simp] theorem e_dSl : dSl mx ml mh ρ S = (mx ρ S).bind fun x S1 => (ml ρ S1).bind fun l S2 => (mh ρ S2).bind fun h S3 => R.ofO (slD x l h) S3 := rfl
theorem start0 (k : Nat) (ds : List D) : startD k ds = ds.map some ++ List.replicate (k - ds.length) none := rfl
end Tok
namespace Tok
@[simp] theorem eqB_ii {a b : Int} : eqB (.int a) (.int b) = some (decide (a = b)) := rfl
@[simp] theorem eqB_ss {a b : PySem.Str} : eqB (.str a) (.str b) = some (decide (a = b)) := rfl
@[simp] theorem eqB_bb {a b : Bool} : eqB (.bl a) (.bl b) = some (decide (a = b)) := rfl
@[simp] theorem eqB_nn : eqB .non .non = some true := rfl
end Tok
namespace Tok
open PySem L2
variable {ρ : Env} {S : Sto} {m n mx mv mo : Den} {na : DenA}
def setFR (o : Option (Nat × List (Str × D))) (c : Nat) (fl : Str) (v : D) (ρ : Env) (S : Sto) : R Fl := match o with
  | some (l, fs) => if fs.length < 1000 then .ok (.nx ρ) (S.set l (.ins c (putD fl v fs))) else .bad
  | none => .bad
@[simp] theorem setFR_some {l c : Nat} {fs : List (Str × D)} {fl : Str} {v : D} : setFR (some (l, fs)) c fl v ρ S = if fs.length < 1000 then .ok (.nx ρ) (S.set l (.ins c (putD fl v fs))) else .bad := rfl
@[simp] theorem e_sSetF {c : Nat} {fl : Str} : sSetF c fl mv mo ρ S = (mv ρ S).bind fun v S1 => (mo ρ S1).bind fun o S2 => setFR (insOf S2 c o) c fl v ρ S2 := rfl
def makeR (l : Nat) : R D → R D
  | .ok .non S => .ok (.ref l) S
  | .ok _ _ => .bad
  | .exn c fs S => .exn c fs S
  | .bad => .bad
@[simp] theorem makeR_ok {l : Nat} : makeR l (.ok .non S) = .ok (.ref l) S := rfl
@[simp] theorem e_dMake {c : Nat} {f : DF} : dMake c f na ρ S = (na ρ S).bind fun ds S1 => makeR S1.length (f (.ref S1.length :: ds) (S1 ++ [.ins c []])) := by
  unfold dMake makeR
  congr 1
  funext ds S1
  cases f (.ref S1.length :: ds) (S1 ++ [.ins c []]) with
  | ok d S2 => cases d <;> rfl
  | exn => rfl
  | bad => rfl
theorem insOf_last {c : Nat} {fs : List (Str × D)} : insOf (S ++ [.ins c fs]) c (.ref S.length) = some (S.length, fs) := by
  unfold insOf
  simp
theorem set_last {x y : SO} : (S ++ [x]).set S.length y = S ++ [y] := by simp
def enumR (ds : List D) (S : Sto) : R (List D) := match ds with
  | [.lst xs] => .ok (enumD 0 xs) S
  | _ => .bad
@[simp] theorem e_iEnumD : iEnumD na ρ S = (na ρ S).bind fun ds S1 => enumR ds S1 := by unfold iEnumD enumR; rfl
@[simp] theorem enumR_lst {xs : List D} : enumR [.lst xs] S = .ok (enumD 0 xs) S := rfl
end Tok
namespace Tok
open PySem L2
variable {ρ : Env} {S : Sto} {m n mx mv mo : Den} {na : DenA}
def tryAtR (ie i jf jg c : Nat) (fl : Str) (ρ : Env) : R D → R Fl
  | .ok d S1 => .ok (.nx (ρ.set i (some d))) S1
  | .exn c' fs S1 => if c' = c then (match fs.lookup fl with
    | some v => .ok (.nx (((ρ.set jf (some v)).set jg (some (.bl true))).set ie none)) S1
    | none => .bad) else .bad
  | .bad => .bad
@[simp] theorem tryAtR_ok {ie i jf jg c : Nat} {fl : Str} {d : D} : tryAtR ie i jf jg c fl ρ (.ok d S) = .ok (.nx (ρ.set i (some d))) S := rfl
theorem tryAtR_exn {ie i jf jg c : Nat} {fl : Str} {v : D} : tryAtR ie i jf jg c fl ρ (.exn c [(fl, v)] S) = .ok (.nx (((ρ.set jf (some v)).set jg (some (.bl true))).set ie none)) S := by
  unfold tryAtR
  simp
theorem e_sTryAt {ie i jf jg c : Nat} {fl : Str} (h : ie < ρ.length) : sTryAt ie i jf jg c fl m ρ S = tryAtR ie i jf jg c fl ρ (m ρ S) := by
  unfold sTryAt tryAtR
  rw [if_pos h]
  try rfl
def ownR (o : Option D) (S : Sto) : R (List D) := match o with
  | some (.tup ds) => .ok ds S
  | _ => .bad
@[simp] theorem ownR_tup {ds : List D} : ownR (some (.tup ds)) S = .ok ds S := rfl
theorem e_iOwnD {c : Nat} {fl : Str} : iOwnD c fl m ρ S = (m ρ S).bind fun o S1 => ownR ((insOf S1 c o).bind fun q => q.2.lookup fl) S1 := by
  unfold iOwnD
  congr 1
  funext o S1
  cases insOf S1 c o with
  | none => rfl
  | some q => rfl
end Tok
namespace Tok
open PySem L2
variable {ρ : Env} {S : Sto} {m n mx mv mo : Den} {na : DenA}
def tryNoR (ie jf c : Nat) (ρ : Env) : R D → R Fl
  | .ok _ S1 => .ok (.nx ρ) S1
  | .exn c' fs S1 => if c' = c ∧ fs = [] then (match ρ[jf]? with
    | some (some (.int k)) => .ok (.nx ((ρ.set jf (some (.int (k + 1)))).set ie none)) S1
    | _ => .bad) else .bad
  | .bad => .bad
theorem tryNoR_exn {ie jf c : Nat} {k : Int} (h : ρ[jf]? = some (some (.int k))) : tryNoR ie jf c ρ (.exn c [] S) = .ok (.nx ((ρ.set jf (some (.int (k + 1)))).set ie none)) S := by
  unfold tryNoR
  simp [h]
theorem e_sTryNo {ie jf c : Nat} (h : ie < ρ.length) : sTryNo ie jf c m ρ S = tryNoR ie jf c ρ (m ρ S) := by
  unfold sTryNo tryNoR
  rw [if_pos h]
  try rfl
end Tok
namespace Tok
open PySem L2
variable {ρ : Env} {S : Sto} {m n mx mv mo : Den} {na : DenA} {ms : List Den}
def jsR (d : D) (acc : Str) (ms : List Den) (ρ : Env) (S : Sto) : R D := match d with
  | .str y => if (acc ++ y).length ≤ sizeLine then dJs ms (acc ++ y) ρ S else .bad
  | _ => .bad
theorem e_dJs_nil {acc : Str} : dJs [] acc ρ S = .ok (.str acc) S := rfl
theorem e_dJs_cons {acc : Str} : dJs (m :: ms) acc ρ S = (m ρ S).bind fun d S1 => jsR d acc ms ρ S1 := rfl
theorem jsR_str {y acc : Str} (h : (acc ++ y).length ≤ 1000) : jsR (.str y) acc ms ρ S = dJs ms (acc ++ y) ρ S := by
  unfold jsR
  dsimp only
  rw [if_pos (Nat.le_trans h (by decide))]
def listOwnR (o : Option D) (S : Sto) : R D := match o with
  | some (.tup ds) => if ds.length < sizeLine then .ok (.lst ds) S else .bad
  | _ => .bad
theorem listOwnR_tup {ds : List D} (h : ds.length ≤ 1000) : listOwnR (some (.tup ds)) S = .ok (.lst ds) S := by
  unfold listOwnR
  dsimp only
  rw [if_pos (Nat.lt_of_le_of_lt h (by decide))]
theorem e_dListOwn {c : Nat} {fl : Str} : dListOwn c fl m ρ S = (m ρ S).bind fun o S1 => listOwnR ((insOf S1 c o).bind fun q => q.2.lookup fl) S1 := by
  unfold dListOwn
  congr 1
  funext o S1
  cases insOf S1 c o with
  | none => rfl
  | some q => rfl
end Tok
namespace Tok
open PySem L2
variable {ρ : Env} {S : Sto} {m n mx mv mo mi : Den} {na : DenA}
def setIxR (o i v : D) (ρ : Env) (S : Sto) : R Fl := match o, i with
  | .ref l, .int i => match S[l]? with
    | some (.lst xs) => match ixN xs.length i with
      | some j => .ok (.nx ρ) (S.set l (.lst (xs.set j v)))
      | none => .bad
    | _ => .bad
  | _, _ => .bad
theorem e_sSetIx : sSetIx mv mo mi ρ S = (mv ρ S).bind fun v S1 => (mo ρ S1).bind fun o S2 => (mi ρ S2).bind fun i S3 => setIxR o i v ρ S3 := rfl
theorem setIxR_ok {l j : Nat} {i : Int} {v : D} {xs : List D} (h : S[l]? = some (.lst xs)) (hj : ixN xs.length i = some j) : setIxR (.ref l) (.int i) v ρ S = .ok (.nx ρ) (S.set l (.lst (xs.set j v))) := by
  unfold setIxR
  dsimp only
  rw [h]
  dsimp only
  rw [hj]
theorem pow_ok {i : Int} {n : Nat} (hn : n ≤ 1000) (hi : i.natAbs < 2 ^ 1000) : powD S (.int i) (.int (n : Int)) = some (.int (i ^ n)) := by
  unfold powD
  dsimp only
  rw [if_pos ⟨by omega, by omega, hi⟩]
  simp
end Tok
namespace Tok
open PySem L2
variable {ρ : Env} {S : Sto} {m n mx mv mo mi me : Den} {na : DenA}
def app2 (o : D) (d : D) (S2 : Sto) : R D := match lstOf S2 o with
  | some (l, xs) => if xs.length < sizeLine then .ok .non (S2.set l (.lst (xs ++ [d]))) else .bad
  | none => .bad
def app1 (o : D) (S1 : Sto) (r : R D) : R D := match lstOf S1 o with
  | some _ => r.bind fun d S2 => app2 o d S2
  | none => .bad
theorem e_dAppend : dAppend mo me ρ S = (mo ρ S).bind fun o S1 => app1 o S1 (me ρ S1) := rfl
theorem lstOf_at {l : Nat} {xs : List D} (h : S[l]? = some (.lst xs)) : lstOf S (.ref l) = some (l, xs) := by unfold lstOf; simp [h]
theorem app1_ok {l : Nat} {xs : List D} {r : R D} (h : S[l]? = some (.lst xs)) : app1 (.ref l) S r = r.bind fun d S2 => app2 (.ref l) d S2 := by
  unfold app1
  rw [lstOf_at h]
theorem app2_ok {l : Nat} {xs : List D} {d : D} (h : S[l]? = some (.lst xs)) (hz : xs.length ≤ 1000) : app2 (.ref l) d S = .ok .non (S.set l (.lst (xs ++ [d]))) := by
  unfold app2
  rw [lstOf_at h]
  dsimp only
  rw [if_pos (Nat.lt_of_le_of_lt hz (by decide))]
def parR (i j : Nat) (ds : List D) (ρ : Env) (S : Sto) : R Fl := match ds with
  | [d, e] => .ok (.nx ((ρ.set i (some d)).set j (some e))) S
  | _ => .bad
@[simp] theorem parR_two {i j : Nat} {d e : D} : parR i j [d, e] ρ S = .ok (.nx ((ρ.set i (some d)).set j (some e))) S := rfl
@[simp] theorem e_sPar {i j : Nat} : sPar i j na ρ S = (na ρ S).bind fun ds S1 => parR i j ds ρ S1 := rfl
end Tok
namespace Tok
open PySem L2
variable {ρ : Env} {S : Sto} {mo : Den} {na : DenA}
def methR (o : Option (Nat × List (Str × D))) (mn : Str) (r : R (List D)) (f : DF) (od : D) : R D := match o with
  | some (_, fs) => if fs.lookup mn = none then r.bind fun ds S2 => f (od :: ds) S2 else .bad
  | none => .bad
theorem e_dMeth {c : Nat} {mn : Str} {f : DF} : dMeth c mn f mo na ρ S = (mo ρ S).bind fun o S1 => methR (insOf S1 c o) mn (na ρ S1) f o := rfl
theorem methR_ok {l : Nat} {fs : List (Str × D)} {mn : Str} {r : R (List D)} {f : DF} {od : D} (h : fs.lookup mn = none) : methR (some (l, fs)) mn r f od = r.bind fun ds S2 => f (od :: ds) S2 := by
  unfold methR
  dsimp only
  rw [if_pos h]
end Tok
namespace K50
open PySem L2 Tok
/-! ## rows -/
theorem strs_map (ws : List Str) : strsOf (ws.map D.str) = some ws := by
  induction ws with
  | nil => rfl
  | cons a r ih => simp [strsOf, ih]
def strsD (ws : List Str) : List D := ws.map .str
theorem is_word (ws : List Str) (s : Str) (S : Sto) : f_is_word_of [.tup (strsD ws), .str s] S = .ok (.bl (decide (s ∈ ws))) S := by
  have h2 : inB S (.str s) (.tup (ws.map D.str)) = some (decide (s ∈ ws)) := by
    simp [inB, seqOf, strs_map]
  simp [f_is_word_of, dFn_eq, start_eq, isiD, tyD, okTy, isT, inD, h2, strsD]
def deedsS : List Str := ["read", "write", "hand"]
def rolesS (d : Str) : List Str := if d = "read" then ["leads", "follows"] else if d = "write" then ["leads"] else ["any"]
def relS (d : Str) : List Str := if d = "hand" then ["none", "first", "same", "elder", "newer"] else ["none", "safe", "held", "behind", "lost"]
def actS (d : Str) : List Str := if d = "read" then ["answer", "safe", "ask", "wait", "tell"] else if d = "write" then ["take", "sure", "wait", "tell"] else ["join", "put", "drop", "wait", "tell"]
def keepS (d : Str) : List Str := if d = "read" then ["nothing", "raise seen", "raise end", "put seen", "put end"] else if d = "write" then ["nothing", "raise", "put"] else ["nothing"]
theorem ne_rw : ¬ (("read" : Str) = "write") := by decide +kernel
theorem ne_rh : ¬ (("read" : Str) = "hand") := by decide +kernel
theorem ne_wr : ¬ (("write" : Str) = "read") := by decide +kernel
theorem ne_wh : ¬ (("write" : Str) = "hand") := by decide +kernel
theorem ne_hr : ¬ (("hand" : Str) = "read") := by decide +kernel
theorem ne_hw : ¬ (("hand" : Str) = "write") := by decide +kernel
theorem roles_of (d : Str) (S : Sto) : f_roles_of [.str d] S = .ok (.tup (strsD (rolesS d))) S := by
  by_cases h : d = "read" <;> by_cases h2 : d = "write" <;> simp [f_roles_of, dFn_eq, start_eq, rolesS, strsD, h, h2, eqD, eqB, c_READ, c_WRITE, c_ANY, c_LEADS, c_FOLLOWS, sized_of, ne_wr]
theorem relations_of (d : Str) (S : Sto) : f_relations_of [.str d] S = .ok (.tup (strsD (relS d))) S := by
  by_cases h : d = "hand" <;> simp [f_relations_of, dFn_eq, start_eq, relS, strsD, h, eqD, eqB, c_HAND, c_BETWEEN_MARKS, c_AT_SERVERS]
theorem actions_of (d : Str) (S : Sto) : f_actions_of [.str d] S = .ok (.tup (strsD (actS d))) S := by
  by_cases h : d = "read" <;> by_cases h2 : d = "write" <;> simp [f_actions_of, dFn_eq, start_eq, actS, strsD, h, h2, eqD, eqB, c_READ, c_WRITE, c_READ_ACTIONS, c_WRITE_ACTIONS, c_HAND_ACTIONS, c_ANSWER, c_FROM_SAFE, c_ASK, c_WAIT, c_TELL, c_TAKE, c_SURE, c_JOIN, c_PUT, c_DROP, ne_wr]
theorem keeps_of (d : Str) (S : Sto) : f_keeps_of [.str d] S = .ok (.tup (strsD (keepS d))) S := by
  by_cases h : d = "read" <;> by_cases h2 : d = "write" <;> simp [f_keeps_of, dFn_eq, start_eq, keepS, strsD, h, h2, eqD, eqB, c_READ, c_WRITE, c_READ_KEEPS, c_WRITE_KEEPS, c_NOTHING, c_RAISE_SEEN, c_RAISE_END, c_PUT_SEEN, c_PUT_END, c_RAISE, c_PUT, sized_of, ne_wr]
def bookRow (d r l a k : Str) : Bool := decide (d ∈ deedsS) && (decide (r ∈ rolesS d ++ [("any" : Str)]) && (decide (l ∈ relS d ++ [("any" : Str)]) && (decide (a ∈ actS d) && decide (k ∈ keepS d))))
theorem len_roles (d : Str) : (rolesS d).length ≤ 2 := by unfold rolesS; split; decide; split <;> decide
theorem len_rel (d : Str) : (relS d).length ≤ 5 := by unfold relS; split <;> decide
theorem word_any (ws : List Str) (s : Str) (S : Sto) : f_is_word_of [.tup (strsD ws ++ [D.str "any"]), .str s] S = .ok (.bl (decide (s ∈ ws ++ [("any" : Str)]))) S := by
  have e : strsD ws ++ [D.str "any"] = strsD (ws ++ [("any" : Str)]) := by simp [strsD]
  rw [e, is_word]
theorem deeds_word (s : Str) (S : Sto) : f_is_word_of [c_DEED_WORDS, .str s] S = .ok (.bl (decide (s ∈ deedsS))) S := is_word deedsS s S
def row5 (d r l a k : Str) : D := .tup [.str d, .str r, .str l, .str a, .str k]
theorem is_book_row (d r l a k : Str) (S : Sto) : f_is_book_row [row5 d r l a k] S = .ok (.bl (bookRow d r l a k)) S := by
  have h1 : (strsD (rolesS d) ++ [D.str "any"]).length ≤ 1000 := by have := len_roles d; simp [strsD]; omega
  have h2 : (strsD (relS d) ++ [D.str "any"]).length ≤ 1000 := by have := len_rel d; simp [strsD]; omega
  by_cases c1 : d ∈ deedsS <;> by_cases c2 : r ∈ rolesS d ++ [("any" : Str)] <;> by_cases c3 : l ∈ relS d ++ [("any" : Str)] <;> by_cases c4 : a ∈ actS d <;>
    simp only [f_is_book_row, row5, dFn_eq, start_eq] <;>
    simp [isiD, tyD, okTy, isT, neD, eqB, lenD, ixD, atI, ixN, deeds_word, tgTup, roles_of, relations_of, actions_of, keeps_of, c_ANY, sized_of h1, sized_of h2, word_any, is_word, bookRow, c1, c2, c3, c4]
end K50
namespace K50
open PySem L2 Tok
/-! ## lines -/
theorem mem_deeds {d : Str} : d ∈ deedsS ↔ d = "read" ∨ d = "write" ∨ d = "hand" := by simp [deedsS]
theorem book_words {d : Str} (h : d ∈ deedsS) (S : Sto) : f_law_book_words [.str d] S = .ok (.tup [.tup (strsD (rolesS d)), .tup (strsD (relS d)), .tup (strsD (actS d)), .tup (strsD (keepS d))]) S := by
  rcases mem_deeds.mp h with rfl | rfl | rfl <;>
    simp [f_law_book_words, dFn_eq, start_eq, eqD, eqB, sized_of, rolesS, relS, actS, keepS, strsD, ne_rw, ne_rh, ne_wr, ne_wh, ne_hr, ne_hw]
def spc : Str := " "
def das : Str := "-"
def nl : Str := "\n"
theorem spc_len : spc.length = 1 := by decide +kernel
theorem das_len : das.length = 1 := by decide +kernel
theorem nl_len : nl.length = 1 := by decide +kernel
def lineMax : Nat := 400000
theorem split_ok {z b : Str} (hb : b.length = 1) (hz : z.length ≤ 1000000) : splitD z [.str b] = some (.lst ((Txt.split z b).map .str)) := by
  unfold splitD
  dsimp only
  rw [if_pos ⟨by rw [hb]; rfl, by rw [sizeLine_eq]; omega⟩]
def rowOf5 (d r l a e : Str) : D := if bookRow d r l a (Txt.replace e das spc) = true then row5 d r l a (Txt.replace e das spc) else .non
def rowOf (ws : List Str) : D := match ws with
  | [d, r, l, a, e] => rowOf5 d r l a e
  | _ => .non
theorem lr_many {ws : List Str} (h : ws.length ≠ 5) : rowOf ws = .non := by
  unfold rowOf
  split
  · simp at h
  · rfl
theorem five {ws : List Str} (h : ws.length = 5) : ∃ d r l a e, ws = [d, r, l, a, e] := by
  match ws, h with
  | [d, r, l, a, e], _ => exact ⟨d, r, l, a, e, rfl⟩
theorem das_one : das = ⟨#[45]⟩ := by decide +kernel
theorem repl_das (e : Str) : Txt.join spc (Txt.split e das) = Txt.replace e das spc := by
  have h := StrLaws.replace_one e spc 45
  rw [← das_one] at h
  rw [h]
  exact StrLaws.glued_eq_join _ _
theorem join_ok {e : Str} (he : e.length ≤ 1000000) : joinD spc [.lst ((Txt.split e das).map .str)] = some (.str (Txt.replace e das spc)) := by
  have w := PyProof.Rows.split_weight e das (by rw [das_len]; exact Nat.le_refl 1)
  unfold joinD joinL
  dsimp only
  rw [strs_map]
  simp only [Option.bind_some]
  rw [if_pos (by rw [spc_len]; omega), repl_das]
theorem book_row_in {line : Str} (hl : line.length ≤ lineMax) (S : Sto) : f_book_row_in [.str line] S = .ok (rowOf (Txt.split line spc)) S := by
  have hl' : line.length ≤ 1000000 := Nat.le_trans hl (by decide)
  have es : splitD line [.str " "] = some (.lst ((Txt.split line spc).map .str)) := split_ok spc_len hl'
  by_cases h5 : (Txt.split line spc).length = 5
  · obtain ⟨d, r, l, a, e, hw⟩ := five h5
    have hm : e ∈ Txt.split line spc := by rw [hw]; simp
    have he : e.length ≤ 1000000 := Nat.le_trans (PyProof.Rows.part_short hm) hl'
    have es2 : splitD e [.str "-"] = some (.lst ((Txt.split e das).map .str)) := split_ok das_len he
    have ej : joinD " " [.lst ((Txt.split e das).map .str)] = some (.str (Txt.replace e das spc)) := join_ok he
    have ib := is_book_row d r l a (Txt.replace e das spc) S
    unfold row5 at ib
    rw [hw] at es ⊢
    simp only [f_book_row_in, dFn_eq, start_eq]
    simp [es, es2, ej, neD, eqB, lenD, ixD, atI, ixN, sized_of, ib, rowOf, rowOf5, row5]
    by_cases c : bookRow d r l a (Txt.replace e das spc) = true <;> simp [c]
  · rw [lr_many h5]
    have h5' : ¬ (((Txt.split line spc).length : Int) = 5) := by omega
    simp only [f_book_row_in, dFn_eq, start_eq]
    simp [es, neD, eqB, lenD, h5']
end K50
namespace K50
open PySem L2 Tok
theorem repl_ok {e : Str} (he : e.length ≤ 1000000) (S : Sto) : replD "-" " " S (.str e) = some (.str (Txt.replace e das spc)) := by
  unfold replD
  dsimp only
  have h1 : (" " : Str).length = 1 := spc_len
  rw [if_pos (by rw [h1]; omega)]
  rfl
theorem in_strs (ws : List Str) (s : Str) (S : Sto) : inB S (.str s) (.tup (strsD ws)) = some (decide (s ∈ ws)) := by
  simp [inB, seqOf, strs_map, strsD]
theorem in_deeds (s : Str) (S : Sto) : inB S (.str s) (.tup [.str "read", .str "write", .str "hand"]) = some (decide (s ∈ deedsS)) := in_strs deedsS s S
theorem rng4 : rngR [.int 4] = fun S => R.ok [D.int 0, D.int 1, D.int 2, D.int 3] S := by
  funext S
  rfl
def ttLine : DenT := dAndT (dTest (dOp2 notInD (dOp2 ixD (dVar 2) (dOp2 addD (dVar 5) (dC (.int 1)))) (dOp2 ixD (dVar 3) (dVar 5)))) (dNotT (dAndT (dTest (dOp2 ltD (dVar 5) (dC (.int 2)))) (dTest (dOp2 eqD (dOp2 ixD (dVar 2) (dOp2 addD (dVar 5) (dC (.int 1)))) (dC (.str "any"))))))
def pick (b0 b1 b2 b3 : Bool) : D → Bool
  | .int 0 => b0
  | .int 1 => b1
  | .int 2 => b2
  | .int 3 => b3
  | _ => false
theorem tt_line (o1 o4 : Option D) (x d r l a z : Str) (k : Nat) (hk : k < 4) (S : Sto) : ttLine [some (.str x), o1, some (.lst [.str d, .str r, .str l, .str a, .str z]), some (.tup [.tup (strsD (rolesS d)), .tup (strsD (relS d)), .tup (strsD (actS d)), .tup (strsD (keepS d))]), o4, some (.int k)] S =
    .ok (pick (!decide (r ∈ rolesS d ++ [("any" : Str)])) (!decide (l ∈ relS d ++ [("any" : Str)])) (!decide (a ∈ actS d)) (!decide (z ∈ keepS d)) (.int k)) S := by
  match k, hk with
  | 0, _ => by_cases c0 : r ∈ rolesS d <;> by_cases d0 : r = "any" <;> simp [ttLine, ixD, atI, ixN, addD, notInD, in_strs, ltD, cmpI, eqD, eqB, pick, c0, d0]
  | 1, _ => by_cases c0 : l ∈ relS d <;> by_cases d0 : l = "any" <;> simp [ttLine, ixD, atI, ixN, addD, notInD, in_strs, ltD, cmpI, eqD, eqB, pick, c0, d0]
  | 2, _ => by_cases c0 : a ∈ actS d <;> simp [ttLine, ixD, atI, ixN, addD, notInD, in_strs, ltD, cmpI, eqD, eqB, pick, c0]
  | 3, _ => by_cases c0 : z ∈ keepS d <;> simp [ttLine, ixD, atI, ixN, addD, notInD, in_strs, ltD, cmpI, eqD, eqB, pick, c0]
def rng4L : List D := [.int 0, .int 1, .int 2, .int 3]
theorem lc_line (o1 o4 : Option D) (x d r l a z : Str) (S : Sto) : lcD (tgName 5) ttLine (dVar 5) rng4L [some (.str x), o1, some (.lst [.str d, .str r, .str l, .str a, .str z]), some (.tup [.tup (strsD (rolesS d)), .tup (strsD (relS d)), .tup (strsD (actS d)), .tup (strsD (keepS d))]), o4, none] S =
    .ok (rng4L.filter (pick (!decide (r ∈ rolesS d ++ [("any" : Str)])) (!decide (l ∈ relS d ++ [("any" : Str)])) (!decide (a ∈ actS d)) (!decide (z ∈ keepS d)))) S := by
  have h := lc_filt (S := S) (ρ := [some (.str x), o1, some (.lst [.str d, .str r, .str l, .str a, .str z]), some (.tup [.tup (strsD (rolesS d)), .tup (strsD (relS d)), .tup (strsD (actS d)), .tup (strsD (keepS d))]), o4, none]) (i := 5) (tt := ttLine) (te := dVar 5) (h := id)
    (p := pick (!decide (r ∈ rolesS d ++ [("any" : Str)])) (!decide (l ∈ relS d ++ [("any" : Str)])) (!decide (a ∈ actS d)) (!decide (z ∈ keepS d))) rng4L (fun y hy => ?_) (fun y hy _ => ?_)
  · rw [h, List.map_id]
  · simp only [rng4L, List.mem_cons, List.not_mem_nil, or_false] at hy
    rcases hy with rfl | rfl | rfl | rfl
    · exact tt_line o1 o4 x d r l a z 0 (by decide) S
    · exact tt_line o1 o4 x d r l a z 1 (by decide) S
    · exact tt_line o1 o4 x d r l a z 2 (by decide) S
    · exact tt_line o1 o4 x d r l a z 3 (by decide) S
  · simp
theorem eq_picks (b0 b1 b2 b3 : Bool) : eqB (.lst (rng4L.filter (pick b0 b1 b2 b3))) (.lst []) = some (!(b0 || b1 || b2 || b3)) := by
  cases b0 <;> cases b1 <;> cases b2 <;> cases b3 <;> rfl
theorem line_row {line : Str} (hl : line.length ≤ lineMax) (S : Sto) : f_law_line_row [.str line] S = .ok (rowOf (Txt.split line spc)) S := by
  have hl' : line.length ≤ 1000000 := Nat.le_trans hl (by decide)
  have es : splitD line [.str " "] = some (.lst ((Txt.split line spc).map .str)) := split_ok spc_len hl'
  by_cases h5 : (Txt.split line spc).length = 5
  · obtain ⟨d, r, l, a, e, hw⟩ := five h5
    have hm : e ∈ Txt.split line spc := by rw [hw]; simp
    have he : e.length ≤ 1000000 := Nat.le_trans (PyProof.Rows.part_short hm) hl'
    rw [hw] at es ⊢
    by_cases hd : d ∈ deedsS
    · have bw := book_words hd
      have hsl : (4 : Nat) + 1 ≤ sizeLine := by decide
      have hb : rowOf [d, r, l, a, e] = if (decide (r ∈ rolesS d ++ [("any" : Str)]) && (decide (l ∈ relS d ++ [("any" : Str)]) && (decide (a ∈ actS d) && decide (Txt.replace e das spc ∈ keepS d)))) = true then row5 d r l a (Txt.replace e das spc) else .non := by
        simp [rowOf, rowOf5, bookRow, hd]
      rw [hb]
      have rp := repl_ok he S
      generalize Txt.replace e das spc = z at *
      have h4 : (4 : Nat) ≤ sizeLine := by decide
      have hlc := lc_line (some (.lst [.str d, .str r, .str l, .str a, .str e])) none line d r l a z S
      have hr : rngR [.int 4] S = .ok rng4L S := rfl
      have hlen : rng4L.length = 4 := rfl
      unfold ttLine at hlc
      simp only [f_law_line_row, dFn_eq, start_eq]
      simp -implicitDefEqProofs [-lcD_cons, -lcD_nil, es, neD, eq_picks, eqD, lenD, ixD, atI, ixN, sized_of, notInD, in_deeds, hd, slD, cutL, HT.sIx, rp, addD, hsl, bw, tgTup, e_dLc, hr, wipeD, hlen, h4, hlc]
      by_cases c0 : r ∈ rolesS d <;> by_cases d0 : r = "any" <;> by_cases c1 : l ∈ relS d <;> by_cases d1 : l = "any" <;> by_cases c2 : a ∈ actS d <;> by_cases c3 : z ∈ keepS d <;> simp [c0, d0, c1, d1, c2, c3, tupleD, row5]
    · simp only [f_law_line_row, dFn_eq, start_eq]
      simp [es, neD, eqB, lenD, ixD, atI, ixN, sized_of, notInD, in_deeds, hd, rowOf, rowOf5, bookRow]
  · rw [lr_many h5]
    have h5' : ¬ (((Txt.split line spc).length : Int) = 5) := by omega
    simp only [f_law_line_row, dFn_eq, start_eq]
    simp [es, neD, eqB, lenD, h5']
end K50
namespace K50
open PySem L2 Tok
/-! ## _law_agree of a thing with itself -/
def plainD : Nat → D → Prop
  | _, .str _ => True
  | _, .int _ => True
  | n + 1, .tup xs => xs.length ≤ 1000 ∧ ∀ x ∈ xs, plainD n x
  | n + 1, .lst xs => xs.length ≤ 1000 ∧ ∀ x ∈ xs, plainD n x
  | _, _ => False
theorem agree_succ (n : Nat) : f_law_agree (n + 1) = b_f_law_agree (f_law_agree n) := rfl
theorem lst_nil_eq (S : Sto) : eqD S (.lst []) (.lst []) = some (.bl true) := rfl
theorem rng_mem {n : Nat} {d : D} (h : d ∈ rngD 0 n) : ∃ k : Nat, k < n ∧ d = .int k := by
  unfold rngD at h
  obtain ⟨k, hk, rfl⟩ := List.mem_map.mp h
  exact ⟨k, List.mem_range.mp hk, by simp⟩
theorem rng_len (n : Nat) : (rngD 0 n).length = n := by simp [rngD]
theorem small {n : Nat} (h : n ≤ 1000) : n ≤ sizeLine := Nat.le_trans h (by decide)
theorem atI_nat {α : Type} {xs : List α} {k : Nat} (h : k < xs.length) : atI xs (k : Int) = some xs[k] := by
  unfold atI ixN
  rw [if_pos (by omega), if_pos (by omega)]
  simp [h]
def ttAg (f : DF) : DenT := dNotT (dTest (dCall f (aCons (dOp2 ixD (dVar 0) (dVar 2)) (aCons (dOp2 ixD (dVar 1) (dVar 2)) aNil))))
theorem lc_none {f : DF} {x y : D} {S : Sto} {n : Nat} (h : ∀ k : Nat, k < n → ∃ a b, ixD S x (.int k) = some a ∧ ixD S y (.int k) = some b ∧ f [a, b] S = .ok (.bl true) S) : lcD (tgName 2) (ttAg f) (dVar 2) (rngD 0 n) [some x, some y, none] S = .ok [] S := by
  have e := lc_filt (S := S) (ρ := [some x, some y, none]) (i := 2) (tt := ttAg f) (te := dVar 2) (p := fun _ => false) (h := id) (rngD 0 n) (fun d hd => ?_) (fun d hd c => by cases c)
  · rw [e]; simp
  · obtain ⟨k, hk, rfl⟩ := rng_mem hd
    obtain ⟨a, b, h1, h2, h3⟩ := h k hk
    simp [ttAg, h1, h2, h3]
theorem agree_same : ∀ (n : Nat) (x : D) (S : Sto), plainD n x → f_law_agree (n + 1) [x, x] S = .ok (.bl true) S := by
  intro n
  induction n with
  | zero =>
    intro x S h
    cases x <;> simp only [plainD] at h <;> simp -implicitDefEqProofs [agree_succ, b_f_law_agree, dFn_eq, start_eq, isiD, isi2D, tyD, okTy, isT, neD, eqD, eqB, isND]
  | succ n ih =>
    intro x S h
    cases x with
    | str s => simp -implicitDefEqProofs [agree_succ, b_f_law_agree, dFn_eq, start_eq, isiD, isi2D, tyD, okTy, isT, neD, eqD, isND]
    | int s => simp -implicitDefEqProofs [agree_succ, b_f_law_agree, dFn_eq, start_eq, isiD, isi2D, tyD, okTy, isT, neD, eqD, isND]
    | tup xs =>
      obtain ⟨hl, h⟩ := h
      have hr : rngR [.int (xs.length : Int)] S = .ok (rngD 0 xs.length) S := rngR_nat (by omega)
      have hlc : lcD (tgName 2) (ttAg (f_law_agree (n + 1))) (dVar 2) (rngD 0 xs.length) [some (.tup xs), some (.tup xs), none] S = .ok [] S :=
        lc_none fun k hk => ⟨xs[k], xs[k], atI_nat hk, atI_nat hk, ih _ S (h _ (List.getElem_mem hk))⟩
      unfold ttAg at hlc
      rw [agree_succ]
      simp only [b_f_law_agree, dFn_eq, start_eq]
      simp -implicitDefEqProofs [-lcD_cons, -lcD_nil, isiD, isi2D, tyD, okTy, isT, neD, lenD, e_dLc, hr, rng_len, small hl, wipeD, hlc, lst_nil_eq, sized_of]
    | lst xs =>
      obtain ⟨hl, h⟩ := h
      have hr : rngR [.int (xs.length : Int)] S = .ok (rngD 0 xs.length) S := rngR_nat (by omega)
      have hlc : lcD (tgName 2) (ttAg (f_law_agree (n + 1))) (dVar 2) (rngD 0 xs.length) [some (.lst xs), some (.lst xs), none] S = .ok [] S :=
        lc_none fun k hk => ⟨xs[k], xs[k], atI_nat hk, atI_nat hk, ih _ S (h _ (List.getElem_mem hk))⟩
      unfold ttAg at hlc
      rw [agree_succ]
      simp only [b_f_law_agree, dFn_eq, start_eq]
      simp -implicitDefEqProofs [-lcD_cons, -lcD_nil, isiD, isi2D, tyD, okTy, isT, neD, lenD, e_dLc, hr, rng_len, small hl, wipeD, hlc, lst_nil_eq, sized_of]
    | _ => simp only [plainD] at h
/-- a list of the store beside a list -/
theorem agree_ref (n : Nat) (l : Nat) (xs : List D) (S : Sto) (hS : S[l]? = some (.lst xs)) (hl : xs.length ≤ 1000) (h : ∀ x ∈ xs, plainD n x) : f_law_agree (n + 2) [.ref l, .lst xs] S = .ok (.bl true) S := by
  have hr : rngR [.int (xs.length : Int)] S = .ok (rngD 0 xs.length) S := rngR_nat (by omega)
  have hlc : lcD (tgName 2) (ttAg (f_law_agree (n + 1))) (dVar 2) (rngD 0 xs.length) [some (.ref l), some (.lst xs), none] S = .ok [] S :=
    lc_none fun k hk => ⟨xs[k], xs[k], by simp [ixD, hS, atI_nat hk], atI_nat hk, agree_same n _ S (h _ (List.getElem_mem hk))⟩
  unfold ttAg at hlc
  rw [agree_succ]
  simp only [b_f_law_agree, dFn_eq, start_eq]
  simp -implicitDefEqProofs [-lcD_cons, -lcD_nil, isiD, isi2D, tyD, okTy, isT, neD, lenD, e_dLc, hr, rng_len, small hl, wipeD, hlc, lst_nil_eq, hS, sized_of]
end K50
namespace K50
open PySem L2 Tok
/-! ## a book is made -/
def formsS : List Str := ["termed", "bare"]
def scopesS : List Str := ["all", "key"]
theorem forms_word (s : Str) (S : Sto) : f_is_word_of [c_FORMS, .str s] S = .ok (.bl (decide (s ∈ formsS))) S := is_word formsS s S
theorem scopes_word (s : Str) (S : Sto) : f_is_word_of [c_SCOPES, .str s] S = .ok (.bl (decide (s ∈ scopesS))) S := is_word scopesS s S
theorem check_form {m c : Str} (h1 : m ∈ formsS) (h2 : c ∈ scopesS) (S : Sto) : f_check_form [.str m, .str c] S = .ok .non S := by
  simp only [f_check_form, dFn_eq, start_eq]
  simp -implicitDefEqProofs [forms_word, scopes_word, h1, h2]
def goodRow (x : D) : Prop := ∃ d r l a k, x = row5 d r l a k ∧ bookRow d r l a k = true
theorem row_ok {x : D} (h : goodRow x) (S : Sto) : f_is_book_row [x] S = .ok (.bl true) S := by
  obtain ⟨d, r, l, a, k, rfl, hb⟩ := h
  rw [is_book_row, hb]
def bookFs (m c : Str) (rows : List D) : List (Str × D) := [("marks", .str m), ("scope", .str c), ("kept_rows", .tup rows)]
theorem all_true (n : Nat) : blsOf (List.replicate n (D.bl true)) = some (List.replicate n true) := by
  induction n with
  | zero => rfl
  | succ n ih => simp [List.replicate_succ, blsOf, ih]
theorem all_rep (S : Sto) (rows : List D) : allD S [.lst (rows.map fun _ => D.bl true)] = some (.bl true) := by
  have e : (rows.map fun _ => D.bl true) = List.replicate rows.length (D.bl true) := by simp [List.map_const']
  unfold allD
  dsimp only
  rw [e, all_true]
  simp
theorem ne_ms : ¬ (("marks" : Str) = "scope") := by decide +kernel
theorem ne_mk : ¬ (("marks" : Str) = "kept_rows") := by decide +kernel
theorem ne_sk : ¬ (("scope" : Str) = "kept_rows") := by decide +kernel
theorem book_init {m c : Str} (h1 : m ∈ formsS) (h2 : c ∈ scopesS) {rows : List D} (hl : rows.length ≤ 40) (hr : ∀ x ∈ rows, goodRow x) (S : Sto) :
    M_Book_init_ [.ref S.length, .str m, .str c, .lst rows] (S ++ [.ins 5 []]) = .ok .non (S ++ [.ins 5 (bookFs m c rows)]) := by
  have hlc : lcD (tgName 4) tYesD (dCall f_is_book_row (aCons (dVar 4) aNil)) rows [some (.ref S.length), some (.str m), some (.str c), some (.lst rows), none] (S ++ [.ins 5 []]) = .ok (rows.map fun _ => D.bl true) (S ++ [.ins 5 []]) :=
    lc_map (h := fun _ => D.bl true) rows fun d hd => by simp -implicitDefEqProofs [row_ok (hr d hd)]
  have hz : rows.length ≤ sizeLine := small (by omega)
  have hg : ¬ ((40 : Int) < rows.length) := by omega
  simp only [M_Book_init_, dFn_eq, start_eq]
  simp -implicitDefEqProofs [-lcD_cons, -lcD_nil, check_form h1 h2, isiD, tyD, okTy, isT, lenD, gtD, cmpI, c_MOST_ROWS, hg, e_dLc, hz, wipeD, hlc, all_rep, insOf_last, set_last, tupleD, putD, ne_ms, ne_mk, ne_sk, bookFs]
theorem make_book {m c : Str} (h1 : m ∈ formsS) (h2 : c ∈ scopesS) {rows : List D} (hl : rows.length ≤ 40) (hr : ∀ x ∈ rows, goodRow x) (S : Sto) :
    makeR S.length (M_Book_init_ [.ref S.length, .str m, .str c, .lst rows] (S ++ [.ins 5 []])) = .ok (.ref S.length) (S ++ [.ins 5 (bookFs m c rows)]) := by
  rw [book_init h1 h2 hl hr]; rfl
end K50
namespace K50
open PySem L2 Tok
/-! ## reading -/
def isNon : D → Bool
  | .non => true
  | _ => false
def badAt (k : Nat) (r : D) : Bool := isNon r || decide (40 ≤ k)
def firstBad : Nat → List D → Option Nat
  | _, [] => none
  | k, r :: rs => if badAt k r = true then some k else firstBad (k + 1) rs
theorem isN (S : Sto) (r : D) : isND S r .non = some (.bl (isNon r)) := by cases r <;> rfl
def bodyR : DenS := sSeq (sIf (dOrT (dTest (dOp2 isND (dVar 7) (dC .non))) (dTest (dOp2 geD (dVar 6) (dC c_MOST_ROWS)))) (sSeq (sRaise1 4 ("at" : Str) (dOp2 addD (dVar 6) (dC (.int 1)))) sNext) sNext) sNext
def tgR : Tgt := tgTup 2 (tgCons (tgName 6) (tgCons (tgName 7) tgNil))
theorem loop_rows (a0 a1 a2 a3 a4 a5 : Option D) (S : Sto) : ∀ (rows : List D) (k : Nat) (x y : Option D),
    (∀ i, firstBad k rows = some i → loopD tgR bodyR (enumD k rows) [a0, a1, a2, a3, a4, a5, x, y] S = .exn 4 [("at", .int (i + 1))] S) ∧
    (firstBad k rows = none → ∃ x' y', loopD tgR bodyR (enumD k rows) [a0, a1, a2, a3, a4, a5, x, y] S = .ok (.nx [a0, a1, a2, a3, a4, a5, x', y']) S)
  | [], k, x, y => ⟨fun i h => (nomatch h), fun _ => ⟨x, y, rfl⟩⟩
  | r :: rs, k, x, y => by
    have ih := loop_rows a0 a1 a2 a3 a4 a5 S rs (k + 1) (some (.int k)) (some r)
    have e : ∀ (q : Bool), badAt k r = q → loopD tgR bodyR (enumD k (r :: rs)) [a0, a1, a2, a3, a4, a5, x, y] S = if q = true then .exn 4 [("at", .int (k + 1))] S else loopD tgR bodyR (enumD (k + 1) rs) [a0, a1, a2, a3, a4, a5, some (.int k), some r] S := by
      intro q hq
      unfold badAt at hq
      cases hn : isNon r with
      | true =>
        rw [hn] at hq
        simp at hq
        subst hq
        simp -implicitDefEqProofs [enumD, tgR, tgTup, bodyR, isN, hn, addD]
      | false =>
        rw [hn] at hq
        by_cases h40 : 40 ≤ k
        · simp [h40] at hq
          subst hq
          have h' : (40 : Int) ≤ k := by omega
          simp -implicitDefEqProofs [enumD, tgR, tgTup, bodyR, isN, hn, addD, geD, cmpI, c_MOST_ROWS, h']
        · simp [h40] at hq
          subst hq
          have h' : ¬ ((40 : Int) ≤ k) := by omega
          simp -implicitDefEqProofs [enumD, tgR, tgTup, bodyR, isN, hn, addD, geD, cmpI, c_MOST_ROWS, h']
    have e' := e _ rfl
    unfold firstBad
    by_cases hb : badAt k r = true
    · rw [if_pos hb] at e' ⊢
      exact ⟨fun i h => (by cases h; exact e'), fun h => (nomatch h)⟩
    · rw [if_neg hb] at e' ⊢
      rw [e']
      exact ih
def rowD (s : Str) : D := rowOf (Txt.split s spc)
def rowsOf (os : List Str) : List D := os.map rowD
theorem row_good (s : Str) : isNon (rowD s) = true ∨ goodRow (rowD s) := by
  unfold rowD rowOf
  split
  · rename_i d r l a e heq
    unfold rowOf5
    split
    · rename_i h; exact .inr ⟨d, r, l, a, _, rfl, h⟩
    · exact .inl rfl
  · exact .inl rfl
theorem first_none {rows : List D} : ∀ {k : Nat}, firstBad k rows = none → (∀ x ∈ rows, isNon x = false) ∧ (rows = [] ∨ k + rows.length ≤ 40) := by
  induction rows with
  | nil => intro k _; exact ⟨fun x h => (by cases h), .inl rfl⟩
  | cons r rs ih =>
    intro k h
    unfold firstBad at h
    split at h
    · cases h
    · rename_i hb
      unfold badAt at hb
      simp at hb
      obtain ⟨h1, h2⟩ := ih h
      refine ⟨fun x hx => ?_, .inr ?_⟩
      · rcases List.mem_cons.mp hx with rfl | hx
        · exact hb.1
        · exact h1 x hx
      · rcases h2 with rfl | h2
        · simp; omega
        · simp; omega
/-- what the first line says -/
def headOf (w : Str) : Option (Str × Str) := match Txt.split w spc with
  | [m, c] => if m ∈ formsS ∧ c ∈ scopesS then some (m, c) else none
  | _ => none
inductive Due where
  | bad (i : Int)
  | book (m c : Str) (rows : List D)
def dueOf (t : Str) : Due := match Txt.split t nl with
  | [] => .bad 0
  | w :: os => match headOf w with
    | none => .bad 0
    | some (m, c) => match firstBad 0 (rowsOf os) with
      | some i => .bad (i + 1)
      | none => .book m c (rowsOf os)
theorem len_max {t : Str} (ht : t.length ≤ lineMax) : (Txt.split t nl).length ≤ sizeLine := by
  have := PyProof.Rows.split_le t nl
  have h2 : lineMax = 400000 := rfl
  rw [sizeLine_eq]; omega
theorem read_book {t : Str} (ht : t.length ≤ lineMax) (S : Sto) : f_read_book [.str t] S = match dueOf t with
    | .bad i => .exn 4 [("at", .int i)] S
    | .book m c rows => .ok (.ref S.length) (S ++ [.ins 5 (bookFs m c rows)]) := by
  have es : splitD t [.str "\n"] = some (.lst ((Txt.split t nl).map .str)) := split_ok nl_len (Nat.le_trans ht (by decide))
  have hpos := PyProof.Rows.split_pos t nl
  have hlen := len_max ht
  have hshort : ∀ s ∈ Txt.split t nl, s.length ≤ lineMax := fun s hs => Nat.le_trans (PyProof.Rows.part_short hs) ht
  have ct : f_check_text [.str t] S = .ok .non S := by
    simp only [f_check_text, dFn_eq, start_eq]
    simp -implicitDefEqProofs [isiD, tyD, okTy, isT]
  unfold dueOf
  generalize Txt.split t nl = ls at *
  match ls, hpos with
  | w :: os, _ =>
    have ew : splitD w [.str " "] = some (.lst ((Txt.split w spc).map .str)) := split_ok spc_len (Nat.le_trans (hshort w List.mem_cons_self) (by decide))
    simp only [List.map_cons] at es
    dsimp only
    by_cases h2 : (Txt.split w spc).length = 2
    · obtain ⟨m, c, hw⟩ : ∃ m c, Txt.split w spc = [m, c] := by
        revert h2
        generalize Txt.split w spc = ws
        intro h2
        match ws, h2 with
        | [m, c], _ => exact ⟨m, c, rfl⟩
      rw [hw] at ew
      by_cases hm : m ∈ formsS
      · by_cases hc : c ∈ scopesS
        · have hh : headOf w = some (m, c) := by unfold headOf; rw [hw]; simp [hm, hc]
          rw [hh]
          dsimp only
          have hz : os.length ≤ sizeLine := by simp at hlen; omega
          have hlc : ∀ a6 a7, lcD (tgName 5) tYesD (dCall f_book_row_in (aCons (dVar 5) aNil)) (os.map .str) [some (.str t), some (.str w), some (.lst (os.map .str)), some (.lst [.str m, .str c]), none, none, a6, a7] S = .ok (rowsOf os) S := fun a6 a7 => by
            have e := lc_map (S := S) (ρ := [some (.str t), some (.str w), some (.lst (os.map .str)), some (.lst [.str m, .str c]), none, none, a6, a7]) (i := 5) (te := dCall f_book_row_in (aCons (dVar 5) aNil)) (h := fun d => match d with | .str s => rowD s | _ => .non) (os.map .str) fun d hd => by
              obtain ⟨s, hs, rfl⟩ := List.mem_map.mp hd
              simp -implicitDefEqProofs [book_row_in (hshort s (List.mem_cons_of_mem _ hs)), rowD]
            rw [e, List.map_map]
            rfl
          obtain ⟨lp1, lp2⟩ := loop_rows (some (.str t)) (some (.str w)) (some (.lst (os.map .str))) (some (.lst [.str m, .str c])) (some (.lst (rowsOf os))) none S (rowsOf os) 0 none none
          unfold tgR bodyR at lp1 lp2
          cases hf : firstBad 0 (rowsOf os) with
          | some i =>
            have lp := lp1 i hf
            dsimp only
            simp only [f_read_book, dFn_eq, start_eq]
            simp -implicitDefEqProofs [-lcD_cons, -lcD_nil, -loop_cons, -loop_nil, ct, es, tgStar, ew, neD, lenD, ixD, atI, ixN, forms_word, scopes_word, hm, hc, e_dLc, hz, wipeD, hlc, lp]
          | none =>
            obtain ⟨x', y', lp⟩ := lp2 hf
            obtain ⟨g1, g2⟩ := first_none hf
            have hr : ∀ x ∈ rowsOf os, goodRow x := fun x hx => by
              obtain ⟨s, _, rfl⟩ := List.mem_map.mp hx
              rcases row_good s with h | h
              · rw [g1 _ hx] at h; cases h
              · exact h
            have hl : (rowsOf os).length ≤ 40 := by
              rcases g2 with h | h
              · rw [h]; decide
              · omega
            have mb := make_book hm hc hl hr S
            dsimp only
            simp only [f_read_book, dFn_eq, start_eq]
            simp -implicitDefEqProofs [-lcD_cons, -lcD_nil, -loop_cons, -loop_nil, ct, es, tgStar, ew, neD, lenD, ixD, atI, ixN, forms_word, scopes_word, hm, hc, e_dLc, hz, wipeD, hlc, lp, mb]
        · have hh : headOf w = none := by unfold headOf; rw [hw]; simp [hc]
          rw [hh]
          dsimp only
          simp only [f_read_book, dFn_eq, start_eq]
          simp -implicitDefEqProofs [-lcD_cons, -lcD_nil, -loop_cons, -loop_nil, ct, es, tgStar, ew, neD, lenD, ixD, atI, ixN, forms_word, scopes_word, hm, hc]
      · have hh : headOf w = none := by unfold headOf; rw [hw]; simp [hm]
        rw [hh]
        dsimp only
        simp only [f_read_book, dFn_eq, start_eq]
        simp -implicitDefEqProofs [-lcD_cons, -lcD_nil, -loop_cons, -loop_nil, ct, es, tgStar, ew, neD, lenD, ixD, atI, ixN, forms_word, scopes_word, hm]
    · have hh : headOf w = none := by
        unfold headOf
        split
        · rename_i m c heq; rw [heq] at h2; simp at h2
        · rfl
      have h2' : ¬ (((Txt.split w spc).length : Int) = 2) := by omega
      rw [hh]
      dsimp only
      simp only [f_read_book, dFn_eq, start_eq]
      simp -implicitDefEqProofs [-lcD_cons, -lcD_nil, -loop_cons, -loop_nil, ct, es, tgStar, ew, neD, lenD, h2']
end K50
namespace K50
open PySem L2 Tok
/-! ## the law's own reader -/
def badI : Nat → List D → List Int
  | _, [] => []
  | k, r :: rs => if badAt k r = true then ((k : Int) + 1) :: badI (k + 1) rs else badI (k + 1) rs
theorem badI_some {rows : List D} : ∀ {k i : Nat}, firstBad k rows = some i → ∃ r, badI k rows = ((i : Int) + 1) :: r := by
  induction rows with
  | nil => intro k i h; cases h
  | cons x xs ih =>
    intro k i h
    unfold firstBad at h
    unfold badI
    split at h
    · rename_i hb; cases h; rw [if_pos hb]; exact ⟨_, rfl⟩
    · rename_i hb; rw [if_neg hb]; exact ih h
theorem badI_none {rows : List D} : ∀ {k : Nat}, firstBad k rows = none → badI k rows = [] := by
  induction rows with
  | nil => intro k h; rfl
  | cons x xs ih =>
    intro k h
    unfold firstBad at h
    unfold badI
    split at h
    · cases h
    · rename_i hb; rw [if_neg hb]; exact ih h
theorem pys_ints (is : List Int) : toPys (is.map .int) = some (is.map PyData.int) := by
  induction is with
  | nil => rfl
  | cons a r ih => simp [toPys, toPy, ih]
theorem lay_ints (is : List Int) : PyData.canLayAll0 (is.map PyData.int) = true ∧ PyData.depthAll (is.map PyData.int) = 0 := by
  induction is with
  | nil => exact ⟨by simp [PyData.canLayAll0], by simp [PyData.depthAll]⟩
  | cons a r ih => exact ⟨by simp [PyData.canLayAll0, PyData.canLay0, ih.1], by simp [PyData.depthAll, PyData.depth, ih.2]⟩
theorem shaped_ints (is : List Int) : SeqAt.shaped (.list (is.map PyData.int)) = true := by
  have h := lay_ints is
  simp [SeqAt.shaped, PyData.canLay0, PyData.depth, h.1, h.2]
theorem shaped_nil : SeqAt.shaped (.list []) = true := shaped_ints []
theorem eq_ints (is : List Int) : eqB (.lst (is.map .int)) (.lst []) = some is.isEmpty := by
  have e : eqB (.lst (is.map .int)) (.lst []) = match toPy (.lst (is.map .int)), toPy (.lst []) with
    | some a, some b => if SeqAt.shaped a = true ∧ SeqAt.shaped b = true then some (PyData.eqv a b) else none
    | _, _ => none := rfl
  rw [e]
  have h1 : toPy (.lst (is.map .int)) = some (.list (is.map PyData.int)) := by simp [toPy, pys_ints]
  have h2 : toPy (.lst []) = some (.list []) := rfl
  rw [h1, h2]
  dsimp only
  rw [if_pos ⟨shaped_ints is, shaped_nil⟩]
  cases is with
  | nil => simp [PyData.eqv, PyData.eqvAll]
  | cons a r => simp [PyData.eqv, PyData.eqvAll]
def intsFrom (k n : Nat) : List D := (List.range' k n).map fun (j : Nat) => D.int (j : Int)
theorem rng_ints (n : Nat) : rngD 0 n = intsFrom 0 n := by simp [rngD, intsFrom, List.range_eq_range']
def ttBad : DenT := dOrT (dTest (dOp2 isND (dOp2 ixD (dVar 3) (dVar 6)) (dC .non))) (dTest (dOp2 geD (dVar 6) (dC (.int 40))))
theorem lc_bad (a0 a1 a2 a4 a5 : Option D) (rows : List D) (S : Sto) : ∀ (suf pre : List D), rows = pre ++ suf → lcD (tgName 6) ttBad (dOp2 addD (dVar 6) (dC (.int 1))) (intsFrom pre.length suf.length) [a0, a1, a2, some (.lst rows), a4, a5, none] S = .ok ((badI pre.length suf).map .int) S
  | [], pre, _ => rfl
  | r :: rs, pre, h => by
    have ih := lc_bad a0 a1 a2 a4 a5 rows S rs (pre ++ [r]) (by rw [h]; simp)
    have ei : intsFrom pre.length (r :: rs).length = .int (pre.length : Int) :: intsFrom (pre ++ [r]).length rs.length := by
      unfold intsFrom
      rw [List.length_cons, List.range'_succ]
      simp
    have hx : atI rows (pre.length : Int) = some r := by
      rw [atI_nat (by rw [h]; simp)]
      simp [h]
    rw [ei, lcD_cons, e_tgName, lcOne_some]
    have et : ttBad ([a0, a1, a2, some (.lst rows), a4, a5, none].set 6 (some (.int (pre.length : Int)))) S = .ok (badAt pre.length r) S := by
      unfold badAt
      cases hn : isNon r with
      | true => simp -implicitDefEqProofs [ttBad, ixD, hx, isN, hn]
      | false =>
        by_cases h40 : 40 ≤ pre.length
        · have h' : (40 : Int) ≤ pre.length := by omega
          simp -implicitDefEqProofs [ttBad, ixD, hx, isN, hn, geD, cmpI, h40, h']
        · have h' : ¬ (40 : Int) ≤ pre.length := by omega
          simp -implicitDefEqProofs [ttBad, ixD, hx, isN, hn, geD, cmpI, h40, h']
    rw [et, bindN_ok]
    have el : (pre ++ [r]).length = pre.length + 1 := by simp
    unfold badI
    by_cases hb : badAt pre.length r = true
    · rw [if_pos hb, if_pos hb]
      have ea : dOp2 addD (dVar 6) (dC (.int 1)) ([a0, a1, a2, some (.lst rows), a4, a5, none].set 6 (some (.int (pre.length : Int)))) S = .ok (.int ((pre.length : Int) + 1)) S := by simp -implicitDefEqProofs [addD]
      rw [ea, bindN_ok, ih, el]
      rfl
    · rw [if_neg hb, if_neg hb, ih, el]
theorem atI_0 {x : D} {xs : List D} : atI (x :: xs) 0 = some x := atI_nat (k := 0) (by simp)
theorem atI_1 {x y : D} {xs : List D} : atI (x :: y :: xs) 1 = some y := atI_nat (k := 1) (by simp)
theorem eq_ints_c (a : Int) (is : List Int) : eqB (.lst (.int a :: is.map .int)) (.lst []) = some false := eq_ints (a :: is)
theorem eq_nil : eqB (.lst []) (.lst []) = some true := rfl
theorem in_forms (s : Str) (S : Sto) : inB S (.str s) (.tup [.str "termed", .str "bare"]) = some (decide (s ∈ formsS)) := in_strs formsS s S
theorem in_scopes (s : Str) (S : Sto) : inB S (.str s) (.tup [.str "all", .str "key"]) = some (decide (s ∈ scopesS)) := in_strs scopesS s S
def dueD : Due → D
  | .bad i => .int i
  | .book m c rows => .tup [.str m, .str c, .lst rows]
theorem law_read {t : Str} (ht : t.length ≤ lineMax) (S : Sto) : f_law_read [.str t] S = .ok (dueD (dueOf t)) S := by
  have es : splitD t [.str "\n"] = some (.lst ((Txt.split t nl).map .str)) := split_ok nl_len (Nat.le_trans ht (by decide))
  have hpos := PyProof.Rows.split_pos t nl
  have hlen := len_max ht
  have hmx : (Txt.split t nl).length ≤ t.length + 2 := PyProof.Rows.split_le t nl
  have hshort : ∀ s ∈ Txt.split t nl, s.length ≤ lineMax := fun s hs => Nat.le_trans (PyProof.Rows.part_short hs) ht
  unfold dueOf
  generalize Txt.split t nl = ls at *
  match ls, hpos with
  | w :: os, _ =>
    have ew : splitD w [.str " "] = some (.lst ((Txt.split w spc).map .str)) := split_ok spc_len (Nat.le_trans (hshort w List.mem_cons_self) (by decide))
    simp only [List.map_cons] at es
    dsimp only
    have n0 : ∀ xs : List D, atI (.str w :: xs) 0 = some (.str w) := fun xs => atI_nat (k := 0) (by simp)
    by_cases h2 : (Txt.split w spc).length = 2
    · obtain ⟨m, c, hw⟩ : ∃ m c, Txt.split w spc = [m, c] := by
        revert h2
        generalize Txt.split w spc = ws
        intro h2
        match ws, h2 with
        | [m, c], _ => exact ⟨m, c, rfl⟩
      rw [hw] at ew
      by_cases hm : m ∈ formsS
      · by_cases hc : c ∈ scopesS
        · have hh : headOf w = some (m, c) := by unfold headOf; rw [hw]; simp [hm, hc]
          rw [hh]
          dsimp only
          have hz : os.length ≤ sizeLine := by simp at hlen; omega
          have hn62 : os.length < 2 ^ 62 := by have := sizeLine_eq; omega
          have hcut : cutL (.str w :: os.map D.str) (some 1) none = os.map D.str := by
            simp [cutL, HT.sIx, List.take_of_length_le]
          have hlc : lcD (tgName 4) tYesD (dCall f_law_line_row (aCons (dVar 4) aNil)) (os.map .str) [some (.str t), some (.lst (.str w :: os.map .str)), some (.lst [.str m, .str c]), none, none, none, none] S = .ok (rowsOf os) S := by
            have e := lc_map (S := S) (ρ := [some (.str t), some (.lst (.str w :: os.map .str)), some (.lst [.str m, .str c]), none, none, none, none]) (i := 4) (te := dCall f_law_line_row (aCons (dVar 4) aNil)) (h := fun d => match d with | .str s => rowD s | _ => .non) (os.map .str) fun d hd => by
              obtain ⟨s, hs, rfl⟩ := List.mem_map.mp hd
              simp -implicitDefEqProofs [line_row (hshort s (List.mem_cons_of_mem _ hs)), rowD]
            rw [e, List.map_map]
            rfl
          have hrl : (rowsOf os).length = os.length := by simp [rowsOf]
          have hb := lc_bad (some (.str t)) (some (.lst (.str w :: os.map .str))) (some (.lst [.str m, .str c])) none none (rowsOf os) S (rowsOf os) [] rfl
          rw [List.length_nil, hrl] at hb
          have hr : rngR [.int (os.length : Int)] S = .ok (intsFrom 0 os.length) S := by rw [rngR_nat hn62, rng_ints]
          have hil : (intsFrom 0 os.length).length = os.length := by simp [intsFrom]
          unfold ttBad at hb
          have hne : ∀ S, neD S (.lst ((badI 0 (rowsOf os)).map .int)) (.lst []) = some (.bl (!(badI 0 (rowsOf os)).isEmpty)) := fun S => by
            unfold neD; rw [eq_ints]; rfl
          cases hf : firstBad 0 (rowsOf os) with
          | some i =>
            obtain ⟨rest, hbi⟩ := badI_some hf
            have n1 : atI ((badI 0 (rowsOf os)).map D.int) 0 = some (.int (i + 1)) := by rw [hbi]; exact atI_nat (k := 0) (by simp)
            have hem : (badI 0 (rowsOf os)).isEmpty = false := by rw [hbi]; rfl
            dsimp only [dueD]
            simp only [f_law_read, dFn_eq, start_eq]
            simp -implicitDefEqProofs [-lcD_cons, -lcD_nil, -loop_cons, -loop_nil, isiD, tyD, okTy, isT, es, ixD, atI_0, atI_1, ew, neD, lenD, notInD, in_forms, in_scopes, hm, hc, e_dLc, slD, hcut, hz, wipeD, hlc, hrl, hr, hil, hb, hbi, eq_ints_c, sized_of]
          | none =>
            have hbi := badI_none hf
            dsimp only [dueD]
            simp only [f_law_read, dFn_eq, start_eq]
            simp -implicitDefEqProofs [-lcD_cons, -lcD_nil, -loop_cons, -loop_nil, isiD, tyD, okTy, isT, es, ixD, atI_0, atI_1, ew, neD, lenD, notInD, in_forms, in_scopes, hm, hc, e_dLc, slD, hcut, hz, wipeD, hlc, hrl, hr, hil, hb, hbi, eq_nil, sized_of]
        · have hh : headOf w = none := by unfold headOf; rw [hw]; simp [hc]
          rw [hh]
          dsimp only [dueD]
          simp only [f_law_read, dFn_eq, start_eq]
          simp -implicitDefEqProofs [-lcD_cons, -lcD_nil, -loop_cons, -loop_nil, isiD, tyD, okTy, isT, es, ixD, atI_0, atI_1, ew, neD, lenD, notInD, in_forms, in_scopes, hm, hc, sized_of]
      · have hh : headOf w = none := by unfold headOf; rw [hw]; simp [hm]
        rw [hh]
        dsimp only [dueD]
        simp only [f_law_read, dFn_eq, start_eq]
        simp -implicitDefEqProofs [-lcD_cons, -lcD_nil, -loop_cons, -loop_nil, isiD, tyD, okTy, isT, es, ixD, atI_0, atI_1, ew, neD, lenD, notInD, in_forms, in_scopes, hm, sized_of]
    · have hh : headOf w = none := by
        unfold headOf
        split
        · rename_i m c heq; rw [heq] at h2; simp at h2
        · rfl
      have h2' : ¬ (((Txt.split w spc).length : Int) = 2) := by omega
      rw [hh]
      dsimp only [dueD]
      simp only [f_law_read, dFn_eq, start_eq]
      simp -implicitDefEqProofs [-lcD_cons, -lcD_nil, -loop_cons, -loop_nil, isiD, tyD, okTy, isT, es, ixD, atI_0, atI_1, ew, neD, lenD, h2', sized_of]
end K50
namespace K50
open PySem L2 Tok
/-! ## said, and both readers agree -/
def saidR (t : Str) (S : Sto) : R D := match dueOf t with
  | .bad i => .ok (.int i) S
  | .book m c rows => .ok (.ref S.length) (S ++ [.ins 5 (bookFs m c rows)])
theorem law_said {t : Str} (ht : t.length ≤ lineMax) (way : Int) (S : Sto) : f_law_said [.int way, .str t] S = saidR t S := by
  have hr := read_book ht S
  have hl : ∀ a b c d e f : Option D, 5 < [a, b, c, d, e, f].length := fun _ _ _ _ _ _ => by simp
  unfold saidR
  cases hd : dueOf t with
  | bad i =>
    rw [hd] at hr
    dsimp only at hr ⊢
    simp only [f_law_said, dFn_eq, start_eq]
    simp -implicitDefEqProofs [sized_of, tgTup, e_sTryAt, eqD, hr, tryAtR_exn, isN, isNon]
  | book m c rows =>
    rw [hd] at hr
    dsimp only at hr ⊢
    simp only [f_law_said, dFn_eq, start_eq]
    simp -implicitDefEqProofs [sized_of, tgTup, e_sTryAt, eqD, hr, isN, isNon]
theorem due_good {t m c : Str} {rows : List D} (h : dueOf t = .book m c rows) : rows.length ≤ 40 ∧ ∀ x ∈ rows, goodRow x := by
  unfold dueOf at h
  split at h
  · cases h
  · split at h
    · cases h
    · split at h
      · cases h
      · rename_i os _ _ _ _ hf
        cases h
        obtain ⟨g1, g2⟩ := first_none hf
        refine ⟨?_, fun x hx => ?_⟩
        · rcases g2 with h | h
          · rw [h]; decide
          · omega
        · obtain ⟨s, _, rfl⟩ := List.mem_map.mp hx
          rcases row_good s with h | h
          · rw [g1 _ hx] at h; cases h
          · exact h
theorem plain_row {x : D} (h : goodRow x) (n : Nat) : plainD (n + 1) x := by
  obtain ⟨d, r, l, a, k, rfl, _⟩ := h
  refine ⟨by simp, fun y hy => ?_⟩
  simp only [List.mem_cons, List.not_mem_nil, or_false] at hy
  rcases hy with rfl | rfl | rfl | rfl | rfl <;> simp [plainD]
theorem plain_due {m c : Str} {rows : List D} (hl : rows.length ≤ 40) (hr : ∀ x ∈ rows, goodRow x) : plainD 5 (.tup [.str m, .str c, .lst rows]) := by
  refine ⟨by simp, fun y hy => ?_⟩
  simp only [List.mem_cons, List.not_mem_nil, or_false] at hy
  rcases hy with rfl | rfl | rfl
  · simp [plainD]
  · simp [plainD]
  · exact ⟨by omega, fun x hx => plain_row (hr x hx) 2⟩
theorem ty_last (S : Sto) (fs : List (Str × D)) : tyD (S ++ [.ins 5 fs]) (.ref S.length) = some (.own 5) := by simp [tyD]
theorem read_right {t : Str} (ht : t.length ≤ lineMax) (S : Sto) : ∃ S', f_law_read_right [.str t] S = .ok (.bl true) S' ∧ S <+: S' := by
  have h1 := law_read ht
  have h2 := law_said ht
  cases hd : dueOf t with
  | bad i =>
    refine ⟨S, ?_, List.prefix_refl _⟩
    unfold saidR at h2
    rw [hd] at h1 h2
    dsimp only [dueD] at h1 h2
    have h3 : ∀ S, f_law_agree 6 [.int i, .int i] S = .ok (.bl true) S := fun S => agree_same 5 (.int i) S (by simp [plainD])
    simp only [f_law_read_right, dFn_eq, start_eq]
    simp -implicitDefEqProofs [h1, h2, h3, sized_of, isiD, tyD, okTy, isT]
  | book m c rows =>
    obtain ⟨hl, hr⟩ := due_good hd
    unfold saidR at h2
    rw [hd] at h1 h2
    dsimp only [dueD] at h1 h2
    have h3 : ∀ S, f_law_agree 6 [.tup [.str m, .str c, .lst rows], .tup [.str m, .str c, .lst rows]] S = .ok (.bl true) S := fun S => agree_same 5 _ S (plain_due hl hr)
    have hz : rows.length ≤ sizeLine := small (by omega)
    have f1 : ∀ S : Sto, fldD 5 "marks" (S ++ [.ins 5 (bookFs m c rows)]) (.ref S.length) = some (.str m) := fun S => by simp [fldD, insOf_last, bookFs]
    have f2 : ∀ S : Sto, fldD 5 "scope" (S ++ [.ins 5 (bookFs m c rows)]) (.ref S.length) = some (.str c) := fun S => by
      have e : (("scope" : Str) == "marks") = false := by decide +kernel
      simp [fldD, insOf_last, bookFs, List.lookup, e]
    have f3 : (bookFs m c rows).lookup ("kept_rows" : Str) = some (.tup rows) := by
      have e : (("kept_rows" : Str) == "marks") = false := by decide +kernel
      have e2 : (("kept_rows" : Str) == "scope") = false := by decide +kernel
      simp [bookFs, List.lookup, e, e2]
    have hlc : ∀ (S : Sto) (a b c d : Option D), lcD (tgName 4) tYesD (dVar 4) rows [a, b, c, d, none] S = .ok rows S := fun S a b c d => by
      have e := lc_map (S := S) (ρ := [a, b, c, d, none]) (i := 4) (te := dVar 4) (h := id) rows fun x hx => by simp
      rw [e, List.map_id]
    generalize hF : bookFs m c rows = F at *
    refine ⟨S ++ [.ins 5 F] ++ [.ins 5 F], ?_, ?_⟩
    · have ht1 := ty_last S F
      have ht2 := ty_last (S ++ [.ins 5 F]) F
      have g1 := f1 S
      have g2 := f2 S
      have g3 := f1 (S ++ [.ins 5 F])
      have g4 := f2 (S ++ [.ins 5 F])
      have i1 := insOf_last (S := S) (c := 5) (fs := F)
      have i2 := insOf_last (S := S ++ [.ins 5 F]) (c := 5) (fs := F)
      have el : (S ++ [SO.ins 5 F]).length = S.length + 1 := by simp
      rw [el] at ht2 g3 g4 i2
      simp only [f_law_read_right, dFn_eq, start_eq]
      simp -implicitDefEqProofs [-lcD_cons, -lcD_nil, -List.append_assoc, h1, h2, h3, sized_of, isiD, tyD, ht1, ht2, okTy, isT, g1, g2, g3, g4, e_dLc, e_iOwnD, i1, i2, f3, hz, wipeD, hlc]
    · exact ⟨[.ins 5 F, .ins 5 F], by simp⟩
end K50
namespace K50
open PySem L2 Tok
/-! ## objects that are no texts, no books -/
theorem odd_right {x : D} (h : ∀ S, isiD OWN .str S x = some (.bl false)) (S : Sto) : f_law_read_right [x] S = .ok (.bl true) S := by
  have h1 : ∀ S, f_law_read [x] S = .ok (.int 0) S := fun S => by
    simp only [f_law_read, dFn_eq, start_eq]
    simp -implicitDefEqProofs [h]
  have h0 : ∀ S, f_check_text [x] S = .exn 4 [("at", .int 0)] S := fun S => by
    simp only [f_check_text, dFn_eq, start_eq]
    simp -implicitDefEqProofs [h]
  have hr : ∀ S, f_read_book [x] S = .exn 4 [("at", .int 0)] S := fun S => by
    simp only [f_read_book, dFn_eq, start_eq]
    simp -implicitDefEqProofs [h0]
  have h2 : ∀ (way : Int) S, f_law_said [.int way, x] S = .ok (.int 0) S := fun way S => by
    simp only [f_law_said, dFn_eq, start_eq]
    simp -implicitDefEqProofs [sized_of, tgTup, e_sTryAt, eqD, hr, tryAtR_exn, isN, isNon]
  have h3 : ∀ S, f_law_agree 6 [.int 0, .int 0] S = .ok (.bl true) S := fun S => agree_same 5 (.int 0) S (by simp [plainD])
  simp only [f_law_read_right, dFn_eq, start_eq]
  simp -implicitDefEqProofs [h1, h2, h3, sized_of, isiD, tyD, okTy, isT]
theorem no_show {x : D} {S : Sto} (h : isiD OWN (.own 5) S x = some (.bl false)) : f_show_book [x] S = .exn 2 [] S := by
  have h0 : f_check_book [x] S = .exn 2 [] S := by
    simp only [f_check_book, dFn_eq, start_eq]
    simp -implicitDefEqProofs [h]
  simp only [f_show_book, dFn_eq, start_eq]
  simp -implicitDefEqProofs [h0]
theorem no_book (S : Sto) : f_law_no_book_right [] S = .ok (.bl true) S := by
  have n1 : f_show_book [.non] S = .exn 2 [] S := no_show rfl
  have n2 : f_show_book [.str "termed all"] S = .exn 2 [] S := no_show rfl
  have n3 : f_show_book [.tup [.str "termed", .str "all", .lst []]] S = .exn 2 [] S := no_show rfl
  have n4 : f_show_book [.int 3] S = .exn 2 [] S := no_show rfl
  have n5 : f_show_book [.lst []] S = .exn 2 [] S := no_show rfl
  have n6 : f_show_book [.bl true] S = .exn 2 [] S := no_show rfl
  simp only [f_law_no_book_right, dFn_eq, start_eq]
  simp -implicitDefEqProofs [sized_of, e_sTryNo, tryNoR_exn, n1, n2, n3, n4, n5, n6, eqD]
end K50
namespace K50
open PySem L2 Tok
/-! ## showing -/
theorem atI_2 {a b c : D} {xs : List D} : atI (a :: b :: c :: xs) 2 = some c := atI_nat (k := 2) (by simp)
theorem atI_3 {a b c d : D} {xs : List D} : atI (a :: b :: c :: d :: xs) 3 = some d := atI_nat (k := 3) (by simp)
theorem atI_4 {a b c d e : D} {xs : List D} : atI (a :: b :: c :: d :: e :: xs) 4 = some e := atI_nat (k := 4) (by simp)
theorem short_deeds {s : Str} (h : s ∈ deedsS) : s.length ≤ 10 := (show ∀ s ∈ deedsS, s.length ≤ 10 by decide +kernel) s h
theorem short_roles {d s : Str} (h : s ∈ rolesS d ++ [("any" : Str)]) : s.length ≤ 10 := by
  have e : ∀ s ∈ ([["leads", "follows"], ["leads"], ["any"]] : List (List Str)).flatMap (fun l => l ++ [("any" : Str)]), s.length ≤ 10 := by decide +kernel
  refine e s (List.mem_flatMap.mpr ⟨rolesS d, ?_, h⟩)
  unfold rolesS
  split
  · simp
  · split <;> simp
theorem short_rel {d s : Str} (h : s ∈ relS d ++ [("any" : Str)]) : s.length ≤ 10 := by
  have e : ∀ s ∈ ([["none", "first", "same", "elder", "newer"], ["none", "safe", "held", "behind", "lost"]] : List (List Str)).flatMap (fun l => l ++ [("any" : Str)]), s.length ≤ 10 := by decide +kernel
  refine e s (List.mem_flatMap.mpr ⟨relS d, ?_, h⟩)
  unfold relS
  split <;> simp
theorem short_act {d s : Str} (h : s ∈ actS d) : s.length ≤ 10 := by
  have e : ∀ s ∈ ([["answer", "safe", "ask", "wait", "tell"], ["take", "sure", "wait", "tell"], ["join", "put", "drop", "wait", "tell"]] : List (List Str)).flatMap id, s.length ≤ 10 := by decide +kernel
  refine e s (List.mem_flatMap.mpr ⟨actS d, ?_, h⟩)
  unfold actS
  split
  · simp
  · split <;> simp
theorem short_keep {d s : Str} (h : s ∈ keepS d) : s.length ≤ 10 := by
  have e : ∀ s ∈ ([["nothing", "raise seen", "raise end", "put seen", "put end"], ["nothing", "raise", "put"], ["nothing"]] : List (List Str)).flatMap id, s.length ≤ 10 := by decide +kernel
  refine e s (List.mem_flatMap.mpr ⟨keepS d, ?_, h⟩)
  unfold keepS
  split
  · simp
  · split <;> simp
theorem book_short {d r l a k : Str} (h : bookRow d r l a k = true) : d.length ≤ 10 ∧ r.length ≤ 10 ∧ l.length ≤ 10 ∧ a.length ≤ 10 ∧ k.length ≤ 10 := by
  unfold bookRow at h
  simp only [Bool.and_eq_true, decide_eq_true_eq] at h
  exact ⟨short_deeds h.1, short_roles h.2.1, short_rel h.2.2.1, short_act h.2.2.2.1, short_keep h.2.2.2.2⟩
def lineS : D → Str
  | .tup [.str d, .str r, .str l, .str a, .str k] => Txt.join spc [d, r, l, a, Txt.replace k spc das]
  | _ => Str.empty
theorem spc_one : spc = ⟨#[32]⟩ := by decide +kernel
theorem repl_spc (e : Str) : Txt.join das (Txt.split e spc) = Txt.replace e spc das := by
  have h := StrLaws.replace_one e das 32
  rw [← spc_one] at h
  rw [h]
  exact StrLaws.glued_eq_join _ _
theorem repl_short {k : Str} (h : k.length ≤ 10) : (Txt.replace k spc das).length ≤ 22 := by
  rw [← repl_spc]
  have w := PyProof.Rows.split_weight k spc (by rw [spc_len]; exact Nat.le_refl 1)
  have j := StrLaws.join_length_le das (Txt.split k spc)
  rw [das_len] at j
  have e : Txt.join das (Txt.split k spc) = Str.join das (Txt.split k spc) := StrLaws.glued_eq_join _ _
  rw [e]
  omega
theorem join_strs {b : Str} (hb : b.length = 1) {ys : List Str} (h : (ys.map (·.length)).sum + ys.length ≤ 1000000) : joinL b (ys.map .str) = some (.str (Txt.join b ys)) := by
  unfold joinL
  rw [strs_map]
  simp only [Option.bind_some]
  rw [if_pos (by rw [hb]; omega)]
theorem line_short {x : D} (h : goodRow x) : (lineS x).length ≤ 100 := by
  obtain ⟨d, r, l, a, k, rfl, hb⟩ := h
  obtain ⟨h1, h2, h3, h4, h5⟩ := book_short hb
  have h6 := repl_short h5
  show (Txt.join spc [d, r, l, a, Txt.replace k spc das]).length ≤ 100
  have j := StrLaws.join_length_le spc [d, r, l, a, Txt.replace k spc das]
  rw [spc_len] at j
  have e : Txt.join spc [d, r, l, a, Txt.replace k spc das] = Str.join spc [d, r, l, a, Txt.replace k spc das] := StrLaws.glued_eq_join _ _
  rw [e]
  simp at j
  omega
theorem book_row_line {x : D} (h : goodRow x) (S : Sto) : f_book_row_line [x] S = .ok (.str (lineS x)) S := by
  obtain ⟨d, r, l, a, k, rfl, hb⟩ := h
  obtain ⟨h1, h2, h3, h4, h5⟩ := book_short hb
  have h6 := repl_short h5
  have es : splitD k [.str " "] = some (.lst ((Txt.split k spc).map .str)) := split_ok spc_len (by omega)
  have ej : joinD "-" [.lst ((Txt.split k spc).map .str)] = some (.str (Txt.replace k spc das)) := by
    have w := PyProof.Rows.split_weight k spc (by rw [spc_len]; exact Nat.le_refl 1)
    have := join_strs das_len (ys := Txt.split k spc) (by omega)
    rw [repl_spc] at this
    exact this
  have ej2 : joinD " " [.lst [.str d, .str r, .str l, .str a, .str (Txt.replace k spc das)]] = some (.str (Txt.join spc [d, r, l, a, Txt.replace k spc das])) :=
    join_strs spc_len (ys := [d, r, l, a, Txt.replace k spc das]) (by simp; omega)
  have hc : cutL [D.str d, .str r, .str l, .str a, .str k] none (some 4) = [.str d, .str r, .str l, .str a] := by simp [cutL, HT.sIx]
  have a4 : atI [D.str d, .str r, .str l, .str a, .str k] 4 = some (.str k) := atI_nat (k := 4) (by simp)
  simp only [f_book_row_line, dFn_eq, start_eq, row5]
  simp -implicitDefEqProofs [ixD, a4, es, ej, slD, hc, sized_of, ej2, lineS]
theorem law_row_line {x : D} (h : goodRow x) (S : Sto) : f_law_row_line [x] S = .ok (.str (lineS x)) S := by
  obtain ⟨d, r, l, a, k, rfl, hb⟩ := h
  obtain ⟨h1, h2, h3, h4, h5⟩ := book_short hb
  have h6 := repl_short h5
  have ej2 : joinD " " [.lst [.str d, .str r, .str l, .str a, .str (Txt.replace k spc das)]] = some (.str (Txt.join spc [d, r, l, a, Txt.replace k spc das])) :=
    join_strs spc_len (ys := [d, r, l, a, Txt.replace k spc das]) (by simp; omega)
  have rp : replD " " "-" S (.str k) = some (.str (Txt.replace k spc das)) := by
    unfold replD
    dsimp only
    have h1 : ("-" : Str).length = 1 := das_len
    rw [if_pos (by rw [h1]; omega)]
    rfl
  simp only [f_law_row_line, dFn_eq, start_eq, row5]
  simp -implicitDefEqProofs [ixD, atI_0, atI_1, atI_2, atI_3, atI_4, rp, sized_of, ej2, lineS]
/-! ## the whole text -/
def headS (m c : Str) : Str := Txt.join spc [m, c]
def textOf (m c : Str) (rows : List D) : Str := Txt.join nl (headS m c :: rows.map lineS)
theorem short_form {s : Str} (h : s ∈ formsS) : s.length ≤ 10 := (show ∀ s ∈ formsS, s.length ≤ 10 by decide +kernel) s h
theorem short_scope {s : Str} (h : s ∈ scopesS) : s.length ≤ 10 := (show ∀ s ∈ scopesS, s.length ≤ 10 by decide +kernel) s h
theorem head_short {m c : Str} (h1 : m ∈ formsS) (h2 : c ∈ scopesS) : (headS m c).length ≤ 22 := by
  have a := short_form h1
  have b := short_scope h2
  unfold headS
  have j := StrLaws.join_length_le spc [m, c]
  rw [spc_len] at j
  have e : Txt.join spc [m, c] = Str.join spc [m, c] := StrLaws.glued_eq_join _ _
  rw [e]
  simp at j
  omega
theorem lines_sum {m c : Str} (h1 : m ∈ formsS) (h2 : c ∈ scopesS) {rows : List D} (hl : rows.length ≤ 40) (hr : ∀ x ∈ rows, goodRow x) : ((headS m c :: rows.map lineS).map (·.length)).sum + (headS m c :: rows.map lineS).length ≤ 10000 := by
  have h := StrLaws.sumLen_le (B := 100) (headS m c :: rows.map lineS) fun y hy => by
    rcases List.mem_cons.mp hy with rfl | hy
    · have := head_short h1 h2; omega
    · obtain ⟨x, hx, rfl⟩ := List.mem_map.mp hy
      exact line_short (hr x hx)
  have e : (headS m c :: rows.map lineS).length = rows.length + 1 := by simp
  rw [e] at h ⊢
  omega
theorem text_short {m c : Str} (h1 : m ∈ formsS) (h2 : c ∈ scopesS) {rows : List D} (hl : rows.length ≤ 40) (hr : ∀ x ∈ rows, goodRow x) : (textOf m c rows).length ≤ 10000 := by
  have h := lines_sum h1 h2 hl hr
  unfold textOf
  have j := StrLaws.join_length_le nl (headS m c :: rows.map lineS)
  rw [nl_len] at j
  have e : Txt.join nl (headS m c :: rows.map lineS) = Str.join nl (headS m c :: rows.map lineS) := StrLaws.glued_eq_join _ _
  rw [e]
  omega
theorem join_text {m c : Str} (h1 : m ∈ formsS) (h2 : c ∈ scopesS) {rows : List D} (hl : rows.length ≤ 40) (hr : ∀ x ∈ rows, goodRow x) : joinD "\n" [.lst (.str (headS m c) :: rows.map fun x => D.str (lineS x))] = some (.str (textOf m c rows)) := by
  have h := join_strs nl_len (ys := headS m c :: rows.map lineS) (Nat.le_trans (lines_sum h1 h2 hl hr) (by decide))
  rw [List.map_cons, List.map_map] at h
  exact h
theorem head_eq (m c : Str) : Str.empty ++ m ++ spc ++ c = headS m c := by
  unfold headS
  rw [Str.empty_append]
  exact (StrLaws.glued_eq_join spc [m, c]).symm
theorem f_marks (m c : Str) (rows : List D) : (bookFs m c rows).lookup ("marks" : Str) = some (.str m) := by simp [bookFs]
theorem f_scope (m c : Str) (rows : List D) : (bookFs m c rows).lookup ("scope" : Str) = some (.str c) := by
  have e : (("scope" : Str) == "marks") = false := by decide +kernel
  simp [bookFs, List.lookup, e]
theorem f_rows (m c : Str) (rows : List D) : (bookFs m c rows).lookup ("kept_rows" : Str) = some (.tup rows) := by
  have e : (("kept_rows" : Str) == "marks") = false := by decide +kernel
  have e2 : (("kept_rows" : Str) == "scope") = false := by decide +kernel
  simp [bookFs, List.lookup, e, e2]
theorem ins_at {S : Sto} {l : Nat} {fs : List (Str × D)} (h : S[l]? = some (.ins 5 fs)) : insOf S 5 (.ref l) = some (l, fs) := by simp [insOf, h]
theorem show_book {S : Sto} {l : Nat} {m c : Str} {rows : List D} (h : S[l]? = some (.ins 5 (bookFs m c rows))) (h1 : m ∈ formsS) (h2 : c ∈ scopesS) (hl : rows.length ≤ 40) (hr : ∀ x ∈ rows, goodRow x) : f_show_book [.ref l] S = .ok (.str (textOf m c rows)) S := by
  have i := ins_at h
  have ty : tyD S (.ref l) = some (.own 5) := by simp [tyD, h]
  have cb : f_check_book [.ref l] S = .ok .non S := by
    simp only [f_check_book, dFn_eq, start_eq]
    simp -implicitDefEqProofs [isiD, ty, okTy, isT]
  have hz : rows.length ≤ sizeLine := small (by omega)
  have hlc : lcD (tgName 2) tYesD (dCall f_book_row_line (aCons (dVar 2) aNil)) rows [some (.ref l), none, none] S = .ok (rows.map fun x => D.str (lineS x)) S :=
    lc_map (h := fun x => D.str (lineS x)) rows fun d hd => by simp -implicitDefEqProofs [book_row_line (hr d hd)]
  have a := short_form h1
  have b := short_scope h2
  have z1 : m.length ≤ sizeLine := small (by omega)
  have z2 : c.length ≤ sizeLine := small (by omega)
  have s1 : spc.length = 1 := spc_len
  have e0 : Str.empty.length = 0 := rfl
  have js : dJs [dOp1 fmtD (dOp1 (fldD 5 ("marks" : Str)) (dVar 0)), dC (.str " "), dOp1 fmtD (dOp1 (fldD 5 ("scope" : Str)) (dVar 0))] Str.empty [some (.ref l), some (.lst (rows.map fun x => D.str (lineS x))), none] S = .ok (.str (headS m c)) S := by
    have q1 : (Str.empty ++ m).length ≤ 1000 := by rw [Str.length_append]; omega
    have q2 : (Str.empty ++ m ++ spc).length ≤ 1000 := by rw [Str.length_append, Str.length_append]; omega
    have q3 : (Str.empty ++ m ++ spc ++ c).length ≤ 1000 := by rw [Str.length_append, Str.length_append, Str.length_append]; omega
    have f1 : dOp1 fmtD (dOp1 (fldD 5 ("marks" : Str)) (dVar 0)) [some (.ref l), some (.lst (rows.map fun x => D.str (lineS x))), none] S = .ok (.str m) S := by
      simp -implicitDefEqProofs [fldD, i, f_marks, fmtD, z1]
    have f2 : dOp1 fmtD (dOp1 (fldD 5 ("scope" : Str)) (dVar 0)) [some (.ref l), some (.lst (rows.map fun x => D.str (lineS x))), none] S = .ok (.str c) S := by
      simp -implicitDefEqProofs [fldD, i, f_scope, fmtD, z2]
    rw [e_dJs_cons, f1, R.bind_ok, jsR_str q1, e_dJs_cons, e_dC, R.bind_ok]
    show jsR (.str spc) (Str.empty ++ m) _ _ _ = _
    rw [jsR_str q2, e_dJs_cons, f2, R.bind_ok, jsR_str q3, e_dJs_nil, head_eq]
  have jt := join_text h1 h2 hl hr
  have hll : (.str (headS m c) :: rows.map fun x => D.str (lineS x)).length ≤ 1000 := by simp; omega
  simp only [f_show_book, dFn_eq, start_eq]
  simp -implicitDefEqProofs [-lcD_cons, -lcD_nil, cb, e_dLc, e_dListOwn, i, f_rows, listOwnR_tup (show rows.length ≤ 1000 by omega), hz, wipeD, hlc, js, sized_of hll, jt]
end K50
namespace K50
open PySem L2 Tok
/-! ## drawing -/
/-- a cask at l, tapped at most N times -/
def CaskOk (N : Nat) (S : Sto) (l : Nat) : Prop := ∃ a b c : Int, S[l]? = some (.lst [.int a, .int b, .int c]) ∧ 0 ≤ b ∧ b < 2 ^ 200 ∧ 0 ≤ c ∧ c ≤ N
def Kp (l : Nat) (S S' : Sto) : Prop := S.length ≤ S'.length ∧ ∀ j, j ≠ l → ∀ o, S[j]? = some o → S'[j]? = some o
theorem Kp.refl (l : Nat) (S : Sto) : Kp l S S := ⟨Nat.le_refl _, fun _ _ _ h => h⟩
theorem Kp.trans {l : Nat} {S S' S'' : Sto} (a : Kp l S S') (b : Kp l S' S'') : Kp l S S'' := ⟨Nat.le_trans a.1 b.1, fun j hj o h => b.2 j hj o (a.2 j hj o h)⟩
theorem kp_set {l : Nat} {S : Sto} {o : SO} : Kp l S (S.set l o) := ⟨by simp, fun j hj o h => by rw [List.getElem?_set_ne (Ne.symm hj)]; exact h⟩
theorem kp_pre {l : Nat} {S S' : Sto} (h : S <+: S') : Kp l S S' := ⟨h.length_le, fun j _ o e => pre_get h e⟩
theorem cask_pre {N l : Nat} {S S' : Sto} (c : CaskOk N S l) (h : S <+: S') : CaskOk N S' l := by
  obtain ⟨a, b, c, e, r⟩ := c
  exact ⟨a, b, c, pre_get h e, r⟩
theorem CaskOk.mono {N M l : Nat} {S : Sto} (c : CaskOk N S l) (h : N ≤ M) : CaskOk M S l := by
  obtain ⟨a, b, c, e, h1, h2, h3, h4⟩ := c
  exact ⟨a, b, c, e, h1, h2, h3, by omega⟩
theorem big (x : Int) (h : x.natAbs < 2 ^ 900) : x.natAbs < 2 ^ 1000 := Nat.lt_of_lt_of_le h (Nat.pow_le_pow_right (by decide) (by decide))
theorem mod_ok {i j : Int} {S : Sto} (h : 0 < j) : modD S (.int i) (.int j) = some (.int (i % j)) := by
  unfold modD
  dsimp only
  rw [if_pos h]
theorem mul_ok {i j : Int} {S : Sto} (h0 : 0 ≤ i) (h : i < 1000000000) : mulD S (.int i) (.int j) = some (.int (i * j)) := by
  unfold mulD
  dsimp only
  rw [if_pos (.inl ⟨by omega, by omega⟩)]
theorem fdiv_ok {i j : Int} {S : Sto} (h : 0 < j) (h1 : j < 1073741824) : fdivD S (.int i) (.int j) = some (.int (i / j)) := by
  unfold fdivD
  dsimp only
  rw [if_pos ⟨h, h1⟩]
theorem tap {N l : Nat} {S : Sto} (c : CaskOk N S l) (hN : N ≤ 1000000) {span : Int} (h0 : 0 < span) (h1 : span < 1073741824) : ∃ (v : Int) (S' : Sto), f_law_tap [.ref l, .int span] S = .ok (.int v) S' ∧ 0 ≤ v ∧ v < span ∧ Kp l S S' ∧ CaskOk (N + 1) S' l := by
  obtain ⟨a, b, c, hS, hb0, hb1, hc0, hc1⟩ := c
  have hl : l < S.length := (List.getElem?_eq_some_iff.mp hS).1
  have x0 : ixN 3 0 = some 0 := rfl
  have x2 : ixN 3 2 = some 2 := rfl
  by_cases ha : 0 < a
  · refine ⟨a % span, S.set l (.lst [.int (a / span), .int b, .int c]), ?_, Int.emod_nonneg _ (by omega), Int.emod_lt_of_pos _ h0, kp_set, ⟨a / span, b, c, by rw [List.getElem?_set_self hl], hb0, hb1, hc0, by omega⟩⟩
    simp only [f_law_tap, dFn_eq, start_eq]
    simp -implicitDefEqProofs [ixD, hS, atI_0, gtD, cmpI, ha, intD, modD, h0, h1, fdivD, e_sSetIx, setIxR_ok hS x0]
  · let c1 : Int := c + 1
    let S1 : Sto := S.set l (.lst [.int a, .int b, .int c1])
    have hS1 : S1[l]? = some (.lst [.int a, .int b, .int c1]) := by simp [S1, hl]
    let m1 : Int := (b + 30011 * c1) ^ 2 % (10 ^ 39 + 3)
    let m2 : Int := (m1 + 500009 * c1) ^ 3 % (10 ^ 40 + 121)
    have hm0 : 0 ≤ m1 := Int.emod_nonneg _ (by decide +kernel)
    have hm1 : m1 < 10 ^ 39 + 3 := Int.emod_lt_of_pos _ (by decide +kernel)
    have k1 : (b + 30011 * c1).natAbs < 2 ^ 900 := Nat.lt_of_lt_of_le (show (b + 30011 * c1).natAbs < 2 ^ 201 by omega) (Nat.pow_le_pow_right (by decide) (by decide))
    have k2 : (m1 + 500009 * c1).natAbs < 2 ^ 900 := Nat.lt_of_lt_of_le (show (m1 + 500009 * c1).natAbs < 2 ^ 201 by omega) (Nat.pow_le_pow_right (by decide) (by decide))
    have p1 : powD S1 (.int (b + 30011 * c1)) (.int 2) = some (.int ((b + 30011 * c1) ^ 2)) := pow_ok (n := 2) (by decide) (big _ k1)
    have p2 : powD S1 (.int 10) (.int 39) = some (.int (10 ^ 39)) := pow_ok (n := 39) (by decide) (big _ (Nat.lt_of_lt_of_le (show (10 : Int).natAbs < 2 ^ 4 by decide) (Nat.pow_le_pow_right (by decide) (by decide))))
    have p3 : powD S1 (.int (m1 + 500009 * c1)) (.int 3) = some (.int ((m1 + 500009 * c1) ^ 3)) := pow_ok (n := 3) (by decide) (big _ k2)
    have p4 : powD S1 (.int 10) (.int 40) = some (.int (10 ^ 40)) := pow_ok (n := 40) (by decide) (big _ (Nat.lt_of_lt_of_le (show (10 : Int).natAbs < 2 ^ 4 by decide) (Nat.pow_le_pow_right (by decide) (by decide))))
    have q1 : modD S1 (.int ((b + 30011 * c1) ^ 2)) (.int (10 ^ 39 + 3)) = some (.int m1) := mod_ok (by decide +kernel)
    have q2 : modD S1 (.int ((m1 + 500009 * c1) ^ 3)) (.int (10 ^ 40 + 121)) = some (.int m2) := mod_ok (by decide +kernel)
    have q3 : mulD S1 (.int 30011) (.int c1) = some (.int (30011 * c1)) := mul_ok (by decide) (by decide)
    have q4 : mulD S1 (.int 500009) (.int c1) = some (.int (500009 * c1)) := mul_ok (by decide) (by decide)
    refine ⟨m2 / 131072 % span, S1, ?_, Int.emod_nonneg _ (by omega), Int.emod_lt_of_pos _ h0, kp_set, ⟨a, b, c1, hS1, hb0, hb1, by omega, by omega⟩⟩
    have hset : setIxR (.ref l) (.int 2) (.int (c + 1)) [some (.ref l), some (.int span), none, none] S = .ok (.nx [some (.ref l), some (.int span), none, none]) S1 := setIxR_ok hS x2
    simp only [f_law_tap, dFn_eq, start_eq]
    have q5 : fdivD S1 (.int m2) (.int 131072) = some (.int (m2 / 131072)) := fdiv_ok (by decide) (by decide)
    have q6 : modD S1 (.int (m2 / 131072)) (.int span) = some (.int (m2 / 131072 % span)) := mod_ok h0
    clear_value m1 m2 S1 c1
    clear hm0 hm1 k1 k2
    generalize ((10 : Int) ^ 39) = P39 at *
    generalize ((10 : Int) ^ 40) = P40 at *
    generalize hA : ((b + 30011 * c1) ^ 2) = A2 at *
    generalize hB : ((m1 + 500009 * c1) ^ 3) = A3 at *
    simp -implicitDefEqProofs [ixD, hS, hS1, atI_0, atI_1, atI_2, gtD, cmpI, ha, intD, e_sSetIx, hset, addD, p1, p2, p3, p4, q1, q2, q3, q4, q5, q6]
end K50
namespace K50
open PySem L2 Tok
/-! ## a row is drawn -/
def K2 (l f : Nat) (S S' : Sto) : Prop := S.length ≤ S'.length ∧ ∀ j, j ≠ l → j ≠ f → ∀ o, S[j]? = some o → S'[j]? = some o
theorem K2.of {l f : Nat} {S S' : Sto} (h : Kp l S S') : K2 l f S S' := ⟨h.1, fun j a _ o e => h.2 j a o e⟩
theorem K2.trans {l f : Nat} {S S' S'' : Sto} (a : K2 l f S S') (b : K2 l f S' S'') : K2 l f S S'' := ⟨Nat.le_trans a.1 b.1, fun j h1 h2 o e => b.2 j h1 h2 o (a.2 j h1 h2 o e)⟩
theorem k2_set {l f : Nat} {S : Sto} {o : SO} : K2 l f S (S.set f o) := ⟨by simp, fun j _ h o e => by rw [List.getElem?_set_ne (Ne.symm h)]; exact e⟩
theorem cask_set {N l f : Nat} {S : Sto} {o : SO} (c : CaskOk N S l) (h : f ≠ l) : CaskOk N (S.set f o) l := by
  obtain ⟨a, b, c, e, r⟩ := c
  exact ⟨a, b, c, by rw [List.getElem?_set_ne h]; exact e, r⟩
theorem strs_at {ws : List Str} {v : Int} (h0 : 0 ≤ v) (h1 : v < ws.length) : ∃ s, s ∈ ws ∧ atI (strsD ws) v = some (.str s) := by
  obtain ⟨n, rfl⟩ := Int.eq_ofNat_of_zero_le h0
  have hn : n < ws.length := by omega
  refine ⟨ws[n], List.getElem_mem hn, ?_⟩
  rw [atI_nat (by simpa [strsD] using hn)]
  simp [strsD]
def bodyA : DenS := sSeq (sAsg (dOp2 ixD (dVar 2) (dVar 4)) (tgName 5)) (sSeq (sIf (dAndT (dTest (dOp2 ltD (dVar 4) (dC (.int 2)))) (dTest (dOp2 eqD (dCall f_law_tap (aCons (dVar 0) (aCons (dC (.int 3)) aNil))) (dC (.int 0))))) (sSeq (sAsg (dTup (aCons (dC (.str "any")) aNil)) (tgName 5)) sNext) sNext) (sSeq (sDrop (dAppend (dVar 3) (dOp2 ixD (dVar 5) (dCall f_law_tap (aCons (dVar 0) (aCons (dOpN lenD (aCons (dVar 5) aNil)) aNil)))))) sNext))
/-- the end of a turn: what is chosen comes to the list -/
theorem turn_end {N l f : Nat} {S : Sto} (c : CaskOk N S l) (hN : N ≤ 999990) (hf : f ≠ l) {acc : List D} (hS : S[f]? = some (.lst acc)) (ha : acc.length ≤ 100) (a1 a2 a4 : Option D) {ws : List Str} (hw : 0 < ws.length) (hw2 : ws.length ≤ 100) :
    ∃ (s : Str) (S' : Sto), sSeq (sDrop (dAppend (dVar 3) (dOp2 ixD (dVar 5) (dCall f_law_tap (aCons (dVar 0) (aCons (dOpN lenD (aCons (dVar 5) aNil)) aNil)))))) sNext [some (.ref l), a1, a2, some (.ref f), a4, some (.tup (strsD ws))] S =
      .ok (.nx [some (.ref l), a1, a2, some (.ref f), a4, some (.tup (strsD ws))]) S' ∧ s ∈ ws ∧ S'[f]? = some (.lst (acc ++ [.str s])) ∧ K2 l f S S' ∧ CaskOk (N + 1) S' l := by
  obtain ⟨v, S1, e1, v0, v1, kp, c1⟩ := tap c (by omega) (span := (ws.length : Int)) (by omega) (by omega)
  obtain ⟨s, hs, ea⟩ := strs_at v0 v1
  have hS1 : S1[f]? = some (.lst acc) := kp.2 f hf _ hS
  have hl : f < S1.length := (List.getElem?_eq_some_iff.mp hS1).1
  refine ⟨s, S1.set f (.lst (acc ++ [.str s])), ?_, hs, by rw [List.getElem?_set_self hl], (K2.of kp).trans k2_set, cask_set c1 hf⟩
  have hlen : (strsD ws).length = ws.length := by simp [strsD]
  simp -implicitDefEqProofs [e_dAppend, app1_ok hS, lenD, hlen, e1, ixD, ea, app2_ok hS1 (show acc.length ≤ 1000 by omega)]
theorem body_any {N l f : Nat} {S : Sto} (c : CaskOk N S l) (hN : N ≤ 999980) (hf : f ≠ l) {acc : List D} (hS : S[f]? = some (.lst acc)) (ha : acc.length ≤ 100) (a1 a5 : Option D) {W : List D} {k : Nat} {ws : List Str} (hk : atI W (k : Int) = some (.tup (strsD ws))) (hw : 0 < ws.length) (hw2 : ws.length ≤ 100) :
    ∃ (s : Str) (S' : Sto) (o : Option D), bodyA [some (.ref l), a1, some (.tup W), some (.ref f), some (.int k), a5] S = .ok (.nx [some (.ref l), a1, some (.tup W), some (.ref f), some (.int k), o]) S' ∧ (s ∈ ws ∨ (k < 2 ∧ s = "any")) ∧ S'[f]? = some (.lst (acc ++ [.str s])) ∧ K2 l f S S' ∧ CaskOk (N + 2) S' l := by
  by_cases h2 : k < 2
  · obtain ⟨v, S1, e1, v0, v1, kp, c1⟩ := tap c (by omega) (span := 3) (by omega) (by omega)
    have hS1 : S1[f]? = some (.lst acc) := kp.2 f hf _ hS
    have hk2 : (k : Int) < 2 := by omega
    by_cases hv : v = 0
    · obtain ⟨s, S2, e2, hs, q1, q2, q3⟩ := turn_end c1 (by omega) hf hS1 ha a1 (some (.tup W)) (some (.int k)) (ws := [("any" : Str)]) (by decide) (by decide)
      refine ⟨s, S2, some (.tup (strsD [("any" : Str)])), ?_, .inr ⟨h2, by simpa using hs⟩, q1, (K2.of kp).trans q2, q3⟩
      have es : (D.tup [D.str "any"]) = .tup (strsD [("any" : Str)]) := rfl
      unfold bodyA
      simp -implicitDefEqProofs [-e_sDrop, ixD, hk, ltD, cmpI, hk2, e1, eqD, hv, sized_of]
      rw [es]
      simpa using e2
    · obtain ⟨s, S2, e2, hs, q1, q2, q3⟩ := turn_end c1 (by omega) hf hS1 ha a1 (some (.tup W)) (some (.int k)) hw hw2
      refine ⟨s, S2, some (.tup (strsD ws)), ?_, .inl hs, q1, (K2.of kp).trans q2, q3⟩
      unfold bodyA
      simp -implicitDefEqProofs [-e_sDrop, ixD, hk, ltD, cmpI, hk2, e1, eqD, hv, sized_of]
      simpa using e2
  · obtain ⟨s, S2, e2, hs, q1, q2, q3⟩ := turn_end c (by omega) hf hS ha a1 (some (.tup W)) (some (.int k)) hw hw2
    refine ⟨s, S2, some (.tup (strsD ws)), ?_, .inl hs, q1, q2, q3.mono (by omega)⟩
    have hk2 : ¬ ((k : Int) < 2) := by omega
    unfold bodyA
    simp -implicitDefEqProofs [-e_sDrop, ixD, hk, ltD, cmpI, hk2, sized_of]
    simpa using e2
end K50
namespace K50
open PySem L2 Tok
theorem len_act (d : Str) : 0 < (actS d).length ∧ (actS d).length ≤ 5 := by unfold actS; split; decide; split <;> decide
theorem len_keep (d : Str) : 0 < (keepS d).length ∧ (keepS d).length ≤ 5 := by unfold keepS; split; decide; split <;> decide
theorem len_roles' (d : Str) : 0 < (rolesS d).length ∧ (rolesS d).length ≤ 5 := by unfold rolesS; split; decide; split <;> decide
theorem len_rel' (d : Str) : 0 < (relS d).length ∧ (relS d).length ≤ 5 := by unfold relS; split <;> decide
theorem cask_pre1 {N l : Nat} {S : Sto} {o : SO} (c : CaskOk N S l) : CaskOk N (S ++ [o]) l := cask_pre c (List.prefix_append _ _)
theorem any_row {N l : Nat} {S : Sto} (c : CaskOk N S l) (hN : N ≤ 999900) : ∃ (x : D) (S' : Sto), f_law_any_row [.ref l] S = .ok x S' ∧ goodRow x ∧ Kp l S S' ∧ CaskOk (N + 9) S' l := by
  have hlS : l < S.length := by obtain ⟨a, b, c, e, _⟩ := c; exact (List.getElem?_eq_some_iff.mp e).1
  obtain ⟨v, S1, e1, v0, v1, kp, c1⟩ := tap c (by omega) (span := 4) (by omega) (by omega)
  obtain ⟨d, hd, ea⟩ := strs_at (ws := [("read" : Str), "read", "write", "hand"]) v0 (by simpa using v1)
  have hd' : d ∈ deedsS := by simp at hd; rcases hd with rfl | rfl | rfl <;> simp [deedsS]
  have bw := book_words hd'
  let W : List D := [.tup (strsD (rolesS d)), .tup (strsD (relS d)), .tup (strsD (actS d)), .tup (strsD (keepS d))]
  let f := S1.length
  let S2 := S1 ++ [SO.lst [.str d]]
  have hf : f ≠ l := by have := kp.1; show S1.length ≠ l; omega
  have hS2 : S2[f]? = some (.lst [.str d]) := by simp [S2, f]
  have c2 : CaskOk (N + 1) S2 l := cask_pre1 c1
  have kp2 : Kp l S1 S2 := kp_pre (List.prefix_append _ _)
  obtain ⟨s0, S3, o3, b0, m0, f3, k3, c3⟩ := body_any c2 (by omega) hf hS2 (by simp) (some (.str d)) none (W := W) (k := 0) (ws := rolesS d) (atI_0) (len_roles' d).1 (by have := (len_roles' d).2; omega)
  obtain ⟨s1, S4, o4, b1, m1, f4, k4, c4⟩ := body_any c3 (by omega) hf f3 (by simp) (some (.str d)) o3 (W := W) (k := 1) (ws := relS d) (atI_1) (len_rel' d).1 (by have := (len_rel' d).2; omega)
  obtain ⟨s2, S5, o5, b2, m2, f5, k5, c5⟩ := body_any c4 (by omega) hf f4 (by simp) (some (.str d)) o4 (W := W) (k := 2) (ws := actS d) (atI_2) (len_act d).1 (by have := (len_act d).2; omega)
  obtain ⟨s3, S6, o6, b3, m3, f6, k6, c6⟩ := body_any c5 (by omega) hf f5 (by simp) (some (.str d)) o5 (W := W) (k := 3) (ws := keepS d) (atI_3) (len_keep d).1 (by have := (len_keep d).2; omega)
  have hb : bookRow d s0 s1 s2 s3 = true := by
    have x0 : s0 ∈ rolesS d ++ [("any" : Str)] := by rcases m0 with h | h; exact List.mem_append_left _ h; simp [h.2]
    have x1 : s1 ∈ relS d ++ [("any" : Str)] := by rcases m1 with h | h; exact List.mem_append_left _ h; simp [h.2]
    have x2 : s2 ∈ actS d := by rcases m2 with h | h; exact h; omega
    have x3 : s3 ∈ keepS d := by rcases m3 with h | h; exact h; omega
    simp only [bookRow, hd', x0, x1, x2, x3, decide_true, Bool.and_true]
  refine ⟨row5 d s0 s1 s2 s3, S6, ?_, ⟨d, s0, s1, s2, s3, rfl, hb⟩, ?_, c6.mono (by omega)⟩
  · have hr : rngR [.int 4] S2 = .ok rng4L S2 := rfl
    have lp : loopD (tgName 4) bodyA rng4L [some (.ref l), some (.str d), some (.tup W), some (.ref f), none, none] S2 = .ok (.nx [some (.ref l), some (.str d), some (.tup W), some (.ref f), some (.int 3), o6]) S6 := by
      show loopD (tgName 4) bodyA [.int ((0 : Nat) : Int), .int ((1 : Nat) : Int), .int ((2 : Nat) : Int), .int ((3 : Nat) : Int)] _ _ = _
      rw [loop_cons, e_tgName, loopO_some]
      show loopK _ _ _ (bodyA [some (.ref l), some (.str d), some (.tup W), some (.ref f), some (.int ((0 : Nat) : Int)), none] S2) = _
      rw [b0, loopK_nx, loop_cons, e_tgName, loopO_some]
      show loopK _ _ _ (bodyA [some (.ref l), some (.str d), some (.tup W), some (.ref f), some (.int ((1 : Nat) : Int)), o3] S3) = _
      rw [b1, loopK_nx, loop_cons, e_tgName, loopO_some]
      show loopK _ _ _ (bodyA [some (.ref l), some (.str d), some (.tup W), some (.ref f), some (.int ((2 : Nat) : Int)), o4] S4) = _
      rw [b2, loopK_nx, loop_cons, e_tgName, loopO_some]
      show loopK _ _ _ (bodyA [some (.ref l), some (.str d), some (.tup W), some (.ref f), some (.int ((3 : Nat) : Int)), o5] S5) = _
      rw [b3, loopK_nx, loop_nil]
      rfl
    have ea' : atI [D.str "read", .str "read", .str "write", .str "hand"] v = some (.str d) := ea
    have tu : tupleD S6 [.ref f] = some (row5 d s0 s1 s2 s3) := by
      unfold tupleD
      dsimp only
      rw [f6]
      rfl
    have bw' : ∀ S, f_law_book_words [.str d] S = .ok (.tup W) S := bw
    have hS2e : S1 ++ [SO.lst [D.str d]] = S2 := rfl
    have hfe : S1.length = f := rfl
    clear_value W S2 f
    unfold bodyA at lp
    simp only [f_law_any_row, dFn_eq, start_eq]
    simp -implicitDefEqProofs [-loop_cons, -loop_nil, sized_of, e1, ixD, ea', bw', hfe, hS2e, hr, lp, tu]
  · refine ⟨?_, fun j hj o hjo => ?_⟩
    · have a1 := kp.1; have a2 := kp2.1; have a3 := k3.1; have a4 := k4.1; have a5 := k5.1; have a6 := k6.1; omega
    · have hjS : j < S.length := (List.getElem?_eq_some_iff.mp hjo).1
      have hjf : j ≠ f := by have := kp.1; show j ≠ S1.length; omega
      exact k6.2 j hj hjf o (k5.2 j hj hjf o (k4.2 j hj hjf o (k3.2 j hj hjf o (kp2.2 j hj o (kp.2 j hj o hjo)))))
end K50
namespace K50
open PySem L2 Tok
/-! ## a text is bent -/
def chain1 : DenS := (sIf (dTest (dOp2 eqD (dVar 4) (dC (.int 0)))) (sSeq (sAsg (dOp2 addD (dOp2 addD (dSl (dVar 5) oNone (oSome (dVar 6))) (dVar 7)) (dSl (dVar 5) (oSome (dVar 6)) oNone)) (tgName 5)) sNext) (sSeq (sIf (dTest (dOp2 eqD (dVar 4) (dC (.int 1)))) (sSeq (sAsg (dOp2 addD (dSl (dVar 5) oNone (oSome (dVar 6))) (dSl (dVar 5) (oSome (dOp2 addD (dVar 6) (dC (.int 1)))) oNone)) (tgName 5)) sNext) (sSeq (sIf (dTest (dOp2 eqD (dVar 4) (dC (.int 2)))) (sSeq (sAsg (dOp2 addD (dOp2 addD (dSl (dVar 5) oNone (oSome (dVar 6))) (dVar 7)) (dSl (dVar 5) (oSome (dOp2 addD (dVar 6) (dC (.int 1)))) oNone)) (tgName 5)) sNext) (sSeq (sIf (dTest (dOp2 eqD (dVar 4) (dC (.int 3)))) (sSeq (sAsg (dLst (aCons (dC (.str "")) (aCons (dC (.str "termed all")) (aCons (dC (.str "bare key")) (aCons (dC (.str "read any any wait nothing")) (aCons (dC (.str "termed")) (aCons (dC (.str "hand any any join raise")) aNil))))))) (tgName 8)) (sSeq (sAsg (dOp2 ixD (dVar 8) (dCall f_law_tap (aCons (dVar 0) (aCons (dC (.int 6)) aNil)))) (tgName 5)) sNext)) sNext) sNext)) sNext)) sNext))
def tail2 : DenS := (sSeq (sAsg (dOp2 addD (dOp2 addD (dSl (dVar 2) oNone (oSome (dVar 3))) (dLst (aCons (dVar 5) aNil))) (dSl (dVar 2) (oSome (dOp2 addD (dVar 3) (dC (.int 1)))) oNone)) (tgName 9)) (sSeq (sIf (dTest (dOp2 eqD (dVar 4) (dC (.int 4)))) (sSeq (sAsg (dOp2 addD (dSl (dVar 2) oNone (oSome (dVar 3))) (dSl (dVar 2) (oSome (dOp2 addD (dVar 3) (dC (.int 1)))) oNone)) (tgName 9)) sNext) (sSeq (sIf (dTest (dOp2 eqD (dVar 4) (dC (.int 5)))) (sSeq (sAsg (dOp2 addD (dOp2 addD (dSl (dVar 2) oNone (oSome (dOp2 addD (dVar 3) (dC (.int 1))))) (dLst (aCons (dVar 5) aNil))) (dSl (dVar 2) (oSome (dOp2 addD (dVar 3) (dC (.int 1)))) oNone)) (tgName 9)) sNext) (sSeq (sIf (dTest (dOp2 eqD (dVar 4) (dC (.int 6)))) (sSeq (sAsg (dOp2 addD (dVar 2) (dLst (aCons (dC (.str "")) aNil))) (tgName 9)) sNext) (sSeq (sIf (dTest (dOp2 eqD (dVar 4) (dC (.int 7)))) (sSeq (sAsg (dOp2 addD (dVar 2) (dLc (iRange1 (aCons (dOp2 subD (dC (.int 41)) (dOpN minD (aCons (dC (.int 40)) (aCons (dOpN lenD (aCons (dVar 2) aNil)) aNil)))) aNil)) (tgName 10) tYesD (dCall f_law_row_line (aCons (dCall f_law_any_row (aCons (dVar 0) aNil)) aNil)) [10])) (tgName 9)) sNext) sNext) sNext)) sNext)) sNext)) (sSeq (sRet (dStrM joinD (dC (.str "\n")) (aCons (dVar 9) aNil))) sNext)))
theorem cut_to {α : Type} {xs : List α} {k : Nat} : cutL xs none (some (k : Int)) = xs.take k := by
  unfold cutL
  simp only [HT.sIx]
  rw [if_neg (by omega)]
  have e : min ((k : Int)).toNat xs.length = min k xs.length := by omega
  rw [e, List.drop_zero, Nat.sub_zero, List.take_eq_take_iff]
  omega
theorem cut_from {α : Type} {xs : List α} {k : Nat} : cutL xs (some (k : Int)) none = xs.drop k := by
  unfold cutL
  simp only [HT.sIx]
  rw [if_neg (by omega)]
  by_cases h : k ≤ xs.length
  · have e : min ((k : Int)).toNat xs.length = k := by omega
    rw [e, List.take_of_length_le (by simp)]
  · have e : min ((k : Int)).toNat xs.length = xs.length := by omega
    rw [e]
    simp
    omega
theorem cutS_len (z : Str) (lo hi : Option Int) : (cutS z lo hi).length ≤ z.length := by
  unfold cutS Str.length
  simp
  omega
theorem sl_str {z : Str} (h : z.length ≤ 1000000) (lo hi : Option Int) : slD (.str z) lo hi = some (.str (cutS z lo hi)) := by
  unfold slD
  dsimp only
  rw [if_pos (Nat.le_trans h (by decide))]
theorem add_str {S : Sto} {a b : Str} (h : a.length + b.length ≤ 1000000) : addD S (.str a) (.str b) = some (.str (a ++ b)) := by
  unfold addD
  dsimp only
  rw [if_pos (Nat.le_trans h (by decide))]
theorem add_lst {S : Sto} {a b : List D} (h : a.length + b.length ≤ 1000000) : addD S (.lst a) (.lst b) = some (.lst (a ++ b)) := by
  unfold addD
  dsimp only
  rw [if_pos (Nat.le_trans h (by decide))]
theorem chain1_ok {N l : Nat} {S : Sto} (c : CaskOk N S l) (hN : N ≤ 999000) (a1 a2 a3 : Option D) {w : Int} (w0 : 0 ≤ w) (w1 : w < 8) {line sg : Str} {j : Int} (hj : 0 ≤ j) (hl : line.length ≤ 200000) (hs : sg.length = 1) :
    ∃ (line' : Str) (o8 : Option D) (S' : Sto), chain1 [some (.ref l), a1, a2, a3, some (.int w), some (.str line), some (.int j), some (.str sg), none, none, none] S = .ok (.nx [some (.ref l), a1, a2, a3, some (.int w), some (.str line'), some (.int j), some (.str sg), o8, none, none]) S' ∧
      line'.length ≤ 2 * line.length + 30 ∧ Kp l S S' ∧ CaskOk (N + 1) S' l := by
  have hl' : line.length ≤ 1000000 := by omega
  by_cases h3 : w = 3
  · subst h3
    obtain ⟨v, S1, e1, v0, v1, kp, c1⟩ := tap c (by omega) (span := 6) (by omega) (by omega)
    obtain ⟨s, hs6, ea⟩ := strs_at (ws := [("" : Str), "termed all", "bare key", "read any any wait nothing", "termed", "hand any any join raise"]) v0 (by simpa using v1)
    have hlen : s.length ≤ 30 := (show ∀ s ∈ [("" : Str), "termed all", "bare key", "read any any wait nothing", "termed", "hand any any join raise"], s.length ≤ 30 by decide +kernel) s hs6
    refine ⟨s, some (.lst (strsD [("" : Str), "termed all", "bare key", "read any any wait nothing", "termed", "hand any any join raise"])), S1, ?_, by omega, kp, c1⟩
    unfold strsD at ea ⊢
    simp only [List.map_cons, List.map_nil] at ea
    simp -implicitDefEqProofs [chain1, eqD, sized_of, e1, ixD, ea]
  · have c' := c.mono (Nat.le_succ N)
    by_cases h0 : w = 0
    · subst h0
      have q1 := cutS_len line none (some j)
      have q2 := cutS_len line (some j) none
      refine ⟨cutS line none (some j) ++ sg ++ cutS line (some j) none, none, S, ?_, by rw [Str.length_append, Str.length_append]; omega, Kp.refl _ _, c'⟩
      simp -implicitDefEqProofs [chain1, eqD, sl_str hl', add_str (show (cutS line none (some j)).length + sg.length ≤ 1000000 by omega), add_str (show (cutS line none (some j) ++ sg).length + (cutS line (some j) none).length ≤ 1000000 by rw [Str.length_append]; omega)]
    · by_cases h1 : w = 1
      · subst h1
        have q1 := cutS_len line none (some j)
        have q2 := cutS_len line (some (j + 1)) none
        refine ⟨cutS line none (some j) ++ cutS line (some (j + 1)) none, none, S, ?_, by rw [Str.length_append]; omega, Kp.refl _ _, c'⟩
        have ej : addD S (.int j) (.int 1) = some (.int (j + 1)) := rfl
        simp -implicitDefEqProofs [chain1, eqD, sl_str hl', ej, add_str (show (cutS line none (some j)).length + (cutS line (some (j + 1)) none).length ≤ 1000000 by omega)]
      · by_cases h2 : w = 2
        · subst h2
          have q1 := cutS_len line none (some j)
          have q2 := cutS_len line (some (j + 1)) none
          refine ⟨cutS line none (some j) ++ sg ++ cutS line (some (j + 1)) none, none, S, ?_, by rw [Str.length_append, Str.length_append]; omega, Kp.refl _ _, c'⟩
          have ej : addD S (.int j) (.int 1) = some (.int (j + 1)) := rfl
          simp -implicitDefEqProofs [chain1, eqD, sl_str hl', ej, add_str (show (cutS line none (some j)).length + sg.length ≤ 1000000 by omega), add_str (show (cutS line none (some j) ++ sg).length + (cutS line (some (j + 1)) none).length ≤ 1000000 by rw [Str.length_append]; omega)]
        · refine ⟨line, none, S, ?_, by omega, Kp.refl _ _, c'⟩
          simp -implicitDefEqProofs [chain1, eqD, h0, h1, h2, h3]
end K50
namespace K50
open PySem L2 Tok
def wt (xs : List Str) : Nat := (xs.map (·.length)).sum + xs.length
theorem wt_app (a b : List Str) : wt (a ++ b) = wt a + wt b := by simp [wt]; omega
theorem wt_one (s : Str) : wt [s] = s.length + 1 := by simp [wt]
theorem wt_cut (ls : List Str) (k : Nat) : wt (ls.take k) + wt (ls.drop k) = wt ls := by
  rw [← wt_app, List.take_append_drop]
theorem wt_drop1 (ls : List Str) (k : Nat) : wt (ls.drop (k + 1)) ≤ wt (ls.drop k) := by
  have h := wt_cut (ls.drop k) 1
  rw [List.drop_drop] at h
  have e : 1 + k = k + 1 := by omega
  first
    | (rw [e] at h; omega)
    | omega
theorem wt_len (ls : List Str) : ls.length ≤ wt ls := by unfold wt; omega
theorem wt_map {ys : List Str} {B : Nat} (h : ∀ y ∈ ys, y.length ≤ B) : wt ys ≤ ys.length * (B + 1) := by
  have := StrLaws.sumLen_le ys h
  unfold wt
  rw [Nat.mul_succ]
  omega
theorem join_wt {new : List Str} (h : wt new ≤ 1000000) : joinD "\n" [.lst (strsD new)] = some (.str (Txt.join nl new)) ∧ (Txt.join nl new).length ≤ wt new := by
  refine ⟨join_strs nl_len (ys := new) h, ?_⟩
  have j := StrLaws.join_length_le nl new
  rw [nl_len] at j
  have e : Txt.join nl new = Str.join nl new := StrLaws.glued_eq_join _ _
  rw [e]
  unfold wt
  omega
def teLine : Den := dCall f_law_row_line (aCons (dCall f_law_any_row (aCons (dVar 0) aNil)) aNil)
theorem lc_lines {l : Nat} (a1 a2 a3 a4 a5 a6 a7 a8 a9 : Option D) : ∀ (ds : List D) (N : Nat) (S : Sto), CaskOk N S l → N + 9 * ds.length ≤ 999000 →
    ∃ (ys : List Str) (S' : Sto), lcD (tgName 10) tYesD teLine ds [some (.ref l), a1, a2, a3, a4, a5, a6, a7, a8, a9, none] S = .ok (strsD ys) S' ∧ ys.length = ds.length ∧ (∀ y ∈ ys, y.length ≤ 100) ∧ Kp l S S' ∧ CaskOk (N + 9 * ds.length) S' l
  | [], N, S, c, _ => ⟨[], S, rfl, rfl, fun y h => (nomatch h), Kp.refl _ _, c⟩
  | d :: ds, N, S, c, hN => by
    obtain ⟨x, S1, e1, hx, k1, c1⟩ := any_row c (by simp at hN; omega)
    obtain ⟨ys, S2, e2, hl, hs, k2, c2⟩ := lc_lines a1 a2 a3 a4 a5 a6 a7 a8 a9 ds (N + 9) S1 c1 (by simp at hN; omega)
    refine ⟨lineS x :: ys, S2, ?_, by simp [hl], ?_, k1.trans k2, c2.mono (by simp; omega)⟩
    · have et : teLine ([some (.ref l), a1, a2, a3, a4, a5, a6, a7, a8, a9, none].set 10 (some d)) S = .ok (.str (lineS x)) S1 := by
        unfold teLine
        simp -implicitDefEqProofs [e1, law_row_line hx]
      rw [lcD_cons, e_tgName, lcOne_some, e_tYesD, bindN_ok, if_pos rfl, et, bindN_ok, e2]
      rfl
    · intro y hy
      rcases List.mem_cons.mp hy with rfl | hy
      · exact line_short hx
      · exact hs y hy
theorem tail2_ok {N l : Nat} {S : Sto} (c : CaskOk N S l) (hN : N ≤ 990000) (a1 a6 a7 a8 : Option D) {w : Int} (w0 : 0 ≤ w) (w1 : w < 8) {ls : List Str} {k : Nat} {line : Str} (hl : line.length ≤ 400030) (hls : wt ls ≤ 200001) :
    ∃ (t' : Str) (S' : Sto), tail2 [some (.ref l), a1, some (.lst (strsD ls)), some (.int k), some (.int w), some (.str line), a6, a7, a8, none, none] S = .ok (.rt (.str t')) S' ∧ t'.length ≤ wt ls + line.length + 5000 ∧ Kp l S S' ∧ CaskOk (N + 400) S' l := by
  have c' : CaskOk (N + 400) S l := c.mono (by omega)
  have hk1 : addD S (.int (k : Int)) (.int 1) = some (.int ((k + 1 : Nat) : Int)) := by simp [addD]
  have sl1 : slD (.lst (strsD ls)) none (some (k : Int)) = some (.lst (strsD (ls.take k))) := by unfold slD strsD; simp only [cut_to, List.map_take]
  have sl2 : slD (.lst (strsD ls)) (some ((k + 1 : Nat) : Int)) none = some (.lst (strsD (ls.drop (k + 1)))) := by unfold slD strsD; simp only [cut_from, List.map_drop]
  have sl3 : slD (.lst (strsD ls)) none (some ((k + 1 : Nat) : Int)) = some (.lst (strsD (ls.take (k + 1)))) := by unfold slD strsD; simp only [cut_to, List.map_take]
  have ck : ((k + 1 : Nat) : Int) = (k : Int) + 1 := by omega
  rw [ck] at hk1 sl2 sl3
  have w2 := wt_cut ls k
  have w3 := wt_drop1 ls k
  have w4 := wt_cut ls (k + 1)
  have apd : ∀ (S : Sto) (a b : List Str), wt a + wt b ≤ 1000000 → addD S (.lst (strsD a)) (.lst (strsD b)) = some (.lst (strsD (a ++ b))) := fun S a b h => by
    have h1 := wt_len a
    have h2 := wt_len b
    rw [add_lst (by simp [strsD]; omega)]
    simp [strsD]
  have one : ∀ s : Str, D.lst [.str s] = .lst (strsD [s]) := fun s => rfl
  have d1 := apd S (ls.take k) [line] (by rw [wt_one]; omega)
  have d2 := apd S (ls.take k ++ [line]) (ls.drop (k + 1)) (by rw [wt_app, wt_one]; omega)
  have d3 := apd S (ls.take k) (ls.drop (k + 1)) (by omega)
  have d4 := apd S (ls.take (k + 1)) [line] (by rw [wt_one]; omega)
  have d5 := apd S (ls.take (k + 1) ++ [line]) (ls.drop (k + 1)) (by rw [wt_app, wt_one]; omega)
  have d6 := apd S ls [""] (by rw [wt_one]; have : ("" : Str).length = 0 := rfl; omega)
  rw [← one] at d1 d4 d6
  by_cases h7 : w = 7
  · subst h7
    obtain ⟨n, mm, hmn, hsb, hn41⟩ : ∃ (n : Nat) (mm : Int), (∀ S, minD S [.int 40, .int (ls.length : Int)] = some (.int mm)) ∧ (∀ S, subD S (.int 41) (.int mm) = some (.int (n : Int))) ∧ n ≤ 41 := by
      by_cases h : (ls.length : Int) < 40
      · refine ⟨41 - ls.length, ls.length, fun S => by simp [minD, h], fun S => ?_, by omega⟩
        have e : (41 : Int) - (ls.length : Int) = ((41 - ls.length : Nat) : Int) := by omega
        simp only [subD, e]
      · exact ⟨1, 40, fun S => by simp [minD, h], fun S => rfl, by omega⟩
    obtain ⟨ys, S1, e1, hyl, hys, kp, c1⟩ := lc_lines a1 (some (.lst (strsD ls))) (some (.int k)) (some (.int 7)) (some (.str line)) a6 a7 a8 (some (.lst (strsD (ls.take k ++ [line] ++ ls.drop (k + 1))))) (rngD 0 n) N S c (by rw [rng_len]; omega)
    rw [rng_len] at hyl c1
    have wy := wt_map hys
    have wy2 : wt ys ≤ 4141 := by
      have : ys.length * (100 + 1) ≤ 41 * 101 := Nat.mul_le_mul (by omega) (by omega)
      omega
    have d7 := apd S1 ls ys (by omega)
    obtain ⟨j1, j2⟩ := join_wt (new := ls ++ ys) (by rw [wt_app]; omega)
    refine ⟨Txt.join nl (ls ++ ys), S1, ?_, by rw [wt_app] at j2; omega, kp, c1.mono (by omega)⟩
    have hr : rngR [.int (n : Int)] S = .ok (rngD 0 n) S := rngR_nat (by omega)
    have hz : n ≤ sizeLine := small (by omega)
    have hlen : (strsD ls).length = ls.length := by simp [strsD]
    unfold teLine at e1
    simp -implicitDefEqProofs [-List.append_assoc, -lcD_cons, -lcD_nil, tail2, eqD, sl1, sl2, sl3, hk1, d1, d2, d3, d4, d5, d6, sized_of, lenD, hlen, hmn, hsb, hr, rng_len, hz, e_dLc, wipeD, e1, d7, j1]
  · by_cases h4 : w = 4
    · subst h4
      obtain ⟨j1, j2⟩ := join_wt (new := ls.take k ++ ls.drop (k + 1)) (by rw [wt_app]; omega)
      refine ⟨Txt.join nl (ls.take k ++ ls.drop (k + 1)), S, ?_, by rw [wt_app] at j2; omega, Kp.refl _ _, c'⟩
      simp -implicitDefEqProofs [tail2, eqD, sl1, sl2, sl3, hk1, d1, d2, d3, d4, d5, d6, sized_of, j1]
    · by_cases h5 : w = 5
      · subst h5
        obtain ⟨j1, j2⟩ := join_wt (new := ls.take (k + 1) ++ [line] ++ ls.drop (k + 1)) (by rw [wt_app, wt_app, wt_one]; omega)
        refine ⟨Txt.join nl (ls.take (k + 1) ++ [line] ++ ls.drop (k + 1)), S, ?_, by rw [wt_app, wt_app, wt_one] at j2; omega, Kp.refl _ _, c'⟩
        simp -implicitDefEqProofs [-List.append_assoc, tail2, eqD, sl1, sl2, sl3, hk1, d1, d2, d3, d4, d5, d6, sized_of, j1]
      · by_cases h6 : w = 6
        · subst h6
          have e0 : ("" : Str).length = 0 := rfl
          obtain ⟨j1, j2⟩ := join_wt (new := ls ++ [("" : Str)]) (by rw [wt_app, wt_one]; omega)
          refine ⟨Txt.join nl (ls ++ [("" : Str)]), S, ?_, by rw [wt_app, wt_one] at j2; omega, Kp.refl _ _, c'⟩
          simp -implicitDefEqProofs [-List.append_assoc, tail2, eqD, sl1, sl2, sl3, hk1, d1, d2, d3, d4, d5, d6, sized_of, j1]
        · obtain ⟨j1, j2⟩ := join_wt (new := ls.take k ++ [line] ++ ls.drop (k + 1)) (by rw [wt_app, wt_app, wt_one]; omega)
          refine ⟨Txt.join nl (ls.take k ++ [line] ++ ls.drop (k + 1)), S, ?_, by rw [wt_app, wt_app, wt_one] at j2; omega, Kp.refl _ _, c'⟩
          simp -implicitDefEqProofs [-List.append_assoc, tail2, eqD, sl1, sl2, sl3, hk1, d1, d2, d3, d4, d5, d6, sized_of, h4, h5, h6, h7, j1]
end K50
namespace K50
open PySem L2 Tok
theorem bent {N l : Nat} {S : Sto} (c : CaskOk N S l) (hN : N ≤ 980000) {t : Str} (ht : t.length ≤ 200000) :
    ∃ (t' : Str) (S' : Sto), f_law_bent_text [.ref l, .str t] S = .ok (.str t') S' ∧ t'.length ≤ 3 * t.length + 5100 ∧ Kp l S S' ∧ CaskOk (N + 410) S' l := by
  have es : splitD t [.str "\n"] = some (.lst (strsD (Txt.split t nl))) := split_ok nl_len (by omega)
  have hpos := PyProof.Rows.split_pos t nl
  have hw : wt (Txt.split t nl) ≤ t.length + 1 := PyProof.Rows.split_weight t nl (by rw [nl_len]; exact Nat.le_refl 1)
  have hshort : ∀ s ∈ Txt.split t nl, s.length ≤ t.length := fun s hs => PyProof.Rows.part_short hs
  have hle := wt_len (Txt.split t nl)
  generalize Txt.split t nl = ls at *
  obtain ⟨k, S1, e1, k0, k1, kp1, c1⟩ := tap c (by omega) (span := (ls.length : Int)) (by omega) (by omega)
  obtain ⟨w, S2, e2, w0, w1, kp2, c2⟩ := tap c1 (by omega) (span := 8) (by omega) (by omega)
  obtain ⟨kn, rfl⟩ := Int.eq_ofNat_of_zero_le k0
  obtain ⟨line, hline, ea⟩ := strs_at (ws := ls) k0 k1
  have hll := hshort _ hline
  obtain ⟨j, S3, e3, j0, j1, kp3, c3⟩ := tap c2 (by omega) (span := (line.length : Int) + 1) (by omega) (by omega)
  obtain ⟨v, S4, e4, v0, v1, kp4, c4⟩ := tap c3 (by omega) (span := 8) (by omega) (by omega)
  obtain ⟨sg, hsg, es4⟩ := strs_at (ws := [(" " : Str), "-", "a", "x", "0", "\t", "A", ","]) v0 (by simpa using v1)
  have hs1 : sg.length = 1 := (show ∀ s ∈ [(" " : Str), "-", "a", "x", "0", "\t", "A", ","], s.length = 1 by decide +kernel) sg hsg
  have es4' : atI [D.str " ", .str "-", .str "a", .str "x", .str "0", .str "\t", .str "A", .str ","] v = some (.str sg) := es4
  obtain ⟨line', o8, S5, e5, hl', kp5, c5⟩ := chain1_ok c4 (by omega) (some (.str t)) (some (.lst (strsD ls))) (some (.int (kn : Int))) w0 w1 (line := line) (sg := sg) j0 (by omega) hs1
  obtain ⟨t', S6, e6, ht', kp6, c6⟩ := tail2_ok c5 (by omega) (some (.str t)) (some (.int j)) (some (.str sg)) o8 w0 w1 (ls := ls) (k := kn) (line := line') (by omega) (by omega)
  refine ⟨t', S6, ?_, by omega, kp1.trans (kp2.trans (kp3.trans (kp4.trans (kp5.trans kp6)))), c6.mono (by omega)⟩
  have hlen : (strsD ls).length = ls.length := by simp [strsD]
  have hz : line.length ≤ sizeLine := Nat.le_trans (show line.length ≤ 1000000 by omega) (by decide)
  have hj : ∀ S, addD S (.int (line.length : Int)) (.int 1) = some (.int ((line.length : Int) + 1)) := fun S => rfl
  have hf : f_law_bent_text = dFn 11 (sSeq (sAsg (dStrM splitD (dVar 1) (aCons (dC (.str "\n")) aNil)) (tgName 2)) (sSeq (sPar 3 4 (aCons (dCall f_law_tap (aCons (dVar 0) (aCons (dOpN lenD (aCons (dVar 2) aNil)) aNil))) (aCons (dCall f_law_tap (aCons (dVar 0) (aCons (dC (.int 8)) aNil))) aNil))) (sSeq (sAsg (dOp2 ixD (dVar 2) (dVar 3)) (tgName 5)) (sSeq (sAsg (dCall f_law_tap (aCons (dVar 0) (aCons (dOp2 addD (dOpN lenD (aCons (dVar 5) aNil)) (dC (.int 1))) aNil))) (tgName 6)) (sSeq (sAsg (dOp2 ixD (dLst (aCons (dC (.str " ")) (aCons (dC (.str "-")) (aCons (dC (.str "a")) (aCons (dC (.str "x")) (aCons (dC (.str "0")) (aCons (dC (.str "\t")) (aCons (dC (.str "A")) (aCons (dC (.str ",")) aNil))))))))) (dCall f_law_tap (aCons (dVar 0) (aCons (dC (.int 8)) aNil)))) (tgName 7)) (sSeq chain1 tail2)))))) := rfl
  rw [hf]
  simp only [dFn_eq, start_eq]
  simp -implicitDefEqProofs [es, lenD, hlen, e1, e2, ixD, ea, hz, hj, e3, sized_of, e4, es4', e5, e6]
end K50
namespace K50
open PySem L2 Tok
/-! ## cases -/
structure Case where
  d : Str
  r : Str
  x : Str
  deriving DecidableEq
def Case.t (c : Case) : D := .tup [.str c.d, .str c.r, .str c.x]
def casesL : List Case := ([("read", "leads"), ("read", "follows"), ("write", "leads"), ("hand", "any")] : List (Str × Str)).flatMap fun (p : Str × Str) => (relS p.1).map fun x => ⟨p.1, p.2, x⟩
def casesD : List D := casesL.map Case.t
theorem cases_ok (S : Sto) : f_cases [] S = .ok (.lst casesD) S := by rfl
theorem law_cases_ok (S : Sto) : f_law_cases [] S = .ok (.lst casesD) S := by rfl
end K50
namespace K50
open PySem L2 Tok
/-! ## what is told for a case -/
def isFor (row : D) (c : Case) : Bool := match row with
  | .tup [.str d, .str r, .str l, .str _, .str _] => decide (d = c.d) && (decide (r ∈ [c.r, ("any" : Str)]) && decide (l ∈ [c.x, ("any" : Str)]))
  | _ => false
def told : List D → Case → Str × Str
  | [], _ => ("wait", "nothing")
  | row :: rest, c => if isFor row c = true then (match row with
    | .tup [.str _, .str _, .str _, .str a, .str k] => (a, k)
    | _ => ("wait", "nothing")) else told rest c
def toldD (p : Str × Str) : D := .tup [.str p.1, .str p.2]
/-- a row of five words -/
def is5 (x : D) : Prop := ∃ d r l a k, x = row5 d r l a k
theorem good5 {x : D} (h : goodRow x) : is5 x := by obtain ⟨d, r, l, a, k, e, _⟩ := h; exact ⟨d, r, l, a, k, e⟩
theorem in_two (a b s : Str) (S : Sto) : inB S (.str s) (.tup [.str a, .str b]) = some (decide (s ∈ [a, b])) := in_strs [a, b] s S
theorem is_for {x : D} (h : is5 x) (c : Case) (S : Sto) : f_is_for [x, c.t] S = .ok (.bl (isFor x c)) S := by
  obtain ⟨d, r, l, a, k, rfl⟩ := h
  by_cases h1 : d = c.d <;> by_cases h2 : r ∈ [c.r, ("any" : Str)] <;> simp only [f_is_for, dFn_eq, start_eq, row5, Case.t] <;>
    simp -implicitDefEqProofs [-List.mem_cons, ixD, atI_0, atI_1, atI_2, eqD, sized_of, inD, in_two, c_ANY, isFor, h1, h2]
def bodyT : DenS := sSeq (sIf (dTest (dCall f_is_for (aCons (dVar 2) (aCons (dVar 1) aNil)))) (sSeq (sRet (dTup (aCons (dOp2 ixD (dVar 2) (dC (.int 3))) (aCons (dOp2 ixD (dVar 2) (dC (.int 4))) aNil)))) sNext) sNext) sNext
theorem told_loop (a0 : Option D) (c : Case) (S : Sto) : ∀ (rows : List D) (o : Option D), (∀ x ∈ rows, is5 x) →
    fin (andThen (loopD (tgName 2) bodyT rows [a0, some c.t, o] S) (sSeq (sRet (dTup (aCons (dC c_WAIT) (aCons (dC c_NOTHING) aNil)))) sNext)) = .ok (toldD (told rows c)) S
  | [], o, _ => by simp -implicitDefEqProofs [sized_of, c_WAIT, c_NOTHING, toldD, told]
  | x :: xs, o, h => by
    have ih := told_loop a0 c S xs (some x) fun y hy => h y (List.mem_cons_of_mem _ hy)
    have hx := h x List.mem_cons_self
    have e := is_for hx c S
    obtain ⟨d, r, l, a, k, rfl⟩ := hx
    cases q : isFor (row5 d r l a k) c with
    | true =>
      rw [q] at e
      unfold row5 at e q
      unfold told
      simp -implicitDefEqProofs [bodyT, e, q, row5, ixD, atI_3, atI_4, sized_of, toldD]
    | false =>
      rw [q] at e
      unfold told
      rw [q, if_neg Bool.false_ne_true, ← ih]
      rw [loop_cons, e_tgName, loopO_some]
      have eb : bodyT [a0, some c.t, some (row5 d r l a k)] S = .ok (.nx [a0, some c.t, some (row5 d r l a k)]) S := by
        simp -implicitDefEqProofs [bodyT, e]
      show fin (andThen (loopK (tgName 2) bodyT xs (bodyT [a0, some c.t, some (row5 d r l a k)] S)) _) = _
      rw [eb, loopK_nx]
theorem told_for {rows : List D} (h : ∀ x ∈ rows, is5 x) (c : Case) (S : Sto) : f_told_for [.tup rows, c.t] S = .ok (toldD (told rows c)) S := by
  have e := told_loop (some (.tup rows)) c S rows none h
  unfold bodyT at e
  simp only [f_told_for, dFn_eq, start_eq]
  simpa -implicitDefEqProofs [-loop_cons, -loop_nil] using e
def bodyL : DenS := sSeq (sIf (dAndT (dTest (dOp2 eqD (dOp2 ixD (dVar 2) (dC (.int 0))) (dOp2 ixD (dVar 1) (dC (.int 0))))) (dAndT (dTest (dOp2 inD (dOp2 ixD (dVar 2) (dC (.int 1))) (dTup (aCons (dOp2 ixD (dVar 1) (dC (.int 1))) (aCons (dC (.str "any")) aNil))))) (dTest (dOp2 inD (dOp2 ixD (dVar 2) (dC (.int 2))) (dTup (aCons (dOp2 ixD (dVar 1) (dC (.int 2))) (aCons (dC (.str "any")) aNil))))))) (sSeq (sRet (dTup (aCons (dOp2 ixD (dVar 2) (dC (.int 3))) (aCons (dOp2 ixD (dVar 2) (dC (.int 4))) aNil)))) sNext) sNext) sNext
theorem law_told_loop (a0 : Option D) (c : Case) (S : Sto) : ∀ (rows : List D) (o : Option D), (∀ x ∈ rows, is5 x) →
    fin (andThen (loopD (tgName 2) bodyL rows [a0, some c.t, o] S) (sSeq (sRet (dTup (aCons (dC (.str "wait")) (aCons (dC (.str "nothing")) aNil)))) sNext)) = .ok (toldD (told rows c)) S
  | [], o, _ => by simp -implicitDefEqProofs [sized_of, toldD, told]
  | x :: xs, o, h => by
    have ih := law_told_loop a0 c S xs (some x) fun y hy => h y (List.mem_cons_of_mem _ hy)
    obtain ⟨d, r, l, a, k, rfl⟩ := h x List.mem_cons_self
    have eb : bodyL [a0, some c.t, some (row5 d r l a k)] S = if isFor (row5 d r l a k) c = true then .ok (.rt (.tup [.str a, .str k])) S else .ok (.nx [a0, some c.t, some (row5 d r l a k)]) S := by
      by_cases h1 : d = c.d <;> by_cases h2 : r ∈ [c.r, ("any" : Str)] <;> by_cases h3 : l ∈ [c.x, ("any" : Str)] <;>
        simp -implicitDefEqProofs [-List.mem_cons, bodyL, row5, Case.t, ixD, atI_0, atI_1, atI_2, atI_3, atI_4, eqD, sized_of, inD, in_two, isFor, h1, h2, h3]
    rw [loop_cons, e_tgName, loopO_some]
    show fin (andThen (loopK (tgName 2) bodyL xs (bodyL [a0, some c.t, some (row5 d r l a k)] S)) _) = _
    rw [eb]
    unfold told
    cases q : isFor (row5 d r l a k) c with
    | true => simp -implicitDefEqProofs [row5, toldD]
    | false => rw [if_neg Bool.false_ne_true, if_neg Bool.false_ne_true, loopK_nx, ih]
theorem law_told {rows : List D} (h : ∀ x ∈ rows, is5 x) (c : Case) (S : Sto) : f_law_told [.lst rows, c.t] S = .ok (toldD (told rows c)) S := by
  have e := law_told_loop (some (.lst rows)) c S rows none h
  unfold bodyL at e
  simp only [f_law_told, dFn_eq, start_eq]
  simpa -implicitDefEqProofs [-loop_cons, -loop_nil] using e
end K50
namespace K50
open PySem L2 Tok
/-! ## books made of books -/
theorem in_form {S : Sto} {l : Nat} {m c m' c' : Str} {rows : List D} (h : S[l]? = some (.ins 5 (bookFs m c rows))) (h1 : m' ∈ formsS) (h2 : c' ∈ scopesS) (hl : rows.length ≤ 40) (hr : ∀ x ∈ rows, goodRow x) :
    M_Book_in_form [.ref l, .str m', .str c'] S = .ok (.ref S.length) (S ++ [.ins 5 (bookFs m' c' rows)]) := by
  have i := ins_at h
  have mb := make_book h1 h2 hl hr S
  simp only [M_Book_in_form, dFn_eq, start_eq]
  simp -implicitDefEqProofs [fldD, i, f_rows, listD, mb]
def mk5 (o : Case) (p : Str × Str) : D := row5 o.d o.r o.x p.1 p.2
def wn : Str × Str := ("wait", "nothing")
def wcRows (rows : List D) (a : Case) : List D := casesL.map fun o => mk5 o (if o = a then wn else told rows o)
theorem case_eq : ∀ o ∈ casesL, ∀ a ∈ casesL, eqB o.t a.t = some (decide (o = a)) := by decide +kernel
theorem case_for : ∀ o ∈ casesL, ∀ a ∈ casesL, isFor (mk5 a wn) o = decide (o = a) := by decide +kernel
theorem case_wn : ∀ o ∈ casesL, bookRow o.d o.r o.x "wait" "nothing" = true := by decide +kernel
theorem cases_len : casesL.length = 20 := by decide +kernel
theorem told_good {rows : List D} (hr : ∀ x ∈ rows, goodRow x) {o : Case} (ho : o ∈ casesL) : goodRow (mk5 o (told rows o)) := by
  induction rows with
  | nil => exact ⟨_, _, _, _, _, rfl, case_wn o ho⟩
  | cons x xs ih =>
    unfold told
    by_cases q : isFor x o = true
    · rw [if_pos q]
      obtain ⟨d, r, l, a, k, rfl, hb⟩ := hr x List.mem_cons_self
      have hd : d = o.d := by
        unfold isFor row5 at q
        simp only [Bool.and_eq_true, decide_eq_true_eq] at q
        exact q.1
      subst hd
      have hw := case_wn o ho
      unfold bookRow at hb hw
      simp only [Bool.and_eq_true, decide_eq_true_eq] at hb hw
      refine ⟨_, _, _, _, _, rfl, ?_⟩
      unfold bookRow
      simp only [Bool.and_eq_true, decide_eq_true_eq]
      exact ⟨hb.1, hw.2.1, hw.2.2.1, hb.2.2.2.1, hb.2.2.2.2⟩
    · rw [if_neg q]
      exact ih fun y hy => hr y (List.mem_cons_of_mem _ hy)
theorem wc_good {rows : List D} (hr : ∀ x ∈ rows, goodRow x) (a : Case) : ∀ x ∈ wcRows rows a, goodRow x := fun x hx => by
  obtain ⟨o, ho, rfl⟩ := List.mem_map.mp hx
  split
  · exact ⟨_, _, _, _, _, rfl, case_wn o ho⟩
  · exact told_good hr ho
theorem wc_len (rows : List D) (a : Case) : (wcRows rows a).length = 20 := by simp [wcRows, cases_len]
theorem told_first {rows : List D} {a o : Case} (ha : a ∈ casesL) (ho : o ∈ casesL) : told (mk5 a wn :: rows) o = if o = a then wn else told rows o := by
  have e : told (mk5 a wn :: rows) o = if isFor (mk5 a wn) o = true then wn else told rows o := rfl
  rw [e, case_for o ho a ha]
  by_cases h : o = a
  · rw [if_pos (decide_eq_true h), if_pos h]
  · rw [if_neg (by simpa using h), if_neg h]
theorem check_case {a : Case} (ha : a ∈ casesL) (S : Sto) : f_check_case [a.t] S = .ok .non S := by
  have hw := case_wn a ha
  unfold bookRow at hw
  simp only [Bool.and_eq_true, decide_eq_true_eq] at hw
  have hx : ∀ o ∈ casesL, o.r ∈ rolesS o.d ∧ o.x ∈ relS o.d := by decide +kernel
  obtain ⟨x1, x2⟩ := hx a ha
  have hic : f_is_case [a.t] S = .ok (.bl true) S := by
    simp only [f_is_case, dFn_eq, start_eq, Case.t]
    simp -implicitDefEqProofs [isiD, tyD, okTy, isT, neD, lenD, ixD, atI_0, deeds_word, hw.1, tgTup, roles_of, relations_of, is_word, x1, x2]
  simp only [f_check_case, dFn_eq, start_eq]
  simp -implicitDefEqProofs [hic]
def te5 : Den := dTup (aCons (dVar 5) (aCons (dIfE (dTest (dOp2 eqD (dVar 5) (dVar 1))) (dTup (aCons (dVar 2) (aCons (dVar 3) aNil))) (dCall f_told_for (aCons (dOp1 (fldD 5 ("kept_rows" : Str)) (dVar 0)) (aCons (dVar 5) aNil)))) aNil))
def te6 : Den := dTup (aStar (dVar 5) (aCons (dOp2 ixD (dVar 6) (dC (.int 0))) (aCons (dOp2 ixD (dVar 6) (dC (.int 1))) aNil)))
theorem lc_te6 (a0 a1 a2 a3 a4 : Option D) (S : Sto) (f : Case → Str × Str) : ∀ cs : List Case, lcD (tgTup 2 (tgCons (tgName 5) (tgCons (tgName 6) tgNil))) tYesD te6 (cs.map fun o => .tup [o.t, toldD (f o)]) [a0, a1, a2, a3, a4, none, none] S = .ok (cs.map fun o => mk5 o (f o)) S
  | [] => rfl
  | o :: os => by
    have ih := lc_te6 a0 a1 a2 a3 a4 S f os
    have et : te6 [a0, a1, a2, a3, a4, some o.t, some (toldD (f o))] S = .ok (mk5 o (f o)) S := by
      simp -implicitDefEqProofs [te6, Case.t, toldD, ixD, atI_0, atI_1, sized_of, mk5, row5]
    rw [List.map_cons, lcD_cons]
    have eg : tgTup 2 (tgCons (tgName 5) (tgCons (tgName 6) tgNil)) (.tup [o.t, toldD (f o)]) [a0, a1, a2, a3, a4, none, none] = some [a0, a1, a2, a3, a4, some o.t, some (toldD (f o))] := by
      simp [tgTup]
    rw [eg, lcOne_some, e_tYesD, bindN_ok, if_pos rfl, et, bindN_ok, ih]
    rfl
theorem with_case {S : Sto} {l : Nat} {m c : Str} {rows : List D} (h : S[l]? = some (.ins 5 (bookFs m c rows))) (h1 : m ∈ formsS) (h2 : c ∈ scopesS) (hr : ∀ x ∈ rows, goodRow x) {a : Case} (ha : a ∈ casesL) :
    M_Book_with_case [.ref l, a.t, .str "wait", .str "nothing"] S = .ok (.ref S.length) (S ++ [.ins 5 (bookFs m c (wcRows rows a))]) := by
  have i := ins_at h
  have cc := check_case ha S
  have hw := case_wn a ha
  unfold bookRow at hw
  simp only [Bool.and_eq_true, decide_eq_true_eq] at hw
  have z20 : casesL.length ≤ sizeLine := by rw [cases_len]; decide
  have hcl : casesD.length = casesL.length := by simp [casesD]
  have lc5 : lcD (tgName 5) tYesD te5 casesD [some (.ref l), some a.t, some (.str "wait"), some (.str "nothing"), none, none, none] S = .ok (casesL.map fun o => D.tup [o.t, toldD (if o = a then wn else told rows o)]) S := by
    have key : ∀ cs : List Case, (∀ o ∈ cs, o ∈ casesL) → lcD (tgName 5) tYesD te5 (cs.map Case.t) [some (.ref l), some a.t, some (.str "wait"), some (.str "nothing"), none, none, none] S = .ok (cs.map fun o => D.tup [o.t, toldD (if o = a then wn else told rows o)]) S := by
      intro cs
      induction cs with
      | nil => intro _; rfl
      | cons o os ih =>
        intro hcs
        have ho := hcs o List.mem_cons_self
        have ih' := ih fun x hx => hcs x (List.mem_cons_of_mem _ hx)
        have tf := told_for (rows := rows) (fun x hx => good5 (hr x hx)) o S
        have ce := case_eq o ho a ha
        have et : te5 [some (.ref l), some a.t, some (.str "wait"), some (.str "nothing"), none, some o.t, none] S = .ok (.tup [o.t, toldD (if o = a then wn else told rows o)]) S := by
          by_cases q : o = a
          · rw [decide_eq_true q] at ce
            rw [if_pos q]
            simp -implicitDefEqProofs [te5, eqD, ce, sized_of, toldD, wn]
          · rw [decide_eq_false q] at ce
            rw [if_neg q]
            simp -implicitDefEqProofs [te5, eqD, ce, sized_of, fldD, i, f_rows, tf]
        rw [List.map_cons, lcD_cons, e_tgName, lcOne_some, e_tYesD, bindN_ok, if_pos rfl]
        show ((te5 [some (.ref l), some a.t, some (.str "wait"), some (.str "nothing"), none, some o.t, none] S).bindN _) = _
        rw [et, bindN_ok, ih']
        rfl
    exact key casesL fun o ho => ho
  have lc6 := lc_te6 (some (.ref l)) (some a.t) (some (.str "wait")) (some (.str "nothing")) (some (.lst (casesL.map fun o => D.tup [o.t, toldD (if o = a then wn else told rows o)]))) S (fun o => if o = a then wn else told rows o) casesL
  have mb := make_book h1 h2 (rows := wcRows rows a) (by rw [wc_len]; decide) (wc_good hr a) S
  unfold wcRows at mb
  have ad : a.t = .tup [.str a.d, .str a.r, .str a.x] := rfl
  have aw : f_is_word_of [.tup (strsD (actS a.d)), .str "wait"] S = .ok (.bl true) S := by rw [is_word, decide_eq_true hw.2.2.2.1]
  have kn : f_is_word_of [.tup (strsD (keepS a.d)), .str "nothing"] S = .ok (.bl true) S := by rw [is_word, decide_eq_true hw.2.2.2.2]
  have ix0 : ixD S a.t (.int 0) = some (.str a.d) := by rw [ad]; exact atI_0
  unfold te5 at lc5
  unfold te6 at lc6
  have hml : (casesL.map fun o => D.tup [o.t, toldD (if o = a then wn else told rows o)]).length = casesL.length := by simp
  simp only [M_Book_with_case, dFn_eq, start_eq]
  simp -implicitDefEqProofs [-lcD_cons, -lcD_nil, cc, ix0, actions_of, keeps_of, aw, kn, cases_ok, e_dLc, hcl, z20, wipeD, lc5, fldD, i, f_marks, f_scope, lc6, mb]
  rfl
end K50
namespace K50
open PySem L2 Tok
/-! ## the law's parts -/
theorem get_set_ne {ρ : Tok.Env} {i j : Nat} {o o2 x : Option D} (h : i ≠ j) (e : ρ[i]? = some x) : ((ρ.set j o).set j o2)[i]? = some x := by
  rw [List.getElem?_set_ne (Ne.symm h), List.getElem?_set_ne (Ne.symm h)]; exact e
theorem get_set_eq {ρ : Tok.Env} {j : Nat} {o o2 : Option D} (h : j < ρ.length) : ((ρ.set j o).set j o2)[j]? = some o2 := by
  rw [List.getElem?_set_self]; simpa using h
def formDen : Den := dTup (aCons (dOp2 ixD (dLst (aCons (dC (.str "termed")) (aCons (dC (.str "bare")) aNil))) (dCall f_law_tap (aCons (dVar 2) (aCons (dC (.int 2)) aNil)))) (aCons (dOp2 ixD (dLst (aCons (dC (.str "all")) (aCons (dC (.str "key")) aNil))) (dCall f_law_tap (aCons (dVar 2) (aCons (dC (.int 2)) aNil)))) aNil))
theorem form_ok {N l : Nat} {S : Sto} (c : CaskOk N S l) (hN : N ≤ 900000) {ρ : Tok.Env} (h2 : ρ[2]? = some (some (.ref l))) :
    ∃ (m k : Str) (S' : Sto), formDen ρ S = .ok (.tup [.str m, .str k]) S' ∧ m ∈ formsS ∧ k ∈ scopesS ∧ Kp l S S' ∧ CaskOk (N + 2) S' l := by
  obtain ⟨v, S1, e1, v0, v1, kp1, c1⟩ := tap c (by omega) (span := 2) (by omega) (by omega)
  obtain ⟨w, S2, e2, w0, w1, kp2, c2⟩ := tap c1 (by omega) (span := 2) (by omega) (by omega)
  obtain ⟨m, hm, em⟩ := strs_at (ws := formsS) v0 (by simpa [formsS] using v1)
  obtain ⟨k, hk, ek⟩ := strs_at (ws := scopesS) w0 (by simpa [scopesS] using w1)
  have em' : atI [D.str "termed", .str "bare"] v = some (.str m) := em
  have ek' : atI [D.str "all", .str "key"] w = some (.str k) := ek
  refine ⟨m, k, S2, ?_, hm, hk, kp1.trans kp2, c2⟩
  simp -implicitDefEqProofs [formDen, h2, e1, e2, ixD, em', ek', sized_of]
theorem lc_rows {l : Nat} {ρ : Tok.Env} (h2 : ρ[2]? = some (some (.ref l))) : ∀ (ds : List D) (N : Nat) (S : Sto), CaskOk N S l → N + 9 * ds.length ≤ 999000 →
    ∃ (rows : List D) (S' : Sto), lcD (tgName 5) tYesD (dCall f_law_any_row (aCons (dVar 2) aNil)) ds (ρ.set 5 none) S = .ok rows S' ∧ rows.length = ds.length ∧ (∀ x ∈ rows, goodRow x) ∧ Kp l S S' ∧ CaskOk (N + 9 * ds.length) S' l
  | [], N, S, c, _ => ⟨[], S, rfl, rfl, fun y h => (nomatch h), Kp.refl _ _, c⟩
  | d :: ds, N, S, c, hN => by
    obtain ⟨x, S1, e1, hx, k1, c1⟩ := any_row c (by simp at hN; omega)
    obtain ⟨ys, S2, e2, hl, hs, k2, c2⟩ := lc_rows h2 ds (N + 9) S1 c1 (by simp at hN; omega)
    refine ⟨x :: ys, S2, ?_, by simp [hl], ?_, k1.trans k2, c2.mono (by simp; omega)⟩
    · have et : dCall f_law_any_row (aCons (dVar 2) aNil) ((ρ.set 5 none).set 5 (some d)) S = .ok x S1 := by
        have h2' : ((ρ.set 5 none).set 5 (some d))[2]? = some (some (.ref l)) := get_set_ne (by decide) h2
        simp -implicitDefEqProofs only [e_dCall, e_aCons, e_dVar, h2', look_some, R.bind_ok, e_aNil, e1]
      rw [lcD_cons, e_tgName, lcOne_some, e_tYesD, bindN_ok, if_pos rfl, et, bindN_ok, e2]
      rfl
    · intro y hy
      rcases List.mem_cons.mp hy with rfl | hy
      · exact hx
      · exact hs y hy
def rowsDen : Den := dLc (iRange1 (aCons (dOp2 ixD (dLst (aCons (dCall f_law_tap (aCons (dVar 2) (aCons (dC (.int 9)) aNil))) (aCons (dC (.int 40)) aNil))) (dOpN intD (aCons (dOp2 eqD (dVar 3) (dC (.int 3))) aNil))) aNil)) (tgName 5) tYesD (dCall f_law_any_row (aCons (dVar 2) aNil)) [5]
theorem rows_ok {N l : Nat} {S : Sto} (c : CaskOk N S l) (hN : N ≤ 900000) {ρ : Tok.Env} (h2 : ρ[2]? = some (some (.ref l))) {k : Int} (h3 : ρ[3]? = some (some (.int k))) :
    ∃ (rows : List D) (S' : Sto), rowsDen ρ S = .ok (.lst rows) S' ∧ rows.length ≤ 40 ∧ (∀ x ∈ rows, goodRow x) ∧ Kp l S S' ∧ CaskOk (N + 400) S' l := by
  obtain ⟨v, S1, e1, v0, v1, kp1, c1⟩ := tap c (by omega) (span := 9) (by omega) (by omega)
  obtain ⟨vn, rfl⟩ := Int.eq_ofNat_of_zero_le v0
  obtain ⟨n, hn, hix⟩ : ∃ n : Nat, n ≤ 40 ∧ (k = 3 → n = 40) ∧ (¬ k = 3 → n = vn) := by
    by_cases hk : k = 3
    · exact ⟨40, by omega, fun _ => rfl, fun h => absurd hk h⟩
    · exact ⟨vn, by omega, fun h => absurd h hk, fun _ => rfl⟩
  obtain ⟨rows, S2, e2, hl, hr, kp2, c2⟩ := lc_rows h2 (rngD 0 n) (N + 1) S1 c1 (by rw [rng_len]; omega)
  rw [rng_len] at hl c2
  refine ⟨rows, S2, ?_, by omega, hr, kp1.trans kp2, c2.mono (by omega)⟩
  have hr1 : rngR [.int (n : Int)] S1 = .ok (rngD 0 n) S1 := rngR_nat (by omega)
  have hz : n ≤ sizeLine := small (by omega)
  by_cases hk : k = 3
  · have hn40 := hix.1 hk
    subst hk
    have h40 : (n : Int) = 40 := by omega
    rw [h40] at hr1
    simp -implicitDefEqProofs [-lcD_cons, -lcD_nil, rowsDen, e_dLc, h2, h3, e1, eqD, intD, ixD, atI_1, sized_of, hr1, rng_len, hz, wipeD, e2]
  · have hnv := hix.2 hk
    subst hnv
    simp -implicitDefEqProofs [-lcD_cons, -lcD_nil, rowsDen, e_dLc, h2, h3, e1, eqD, hk, intD, ixD, atI_0, sized_of, hr1, rng_len, hz, wipeD, e2]
def textDen (f r : Nat) : Den := dStrM joinD (dC (.str "\n")) (aCons (dOp2 addD (dLst (aCons (dStrM joinD (dC (.str " ")) (aCons (dVar f) aNil)) aNil)) (dLc (iAny (dVar r)) (tgName 9) tYesD (dCall f_law_row_line (aCons (dVar 9) aNil)) [9])) aNil)
theorem text_ok {S : Sto} {ρ : Tok.Env} {f r : Nat} {m c : Str} {rows : List D} (hf : ρ[f]? = some (some (.tup [.str m, .str c]))) (hr : ρ[r]? = some (some (.lst rows))) (h9 : 9 < ρ.length) (h1 : m ∈ formsS) (h2 : c ∈ scopesS) (hl : rows.length ≤ 40) (hg : ∀ x ∈ rows, goodRow x) :
    textDen f r ρ S = .ok (.str (textOf m c rows)) S := by
  have hz : rows.length ≤ sizeLine := small (by omega)
  have lc : lcD (tgName 9) tYesD (dCall f_law_row_line (aCons (dVar 9) aNil)) rows (ρ.set 9 none) S = .ok (rows.map fun x => D.str (lineS x)) S := by
    refine lc_map (h := fun x => D.str (lineS x)) rows fun d hd => ?_
    have e9 : ((ρ.set 9 none).set 9 (some d))[9]? = some (some d) := get_set_eq h9
    simp -implicitDefEqProofs only [e_dCall, e_aCons, e_dVar, e9, look_some, R.bind_ok, e_aNil, law_row_line (hg d hd)]
  have a := short_form h1
  have b := short_scope h2
  have jh : joinD " " [.tup [.str m, .str c]] = some (.str (headS m c)) := by
    have := join_strs spc_len (ys := [m, c]) (by simp; omega)
    exact this
  have jt := join_text h1 h2 hl hg
  have ad : addD S (.lst [.str (headS m c)]) (.lst (rows.map fun x => D.str (lineS x))) = some (.lst (.str (headS m c) :: rows.map fun x => D.str (lineS x))) := by
    rw [add_lst (by simp; omega)]; rfl
  simp -implicitDefEqProofs [-lcD_cons, -lcD_nil, textDen, hf, hr, jh, sized_of, e_dLc, hz, wipeD, lc, ad, jt]
def pairsDen : Den := dLc (iAny (dCall f_law_cases aNil)) (tgName 14) tYesD (dOp2 addD (dVar 14) (dCall f_law_told (aCons (dOp2 addD (dLst (aCons (dOp2 addD (dVar 12) (dTup (aCons (dC (.str "wait")) (aCons (dC (.str "nothing")) aNil)))) aNil)) (dVar 4)) (aCons (dVar 14) aNil)))) [14]
theorem pairs_ok {S : Sto} {ρ : Tok.Env} {a : Case} {rows : List D} (ha : a ∈ casesL) (h12 : ρ[12]? = some (some a.t)) (h4 : ρ[4]? = some (some (.lst rows))) (h14 : 14 < ρ.length) (hl : rows.length ≤ 40) (hg : ∀ x ∈ rows, goodRow x) :
    pairsDen ρ S = .ok (.lst (wcRows rows a)) S := by
  have key : ∀ cs : List Case, (∀ o ∈ cs, o ∈ casesL) → lcD (tgName 14) tYesD (dOp2 addD (dVar 14) (dCall f_law_told (aCons (dOp2 addD (dLst (aCons (dOp2 addD (dVar 12) (dTup (aCons (dC (.str "wait")) (aCons (dC (.str "nothing")) aNil)))) aNil)) (dVar 4)) (aCons (dVar 14) aNil)))) (cs.map Case.t) (ρ.set 14 none) S = .ok (cs.map fun o => mk5 o (if o = a then wn else told rows o)) S := by
    intro cs
    induction cs with
    | nil => intro _; rfl
    | cons o os ih =>
      intro hcs
      have ho := hcs o List.mem_cons_self
      have ih' := ih fun x hx => hcs x (List.mem_cons_of_mem _ hx)
      have e14 : ((ρ.set 14 none).set 14 (some o.t))[14]? = some (some o.t) := get_set_eq h14
      have e12 : ((ρ.set 14 none).set 14 (some o.t))[12]? = some (some a.t) := get_set_ne (by decide) h12
      have e4 : ((ρ.set 14 none).set 14 (some o.t))[4]? = some (some (.lst rows)) := get_set_ne (by decide) h4
      have ad1 : addD S a.t (.tup [.str "wait", .str "nothing"]) = some (mk5 a wn) := rfl
      have ad2 : addD S (.lst [mk5 a wn]) (.lst rows) = some (.lst (mk5 a wn :: rows)) := by rw [add_lst (by simp; omega)]; rfl
      have h5 : ∀ x ∈ mk5 a wn :: rows, is5 x := fun x hx => by
        rcases List.mem_cons.mp hx with rfl | hx
        · exact ⟨_, _, _, _, _, rfl⟩
        · exact good5 (hg x hx)
      have lt := law_told h5 o S
      rw [told_first ha ho] at lt
      have ad3 : ∀ p : Str × Str, addD S o.t (toldD p) = some (mk5 o p) := fun p => rfl
      have et : dOp2 addD (dVar 14) (dCall f_law_told (aCons (dOp2 addD (dLst (aCons (dOp2 addD (dVar 12) (dTup (aCons (dC (.str "wait")) (aCons (dC (.str "nothing")) aNil)))) aNil)) (dVar 4)) (aCons (dVar 14) aNil))) ((ρ.set 14 none).set 14 (some o.t)) S = .ok (mk5 o (if o = a then wn else told rows o)) S := by
        generalize (ρ.set 14 none).set 14 (some o.t) = ρ1 at *
        simp -implicitDefEqProofs [e14, e12, e4, sized_of, ad1, ad2, lt, ad3]
      rw [List.map_cons, lcD_cons, e_tgName, lcOne_some, e_tYesD, bindN_ok, if_pos rfl, et, bindN_ok, ih']
      rfl
  have k := key casesL fun o ho => ho
  have z20 : casesL.length ≤ sizeLine := by rw [cases_len]; decide
  have hcl : casesD.length = casesL.length := by simp [casesD]
  have ed : casesL.map Case.t = casesD := rfl
  rw [ed] at k
  unfold wcRows
  simp -implicitDefEqProofs [-lcD_cons, -lcD_nil, pairsDen, law_cases_ok, e_dLc, hcl, z20, wipeD, k]
end K50
namespace K50
open PySem L2 Tok
/-! ## the law -/
theorem seq_nx {a b : DenS} {ρ ρ' : Tok.Env} {S S' : Sto} (h : a ρ S = .ok (.nx ρ') S') : sSeq a b ρ S = b ρ' S' := by rw [e_sSeq, h, andThen_nx]
def bodyTrial : DenS := (sSeq (sAsg (dCall f_law_bent_text (aCons (dVar 2) (aCons (dVar 8) aNil))) (tgName 18)) (sSeq (sAsg (dIfE (dTest (dOp2 eqD (dCall f_law_tap (aCons (dVar 2) (aCons (dC (.int 3)) aNil))) (dC (.int 0)))) (dCall f_law_bent_text (aCons (dVar 2) (aCons (dVar 18) aNil))) (dVar 18)) (tgName 18)) (sSeq (sIf (dNotT (dTest (dCall f_law_read_right (aCons (dVar 18) aNil)))) (sSeq (sRet (dC (.bl false))) sNext) sNext) sNext)))
theorem trial_ok {N l : Nat} {S : Sto} (c : CaskOk N S l) (hN : N ≤ 900000) (a0 a1 a3 a4 a5 a6 a7 a8 a9 a10 a11 a12 a13 a14 a15 a16 a17 a18 a19 a20 : Option D) {t : Str} (ht : t.length ≤ 10000) :
    ∃ (o : Option D) (S' : Sto), bodyTrial [a0, a1, some (.ref l), a3, a4, a5, a6, a7, some (.str t), a9, a10, a11, a12, a13, a14, a15, a16, a17, a18, a19, a20] S = .ok (.nx [a0, a1, some (.ref l), a3, a4, a5, a6, a7, some (.str t), a9, a10, a11, a12, a13, a14, a15, a16, a17, o, a19, a20]) S' ∧ Kp l S S' ∧ CaskOk (N + 900) S' l := by
  obtain ⟨t1, S1, e1, h1, k1, c1⟩ := bent c (by omega) (t := t) (by omega)
  obtain ⟨v, S2, e2, v0, v1, k2, c2⟩ := tap c1 (by omega) (span := 3) (by omega) (by omega)
  by_cases hv : v = 0
  · obtain ⟨t2, S3, e3, h3, k3, c3⟩ := bent c2 (by omega) (t := t1) (by omega)
    obtain ⟨S4, e4, p4⟩ := read_right (t := t2) (by show t2.length ≤ 400000; omega) S3
    refine ⟨some (.str t2), S4, ?_, k1.trans (k2.trans (k3.trans (kp_pre p4))), (cask_pre c3 p4).mono (by omega)⟩
    simp -implicitDefEqProofs [bodyTrial, e1, e2, eqD, hv, e3, e4]
  · obtain ⟨S4, e4, p4⟩ := read_right (t := t1) (by show t1.length ≤ 400000; omega) S2
    refine ⟨some (.str t1), S4, ?_, k1.trans (k2.trans (kp_pre p4)), (cask_pre c2 p4).mono (by omega)⟩
    simp -implicitDefEqProofs [bodyTrial, e1, e2, eqD, hv, e4]
theorem trials_ok {l : Nat} (a0 a1 a3 a4 a5 a6 a7 a8 a9 a10 a11 a12 a13 a14 a15 a16 a19 a20 : Option D) {t : Str} (ht : t.length ≤ 10000) : ∀ (ds : List D) (N : Nat) (S : Sto) (a17 a18 : Option D), CaskOk N S l → N + 900 * ds.length ≤ 900000 →
    ∃ (o17 o18 : Option D) (S' : Sto), loopD (tgName 17) bodyTrial ds [a0, a1, some (.ref l), a3, a4, a5, a6, a7, some (.str t), a9, a10, a11, a12, a13, a14, a15, a16, a17, a18, a19, a20] S = .ok (.nx [a0, a1, some (.ref l), a3, a4, a5, a6, a7, some (.str t), a9, a10, a11, a12, a13, a14, a15, a16, o17, o18, a19, a20]) S' ∧ Kp l S S' ∧ CaskOk (N + 900 * ds.length) S' l
  | [], N, S, a17, a18, c, _ => ⟨a17, a18, S, rfl, Kp.refl _ _, c⟩
  | d :: ds, N, S, a17, a18, c, hN => by
    obtain ⟨o, S1, e1, k1, c1⟩ := trial_ok c (by simp at hN; omega) a0 a1 a3 a4 a5 a6 a7 a8 a9 a10 a11 a12 a13 a14 a15 a16 (some d) a18 a19 a20 (t := t) ht
    obtain ⟨o17, o18, S2, e2, k2, c2⟩ := trials_ok a0 a1 a3 a4 a5 a6 a7 a8 a9 a10 a11 a12 a13 a14 a15 a16 a19 a20 ht ds (N + 900) S1 (some d) o c1 (by simp at hN; omega)
    refine ⟨o17, o18, S2, ?_, k1.trans k2, c2.mono (by simp; omega)⟩
    rw [loop_cons, e_tgName, loopO_some]
    show loopK (tgName 17) bodyTrial ds (bodyTrial [a0, a1, some (.ref l), a3, a4, a5, a6, a7, some (.str t), a9, a10, a11, a12, a13, a14, a15, a16, some d, a18, a19, a20] S) = _
    rw [e1, loopK_nx, e2]
def lst2 : DenS := (sAsg (dMake 5 M_Book_init_ (aCons (dOp2 ixD (dVar 6) (dC (.int 0))) (aCons (dOp2 ixD (dVar 6) (dC (.int 1))) (aCons (dVar 4) aNil)))) (tgName 7))
def lst4 : DenS := (sIf (dNotT (dTest (dCall (f_law_agree 6) (aCons (dLst (aCons (dCall f_show_book (aCons (dVar 7) aNil)) (aCons (dCall f_show_book (aCons (dVar 7) aNil)) aNil))) (aCons (dLst (aCons (dVar 8) (aCons (dVar 8) aNil))) aNil))))) (sSeq (sRet (dC (.bl false))) sNext) sNext)
def lst5 : DenS := (sIf (dNotT (dTest (dCall f_law_read_right (aCons (dVar 8) aNil)))) (sSeq (sRet (dC (.bl false))) sNext) sNext)
def lst8 : DenS := (sAsg (dOp2 ixD (dCall f_law_cases aNil) (dCall f_law_tap (aCons (dVar 2) (aCons (dC (.int 20)) aNil)))) (tgName 12))
def lst11 : DenS := (sAsg (dLstS (aCons (dCall f_show_book (aCons (dMeth 5 ("in_form" : Str) M_Book_in_form (dVar 7) (aCons (dOp2 ixD (dVar 10) (dC (.int 0))) (aCons (dOp2 ixD (dVar 10) (dC (.int 1))) aNil))) aNil)) aNil)) (tgName 16))
def lst12 : DenS := (sDrop (dAppend (dVar 16) (dCall f_show_book (aCons (dMeth 5 ("with_case" : Str) M_Book_with_case (dVar 7) (aCons (dVar 12) (aCons (dC (.str "wait")) (aCons (dC (.str "nothing")) aNil)))) aNil))))
def lst13 : DenS := (sIf (dNotT (dTest (dCall (f_law_agree 6) (aCons (dVar 16) (aCons (dLst (aCons (dVar 11) (aCons (dVar 15) aNil))) aNil))))) (sSeq (sRet (dC (.bl false))) sNext) sNext)
def bodyTurn : DenS := sSeq (sAsg rowsDen (tgName 4)) (sSeq (sAsg formDen (tgName 6)) (sSeq (lst2) (sSeq (sAsg (textDen 6 4) (tgName 8)) (sSeq (lst4) (sSeq (lst5) (sSeq (sAsg formDen (tgName 10)) (sSeq (sAsg (textDen 10 4) (tgName 11)) (sSeq (lst8) (sSeq (sAsg pairsDen (tgName 13)) (sSeq (sAsg (textDen 6 13) (tgName 15)) (sSeq (lst11) (sSeq (lst12) (sSeq (lst13) (sSeq (sFor (iRange1 (aCons (dC (.int 12)) aNil)) (tgName 17) bodyTrial) (sNext)))))))))))))))
theorem bodyTurn_eq : bodyTurn = (sSeq (sAsg (dLc (iRange1 (aCons (dOp2 ixD (dLst (aCons (dCall f_law_tap (aCons (dVar 2) (aCons (dC (.int 9)) aNil))) (aCons (dC (.int 40)) aNil))) (dOpN intD (aCons (dOp2 eqD (dVar 3) (dC (.int 3))) aNil))) aNil)) (tgName 5) tYesD (dCall f_law_any_row (aCons (dVar 2) aNil)) [5]) (tgName 4)) (sSeq (sAsg (dTup (aCons (dOp2 ixD (dLst (aCons (dC (.str "termed")) (aCons (dC (.str "bare")) aNil))) (dCall f_law_tap (aCons (dVar 2) (aCons (dC (.int 2)) aNil)))) (aCons (dOp2 ixD (dLst (aCons (dC (.str "all")) (aCons (dC (.str "key")) aNil))) (dCall f_law_tap (aCons (dVar 2) (aCons (dC (.int 2)) aNil)))) aNil))) (tgName 6)) (sSeq (sAsg (dMake 5 M_Book_init_ (aCons (dOp2 ixD (dVar 6) (dC (.int 0))) (aCons (dOp2 ixD (dVar 6) (dC (.int 1))) (aCons (dVar 4) aNil)))) (tgName 7)) (sSeq (sAsg (dStrM joinD (dC (.str "\n")) (aCons (dOp2 addD (dLst (aCons (dStrM joinD (dC (.str " ")) (aCons (dVar 6) aNil)) aNil)) (dLc (iAny (dVar 4)) (tgName 9) tYesD (dCall f_law_row_line (aCons (dVar 9) aNil)) [9])) aNil)) (tgName 8)) (sSeq (sIf (dNotT (dTest (dCall (f_law_agree 6) (aCons (dLst (aCons (dCall f_show_book (aCons (dVar 7) aNil)) (aCons (dCall f_show_book (aCons (dVar 7) aNil)) aNil))) (aCons (dLst (aCons (dVar 8) (aCons (dVar 8) aNil))) aNil))))) (sSeq (sRet (dC (.bl false))) sNext) sNext) (sSeq (sIf (dNotT (dTest (dCall f_law_read_right (aCons (dVar 8) aNil)))) (sSeq (sRet (dC (.bl false))) sNext) sNext) (sSeq (sAsg (dTup (aCons (dOp2 ixD (dLst (aCons (dC (.str "termed")) (aCons (dC (.str "bare")) aNil))) (dCall f_law_tap (aCons (dVar 2) (aCons (dC (.int 2)) aNil)))) (aCons (dOp2 ixD (dLst (aCons (dC (.str "all")) (aCons (dC (.str "key")) aNil))) (dCall f_law_tap (aCons (dVar 2) (aCons (dC (.int 2)) aNil)))) aNil))) (tgName 10)) (sSeq (sAsg (dStrM joinD (dC (.str "\n")) (aCons (dOp2 addD (dLst (aCons (dStrM joinD (dC (.str " ")) (aCons (dVar 10) aNil)) aNil)) (dLc (iAny (dVar 4)) (tgName 9) tYesD (dCall f_law_row_line (aCons (dVar 9) aNil)) [9])) aNil)) (tgName 11)) (sSeq (sAsg (dOp2 ixD (dCall f_law_cases aNil) (dCall f_law_tap (aCons (dVar 2) (aCons (dC (.int 20)) aNil)))) (tgName 12)) (sSeq (sAsg (dLc (iAny (dCall f_law_cases aNil)) (tgName 14) tYesD (dOp2 addD (dVar 14) (dCall f_law_told (aCons (dOp2 addD (dLst (aCons (dOp2 addD (dVar 12) (dTup (aCons (dC (.str "wait")) (aCons (dC (.str "nothing")) aNil)))) aNil)) (dVar 4)) (aCons (dVar 14) aNil)))) [14]) (tgName 13)) (sSeq (sAsg (dStrM joinD (dC (.str "\n")) (aCons (dOp2 addD (dLst (aCons (dStrM joinD (dC (.str " ")) (aCons (dVar 6) aNil)) aNil)) (dLc (iAny (dVar 13)) (tgName 9) tYesD (dCall f_law_row_line (aCons (dVar 9) aNil)) [9])) aNil)) (tgName 15)) (sSeq (sAsg (dLstS (aCons (dCall f_show_book (aCons (dMeth 5 ("in_form" : Str) M_Book_in_form (dVar 7) (aCons (dOp2 ixD (dVar 10) (dC (.int 0))) (aCons (dOp2 ixD (dVar 10) (dC (.int 1))) aNil))) aNil)) aNil)) (tgName 16)) (sSeq (sDrop (dAppend (dVar 16) (dCall f_show_book (aCons (dMeth 5 ("with_case" : Str) M_Book_with_case (dVar 7) (aCons (dVar 12) (aCons (dC (.str "wait")) (aCons (dC (.str "nothing")) aNil)))) aNil)))) (sSeq (sIf (dNotT (dTest (dCall (f_law_agree 6) (aCons (dVar 16) (aCons (dLst (aCons (dVar 11) (aCons (dVar 15) aNil))) aNil))))) (sSeq (sRet (dC (.bl false))) sNext) sNext) (sSeq (sFor (iRange1 (aCons (dC (.int 12)) aNil)) (tgName 17) (sSeq (sAsg (dCall f_law_bent_text (aCons (dVar 2) (aCons (dVar 8) aNil))) (tgName 18)) (sSeq (sAsg (dIfE (dTest (dOp2 eqD (dCall f_law_tap (aCons (dVar 2) (aCons (dC (.int 3)) aNil))) (dC (.int 0)))) (dCall f_law_bent_text (aCons (dVar 2) (aCons (dVar 18) aNil))) (dVar 18)) (tgName 18)) (sSeq (sIf (dNotT (dTest (dCall f_law_read_right (aCons (dVar 18) aNil)))) (sSeq (sRet (dC (.bl false))) sNext) sNext) sNext)))) sNext))))))))))))))) := rfl
theorem turn_ok {N l : Nat} {S : Sto} (c : CaskOk N S l) (hN : N ≤ 800000) (a0 a1 a4 a5 a6 a7 a8 a9 a10 a11 a12 a13 a14 a15 a16 a17 a18 a19 a20 : Option D) (k : Int) :
    ∃ (b3 b4 b5 b6 b7 b8 b9 b10 b11 b12 b13 b14 b15 b16 b17 b18 b19 b20 : Option D) (S' : Sto), bodyTurn [a0, a1, some (.ref l), some (.int k), a4, a5, a6, a7, a8, a9, a10, a11, a12, a13, a14, a15, a16, a17, a18, a19, a20] S = .ok (.nx [a0, a1, some (.ref l), b3, b4, b5, b6, b7, b8, b9, b10, b11, b12, b13, b14, b15, b16, b17, b18, b19, b20]) S' ∧ Kp l S S' ∧ CaskOk (N + 12000) S' l := by
  have hlS : l < S.length := by obtain ⟨_, _, _, e, _⟩ := c; exact (List.getElem?_eq_some_iff.mp e).1
  obtain ⟨rows, S1, e0, hrl, hrg, k0, c0⟩ := rows_ok c (by omega) (ρ := [a0, a1, some (.ref l), some (.int k), a4, a5, a6, a7, a8, a9, a10, a11, a12, a13, a14, a15, a16, a17, a18, a19, a20]) rfl rfl
  obtain ⟨m, g, S2, e1, hm, hg, k1, c1⟩ := form_ok c0 (by omega) (ρ := [a0, a1, some (.ref l), some (.int k), some (.lst rows), a5, a6, a7, a8, a9, a10, a11, a12, a13, a14, a15, a16, a17, a18, a19, a20]) rfl
  have mb := make_book hm hg hrl hrg S2
  obtain ⟨b, hb⟩ : ∃ b, S2.length = b := ⟨_, rfl⟩
  obtain ⟨S3, hS3⟩ : ∃ S3, S2 ++ [SO.ins 5 (bookFs m g rows)] = S3 := ⟨_, rfl⟩
  have hbl : b ≠ l := by have := k0.1; have := k1.1; omega
  have hb3 : S3[b]? = some (.ins 5 (bookFs m g rows)) := by rw [← hS3, ← hb]; simp
  have p3 : S2 <+: S3 := by rw [← hS3]; exact List.prefix_append _ _
  have c3 : CaskOk (N + 402) S3 l := (cask_pre c1 p3).mono (by omega)
  have s2 : lst2 [a0, a1, some (.ref l), some (.int k), some (.lst rows), a5, some (.tup [.str m, .str g]), a7, a8, a9, a10, a11, a12, a13, a14, a15, a16, a17, a18, a19, a20] S2 = .ok (.nx [a0, a1, some (.ref l), some (.int k), some (.lst rows), a5, some (.tup [.str m, .str g]), some (.ref b), a8, a9, a10, a11, a12, a13, a14, a15, a16, a17, a18, a19, a20]) S3 := by
    rw [hb, hS3] at mb
    have mb' : makeR S2.length (M_Book_init_ [.ref S2.length, .str m, .str g, .lst rows] (S2 ++ [.ins 5 []])) = .ok (.ref b) S3 := by rw [hb]; exact mb
    simp -implicitDefEqProofs [lst2, ixD, atI_0, atI_1, mb']
  have e3 := text_ok (S := S3) (ρ := [a0, a1, some (.ref l), some (.int k), some (.lst rows), a5, some (.tup [.str m, .str g]), some (.ref b), a8, a9, a10, a11, a12, a13, a14, a15, a16, a17, a18, a19, a20]) (f := 6) (r := 4) (m := m) (c := g) (rows := rows) rfl rfl (by simp) hm hg hrl hrg
  have sb3 := show_book hb3 hm hg hrl hrg
  have tl := text_short hm hg hrl hrg
  have ag1 : f_law_agree 6 [.lst [.str (textOf m g rows), .str (textOf m g rows)], .lst [.str (textOf m g rows), .str (textOf m g rows)]] S3 = .ok (.bl true) S3 := agree_same 5 _ S3 ⟨by simp, fun x hx => by simp at hx; subst hx; simp [plainD]⟩
  have s4 : lst4 [a0, a1, some (.ref l), some (.int k), some (.lst rows), a5, some (.tup [.str m, .str g]), some (.ref b), some (.str (textOf m g rows)), a9, a10, a11, a12, a13, a14, a15, a16, a17, a18, a19, a20] S3 = .ok (.nx [a0, a1, some (.ref l), some (.int k), some (.lst rows), a5, some (.tup [.str m, .str g]), some (.ref b), some (.str (textOf m g rows)), a9, a10, a11, a12, a13, a14, a15, a16, a17, a18, a19, a20]) S3 := by simp -implicitDefEqProofs [lst4, sb3, sized_of, ag1]
  obtain ⟨S4, e5, p4⟩ := read_right (t := textOf m g rows) (by show (textOf m g rows).length ≤ 400000; omega) S3
  have s5 : lst5 [a0, a1, some (.ref l), some (.int k), some (.lst rows), a5, some (.tup [.str m, .str g]), some (.ref b), some (.str (textOf m g rows)), a9, a10, a11, a12, a13, a14, a15, a16, a17, a18, a19, a20] S3 = .ok (.nx [a0, a1, some (.ref l), some (.int k), some (.lst rows), a5, some (.tup [.str m, .str g]), some (.ref b), some (.str (textOf m g rows)), a9, a10, a11, a12, a13, a14, a15, a16, a17, a18, a19, a20]) S4 := by simp -implicitDefEqProofs [lst5, e5]
  have hb4 : S4[b]? = some (.ins 5 (bookFs m g rows)) := pre_get p4 hb3
  have c4 := cask_pre c3 p4
  obtain ⟨m', g', S5, e6, hm', hg', k6, c6⟩ := form_ok c4 (by omega) (ρ := [a0, a1, some (.ref l), some (.int k), some (.lst rows), a5, some (.tup [.str m, .str g]), some (.ref b), some (.str (textOf m g rows)), a9, a10, a11, a12, a13, a14, a15, a16, a17, a18, a19, a20]) rfl
  have hb5 : S5[b]? = some (.ins 5 (bookFs m g rows)) := k6.2 b hbl _ hb4
  have e7 := text_ok (S := S5) (ρ := [a0, a1, some (.ref l), some (.int k), some (.lst rows), a5, some (.tup [.str m, .str g]), some (.ref b), some (.str (textOf m g rows)), a9, some (.tup [.str m', .str g']), a11, a12, a13, a14, a15, a16, a17, a18, a19, a20]) (f := 10) (r := 4) (m := m') (c := g') (rows := rows) rfl rfl (by simp) hm' hg' hrl hrg
  obtain ⟨v, S6, e8, v0, v1, k8, c8⟩ := tap c6 (by omega) (span := 20) (by omega) (by omega)
  obtain ⟨vn, rfl⟩ := Int.eq_ofNat_of_zero_le v0
  have hvn : vn < casesL.length := by rw [cases_len]; omega
  obtain ⟨a, ha, hav⟩ : ∃ a, a ∈ casesL ∧ casesL[vn] = a := ⟨_, List.getElem_mem hvn, rfl⟩
  have hix : atI casesD (vn : Int) = some a.t := by
    rw [atI_nat (by simpa [casesD] using hvn), ← hav]
    simp [casesD]
  have s8 : lst8 [a0, a1, some (.ref l), some (.int k), some (.lst rows), a5, some (.tup [.str m, .str g]), some (.ref b), some (.str (textOf m g rows)), a9, some (.tup [.str m', .str g']), some (.str (textOf m' g' rows)), a12, a13, a14, a15, a16, a17, a18, a19, a20] S5 = .ok (.nx [a0, a1, some (.ref l), some (.int k), some (.lst rows), a5, some (.tup [.str m, .str g]), some (.ref b), some (.str (textOf m g rows)), a9, some (.tup [.str m', .str g']), some (.str (textOf m' g' rows)), some a.t, a13, a14, a15, a16, a17, a18, a19, a20]) S6 := by simp -implicitDefEqProofs [lst8, law_cases_ok, e8, ixD, hix]
  have hb6 : S6[b]? = some (.ins 5 (bookFs m g rows)) := k8.2 b hbl _ hb5
  have e9 := pairs_ok (S := S6) (ρ := [a0, a1, some (.ref l), some (.int k), some (.lst rows), a5, some (.tup [.str m, .str g]), some (.ref b), some (.str (textOf m g rows)), a9, some (.tup [.str m', .str g']), some (.str (textOf m' g' rows)), some a.t, a13, a14, a15, a16, a17, a18, a19, a20]) (a := a) (rows := rows) ha rfl rfl (by simp) hrl hrg
  have hwl := wc_len rows a
  have hwg := wc_good hrg a
  have e10 := text_ok (S := S6) (ρ := [a0, a1, some (.ref l), some (.int k), some (.lst rows), a5, some (.tup [.str m, .str g]), some (.ref b), some (.str (textOf m g rows)), a9, some (.tup [.str m', .str g']), some (.str (textOf m' g' rows)), some a.t, some (.lst (wcRows rows a)), a14, a15, a16, a17, a18, a19, a20]) (f := 6) (r := 13) (m := m) (c := g) (rows := wcRows rows a) rfl rfl (by simp) hm hg (by omega) hwg
  have fo := in_form hb6 hm' hg' hrl hrg
  obtain ⟨S7, hS7⟩ : ∃ S7, S6 ++ [SO.ins 5 (bookFs m' g' rows)] = S7 := ⟨_, rfl⟩
  have h7 : S7[S6.length]? = some (.ins 5 (bookFs m' g' rows)) := by rw [← hS7]; simp
  have p7 : S6 <+: S7 := by rw [← hS7]; exact List.prefix_append _ _
  have sb7 := show_book h7 hm' hg' hrl hrg
  have i6 := ins_at hb6
  have nm : (bookFs m g rows).lookup ("in_form" : Str) = none := by
    have x1 : (("in_form" : Str) == "marks") = false := by decide +kernel
    have x2 : (("in_form" : Str) == "scope") = false := by decide +kernel
    have x3 : (("in_form" : Str) == "kept_rows") = false := by decide +kernel
    simp [bookFs, List.lookup, x1, x2, x3]
  have nw : (bookFs m g rows).lookup ("with_case" : Str) = none := by
    have x1 : (("with_case" : Str) == "marks") = false := by decide +kernel
    have x2 : (("with_case" : Str) == "scope") = false := by decide +kernel
    have x3 : (("with_case" : Str) == "kept_rows") = false := by decide +kernel
    simp [bookFs, List.lookup, x1, x2, x3]
  obtain ⟨q, hq⟩ : ∃ q, S7.length = q := ⟨_, rfl⟩
  obtain ⟨S8, hS8⟩ : ∃ S8, S7 ++ [SO.lst [.str (textOf m' g' rows)]] = S8 := ⟨_, rfl⟩
  have p8 : S7 <+: S8 := by rw [← hS8]; exact List.prefix_append _ _
  have hq8 : S8[q]? = some (.lst [.str (textOf m' g' rows)]) := by rw [← hS8, ← hq]; simp
  have hql : q ≠ l := by have := k0.1; have := k1.1; have := p3.length_le; have := p4.length_le; have := k6.1; have := k8.1; have := p7.length_le; omega
  have s11 : lst11 [a0, a1, some (.ref l), some (.int k), some (.lst rows), a5, some (.tup [.str m, .str g]), some (.ref b), some (.str (textOf m g rows)), a9, some (.tup [.str m', .str g']), some (.str (textOf m' g' rows)), some a.t, some (.lst (wcRows rows a)), a14, some (.str (textOf m g (wcRows rows a))), a16, a17, a18, a19, a20] S6 = .ok (.nx [a0, a1, some (.ref l), some (.int k), some (.lst rows), a5, some (.tup [.str m, .str g]), some (.ref b), some (.str (textOf m g rows)), a9, some (.tup [.str m', .str g']), some (.str (textOf m' g' rows)), some a.t, some (.lst (wcRows rows a)), a14, some (.str (textOf m g (wcRows rows a))), some (.ref q), a17, a18, a19, a20]) S8 := by
    simp -implicitDefEqProofs [lst11, e_dMeth, i6, methR_ok nm, ixD, atI_0, atI_1, fo, hS7, sb7, sized_of, hS8, hq]
  have hb8 : S8[b]? = some (.ins 5 (bookFs m g rows)) := pre_get p8 (pre_get p7 hb6)
  have wc := with_case hb8 hm hg hrg ha
  obtain ⟨S9, hS9⟩ : ∃ S9, S8 ++ [SO.ins 5 (bookFs m g (wcRows rows a))] = S9 := ⟨_, rfl⟩
  have p9 : S8 <+: S9 := by rw [← hS9]; exact List.prefix_append _ _
  have h9 : S9[S8.length]? = some (.ins 5 (bookFs m g (wcRows rows a))) := by rw [← hS9]; simp
  have sb9 := show_book h9 hm hg (by omega) hwg
  have i8 := ins_at hb8
  have hq9 := pre_get p9 hq8
  obtain ⟨S10, hS10⟩ : ∃ S10, S9.set q (.lst ([.str (textOf m' g' rows)] ++ [.str (textOf m g (wcRows rows a))])) = S10 := ⟨_, rfl⟩
  have ap := app2_ok (d := .str (textOf m g (wcRows rows a))) hq9 (by simp)
  rw [hS10] at ap
  have s12 : lst12 [a0, a1, some (.ref l), some (.int k), some (.lst rows), a5, some (.tup [.str m, .str g]), some (.ref b), some (.str (textOf m g rows)), a9, some (.tup [.str m', .str g']), some (.str (textOf m' g' rows)), some a.t, some (.lst (wcRows rows a)), a14, some (.str (textOf m g (wcRows rows a))), some (.ref q), a17, a18, a19, a20] S8 = .ok (.nx [a0, a1, some (.ref l), some (.int k), some (.lst rows), a5, some (.tup [.str m, .str g]), some (.ref b), some (.str (textOf m g rows)), a9, some (.tup [.str m', .str g']), some (.str (textOf m' g' rows)), some a.t, some (.lst (wcRows rows a)), a14, some (.str (textOf m g (wcRows rows a))), some (.ref q), a17, a18, a19, a20]) S10 := by
    simp -implicitDefEqProofs [lst12, e_dAppend, app1_ok hq8, e_dMeth, i8, methR_ok nw, wc, hS9, sb9, ap]
  have hq10 : S10[q]? = some (.lst [.str (textOf m' g' rows), .str (textOf m g (wcRows rows a))]) := by
    rw [← hS10, List.getElem?_set_self (List.getElem?_eq_some_iff.mp hq9).1]; rfl
  have ag2 := agree_ref 4 q [.str (textOf m' g' rows), .str (textOf m g (wcRows rows a))] S10 hq10 (by simp) (fun x hx => by simp at hx; rcases hx with rfl | rfl <;> simp [plainD])
  have s13 : lst13 [a0, a1, some (.ref l), some (.int k), some (.lst rows), a5, some (.tup [.str m, .str g]), some (.ref b), some (.str (textOf m g rows)), a9, some (.tup [.str m', .str g']), some (.str (textOf m' g' rows)), some a.t, some (.lst (wcRows rows a)), a14, some (.str (textOf m g (wcRows rows a))), some (.ref q), a17, a18, a19, a20] S10 = .ok (.nx [a0, a1, some (.ref l), some (.int k), some (.lst rows), a5, some (.tup [.str m, .str g]), some (.ref b), some (.str (textOf m g rows)), a9, some (.tup [.str m', .str g']), some (.str (textOf m' g' rows)), some a.t, some (.lst (wcRows rows a)), a14, some (.str (textOf m g (wcRows rows a))), some (.ref q), a17, a18, a19, a20]) S10 := by simp -implicitDefEqProofs [lst13, sized_of, ag2]
  have c10 : CaskOk (N + 500) S10 l := by
    rw [← hS10]
    exact cask_set ((cask_pre (cask_pre (cask_pre c8 p7) p8) p9).mono (by omega)) hql
  obtain ⟨o17, o18, S11, e14, k14, c14⟩ := trials_ok (l := l) a0 a1 (some (.int k)) (some (.lst rows)) a5 (some (.tup [.str m, .str g])) (some (.ref b)) a8 a9 (some (.tup [.str m', .str g'])) (some (.str (textOf m' g' rows))) (some a.t) (some (.lst (wcRows rows a))) a14 (some (.str (textOf m g (wcRows rows a)))) (some (.ref q)) a19 a20 tl (rngD 0 12) (N + 500) S10 a17 a18 c10 (by rw [rng_len]; omega)
  rw [rng_len] at c14
  have r12 : rngR [.int 12] S10 = .ok (rngD 0 12) S10 := rfl
  have s14 : sFor (iRange1 (aCons (dC (.int 12)) aNil)) (tgName 17) bodyTrial [a0, a1, some (.ref l), some (.int k), some (.lst rows), a5, some (.tup [.str m, .str g]), some (.ref b), some (.str (textOf m g rows)), a9, some (.tup [.str m', .str g']), some (.str (textOf m' g' rows)), some a.t, some (.lst (wcRows rows a)), a14, some (.str (textOf m g (wcRows rows a))), some (.ref q), a17, a18, a19, a20] S10 = .ok (.nx [a0, a1, some (.ref l), some (.int k), some (.lst rows), a5, some (.tup [.str m, .str g]), some (.ref b), some (.str (textOf m g rows)), a9, some (.tup [.str m', .str g']), some (.str (textOf m' g' rows)), some a.t, some (.lst (wcRows rows a)), a14, some (.str (textOf m g (wcRows rows a))), some (.ref q), o17, o18, a19, a20]) S11 := by
    rw [← e14]
    simp -implicitDefEqProofs [-loop_cons, r12]
  refine ⟨some (.int k), some (.lst rows), a5, some (.tup [.str m, .str g]), some (.ref b), some (.str (textOf m g rows)), a9, some (.tup [.str m', .str g']), some (.str (textOf m' g' rows)), some a.t, some (.lst (wcRows rows a)), a14, some (.str (textOf m g (wcRows rows a))), some (.ref q), o17, o18, a19, a20, S11, ?_, ?_, c14.mono (by omega)⟩
  · have s0 : sAsg rowsDen (tgName 4) [a0, a1, some (.ref l), some (.int k), a4, a5, a6, a7, a8, a9, a10, a11, a12, a13, a14, a15, a16, a17, a18, a19, a20] S = .ok (.nx [a0, a1, some (.ref l), some (.int k), some (.lst rows), a5, a6, a7, a8, a9, a10, a11, a12, a13, a14, a15, a16, a17, a18, a19, a20]) S1 := by rw [e_sAsg, e0]; rfl
    have s1 : sAsg formDen (tgName 6) [a0, a1, some (.ref l), some (.int k), some (.lst rows), a5, a6, a7, a8, a9, a10, a11, a12, a13, a14, a15, a16, a17, a18, a19, a20] S1 = .ok (.nx [a0, a1, some (.ref l), some (.int k), some (.lst rows), a5, some (.tup [.str m, .str g]), a7, a8, a9, a10, a11, a12, a13, a14, a15, a16, a17, a18, a19, a20]) S2 := by rw [e_sAsg, e1]; rfl
    have s3 : sAsg (textDen 6 4) (tgName 8) [a0, a1, some (.ref l), some (.int k), some (.lst rows), a5, some (.tup [.str m, .str g]), some (.ref b), a8, a9, a10, a11, a12, a13, a14, a15, a16, a17, a18, a19, a20] S3 = .ok (.nx [a0, a1, some (.ref l), some (.int k), some (.lst rows), a5, some (.tup [.str m, .str g]), some (.ref b), some (.str (textOf m g rows)), a9, a10, a11, a12, a13, a14, a15, a16, a17, a18, a19, a20]) S3 := by rw [e_sAsg, e3]; rfl
    have s6 : sAsg formDen (tgName 10) [a0, a1, some (.ref l), some (.int k), some (.lst rows), a5, some (.tup [.str m, .str g]), some (.ref b), some (.str (textOf m g rows)), a9, a10, a11, a12, a13, a14, a15, a16, a17, a18, a19, a20] S4 = .ok (.nx [a0, a1, some (.ref l), some (.int k), some (.lst rows), a5, some (.tup [.str m, .str g]), some (.ref b), some (.str (textOf m g rows)), a9, some (.tup [.str m', .str g']), a11, a12, a13, a14, a15, a16, a17, a18, a19, a20]) S5 := by rw [e_sAsg, e6]; rfl
    have s7 : sAsg (textDen 10 4) (tgName 11) [a0, a1, some (.ref l), some (.int k), some (.lst rows), a5, some (.tup [.str m, .str g]), some (.ref b), some (.str (textOf m g rows)), a9, some (.tup [.str m', .str g']), a11, a12, a13, a14, a15, a16, a17, a18, a19, a20] S5 = .ok (.nx [a0, a1, some (.ref l), some (.int k), some (.lst rows), a5, some (.tup [.str m, .str g]), some (.ref b), some (.str (textOf m g rows)), a9, some (.tup [.str m', .str g']), some (.str (textOf m' g' rows)), a12, a13, a14, a15, a16, a17, a18, a19, a20]) S5 := by rw [e_sAsg, e7]; rfl
    have s9 : sAsg pairsDen (tgName 13) [a0, a1, some (.ref l), some (.int k), some (.lst rows), a5, some (.tup [.str m, .str g]), some (.ref b), some (.str (textOf m g rows)), a9, some (.tup [.str m', .str g']), some (.str (textOf m' g' rows)), some a.t, a13, a14, a15, a16, a17, a18, a19, a20] S6 = .ok (.nx [a0, a1, some (.ref l), some (.int k), some (.lst rows), a5, some (.tup [.str m, .str g]), some (.ref b), some (.str (textOf m g rows)), a9, some (.tup [.str m', .str g']), some (.str (textOf m' g' rows)), some a.t, some (.lst (wcRows rows a)), a14, a15, a16, a17, a18, a19, a20]) S6 := by rw [e_sAsg, e9]; rfl
    have s10 : sAsg (textDen 6 13) (tgName 15) [a0, a1, some (.ref l), some (.int k), some (.lst rows), a5, some (.tup [.str m, .str g]), some (.ref b), some (.str (textOf m g rows)), a9, some (.tup [.str m', .str g']), some (.str (textOf m' g' rows)), some a.t, some (.lst (wcRows rows a)), a14, a15, a16, a17, a18, a19, a20] S6 = .ok (.nx [a0, a1, some (.ref l), some (.int k), some (.lst rows), a5, some (.tup [.str m, .str g]), some (.ref b), some (.str (textOf m g rows)), a9, some (.tup [.str m', .str g']), some (.str (textOf m' g' rows)), some a.t, some (.lst (wcRows rows a)), a14, some (.str (textOf m g (wcRows rows a))), a16, a17, a18, a19, a20]) S6 := by rw [e_sAsg, e10]; rfl
    unfold bodyTurn
    rw [seq_nx s0, seq_nx s1, seq_nx s2, seq_nx s3, seq_nx s4, seq_nx s5, seq_nx s6, seq_nx s7, seq_nx s8, seq_nx s9, seq_nx s10, seq_nx s11, seq_nx s12, seq_nx s13, seq_nx s14, e_sNext]
  · have ka : Kp l S S9 := k0.trans (k1.trans ((kp_pre p3).trans ((kp_pre p4).trans (k6.trans (k8.trans ((kp_pre p7).trans ((kp_pre p8).trans (kp_pre p9))))))))
    have hl10 : S10.length = S9.length := by rw [← hS10]; simp
    refine ⟨by have := ka.1; have := k14.1; omega, fun j hj o ho => k14.2 j hj o ?_⟩
    have hjS : j < S.length := (List.getElem?_eq_some_iff.mp ho).1
    have hqj : q ≠ j := by have := k0.1; have := k1.1; have := p3.length_le; have := p4.length_le; have := k6.1; have := k8.1; have := p7.length_le; omega
    rw [← hS10, List.getElem?_set_ne hqj]
    exact ka.2 j hj o ho
end K50
namespace K50
open PySem L2 Tok
theorem turns_ok {l : Nat} (a0 a1 : Option D) : ∀ (ds : List D) (N : Nat) (S : Sto) (a3 a4 a5 a6 a7 a8 a9 a10 a11 a12 a13 a14 a15 a16 a17 a18 a19 a20 : Option D), (∀ d ∈ ds, ∃ k : Int, d = .int k) → CaskOk N S l → N + 12000 * ds.length ≤ 700000 →
    ∃ (b3 b4 b5 b6 b7 b8 b9 b10 b11 b12 b13 b14 b15 b16 b17 b18 b19 b20 : Option D) (S' : Sto), loopD (tgName 3) bodyTurn ds [a0, a1, some (.ref l), a3, a4, a5, a6, a7, a8, a9, a10, a11, a12, a13, a14, a15, a16, a17, a18, a19, a20] S = .ok (.nx [a0, a1, some (.ref l), b3, b4, b5, b6, b7, b8, b9, b10, b11, b12, b13, b14, b15, b16, b17, b18, b19, b20]) S' ∧ Kp l S S' ∧ CaskOk (N + 12000 * ds.length) S' l
  | [], N, S, a3, a4, a5, a6, a7, a8, a9, a10, a11, a12, a13, a14, a15, a16, a17, a18, a19, a20, _, c, _ => ⟨a3, a4, a5, a6, a7, a8, a9, a10, a11, a12, a13, a14, a15, a16, a17, a18, a19, a20, S, rfl, Kp.refl _ _, c⟩
  | d :: ds, N, S, a3, a4, a5, a6, a7, a8, a9, a10, a11, a12, a13, a14, a15, a16, a17, a18, a19, a20, hd, c, hN => by
    obtain ⟨k, rfl⟩ := hd d List.mem_cons_self
    obtain ⟨b3, b4, b5, b6, b7, b8, b9, b10, b11, b12, b13, b14, b15, b16, b17, b18, b19, b20, S1, e1, k1, c1⟩ := turn_ok c (by simp at hN; omega) a0 a1 a4 a5 a6 a7 a8 a9 a10 a11 a12 a13 a14 a15 a16 a17 a18 a19 a20 k
    obtain ⟨g3, g4, g5, g6, g7, g8, g9, g10, g11, g12, g13, g14, g15, g16, g17, g18, g19, g20, S2, e2, k2, c2⟩ := turns_ok a0 a1 ds (N + 12000) S1 b3 b4 b5 b6 b7 b8 b9 b10 b11 b12 b13 b14 b15 b16 b17 b18 b19 b20 (fun x hx => hd x (List.mem_cons_of_mem _ hx)) c1 (by simp at hN; omega)
    refine ⟨g3, g4, g5, g6, g7, g8, g9, g10, g11, g12, g13, g14, g15, g16, g17, g18, g19, g20, S2, ?_, k1.trans k2, c2.mono (by simp; omega)⟩
    rw [loop_cons, e_tgName, loopO_some]
    show loopK (tgName 3) bodyTurn ds (bodyTurn [a0, a1, some (.ref l), some (.int k), a4, a5, a6, a7, a8, a9, a10, a11, a12, a13, a14, a15, a16, a17, a18, a19, a20] S) = _
    rw [e1, loopK_nx, e2]
theorem law_cask (ns : List Int) (at_ : Nat) (ha : at_ ≤ 3) (S : Sto) : ∃ o, f_law_cask [.scr (ns.map .int), .int at_] S = .ok (.ref S.length) (S ++ [o]) ∧ CaskOk 0 (S ++ [o]) S.length := by
  obtain ⟨cell, hc⟩ : ∃ cell : Int, (if (at_ : Int) < ns.length then atI (ns.map D.int) (at_ : Int) = some (.int cell) else cell = 0) := by
    by_cases h : (at_ : Int) < ns.length
    · have hn : at_ < ns.length := by omega
      exact ⟨ns[at_], by rw [if_pos h, atI_nat (by simpa using hn)]; simp⟩
    · exact ⟨0, by rw [if_neg h]⟩
  let M : Int := 10 ^ 38 + 133
  let b : Int := cell % M * 59 + 61 * at_ + 23
  obtain ⟨z, hz⟩ : ∃ z : Int, ∀ S, maxD S [.int 0, .int ((cell.natAbs : Int) - 10 ^ 18)] = some (.int z) := ⟨_, fun S => rfl⟩
  have p1 : ∀ S, powD S (.int 10) (.int 18) = some (.int (10 ^ 18)) := fun S => pow_ok (n := 18) (by decide) (big _ (Nat.lt_of_lt_of_le (show (10 : Int).natAbs < 2 ^ 4 by decide) (Nat.pow_le_pow_right (by decide) (by decide))))
  have p2 : ∀ S, powD S (.int 10) (.int 38) = some (.int (10 ^ 38)) := fun S => pow_ok (n := 38) (by decide) (big _ (Nat.lt_of_lt_of_le (show (10 : Int).natAbs < 2 ^ 4 by decide) (Nat.pow_le_pow_right (by decide) (by decide))))
  have hM : (0 : Int) < M := by decide +kernel
  have hM2 : M < 2 ^ 150 := by decide +kernel
  have m0 : 0 ≤ cell % M := Int.emod_nonneg _ (by omega)
  have m1 : cell % M < M := Int.emod_lt_of_pos _ hM
  have q1 : ∀ S, modD S (.int cell) (.int M) = some (.int (cell % M)) := fun S => mod_ok hM
  have q2 : ∀ S, mulD S (.int (cell % M)) (.int 59) = some (.int (cell % M * 59)) := fun S => by
    unfold mulD
    dsimp only
    rw [if_pos (.inr ⟨by decide, by decide⟩)]
  have q3 : ∀ S, mulD S (.int 61) (.int at_) = some (.int (61 * at_)) := fun S => mul_ok (by decide) (by decide)
  have q4 : ∀ S, subD S (.int (cell.natAbs : Int)) (.int (10 ^ 18)) = some (.int ((cell.natAbs : Int) - 10 ^ 18)) := fun S => rfl
  have q5 : ∀ S, absD S [.int cell] = some (.int (cell.natAbs : Int)) := by
    intro S; unfold absD; dsimp only; congr 2; split <;> omega
  have q6 : ∀ S, addD S (.int (10 ^ 38)) (.int 133) = some (.int M) := fun S => rfl
  have q7 : ∀ S, addD S (.int (cell % M * 59)) (.int (61 * at_)) = some (.int (cell % M * 59 + 61 * at_)) := fun S => rfl
  have q8 : ∀ S, addD S (.int (cell % M * 59 + 61 * at_)) (.int 23) = some (.int b) := fun S => rfl
  have hb0 : 0 ≤ b := by show 0 ≤ cell % M * 59 + 61 * at_ + 23; omega
  have hb1 : b < 2 ^ 200 := by show cell % M * 59 + 61 * at_ + 23 < 2 ^ 200; omega
  refine ⟨.lst [.int z, .int b, .int 0], ?_, ⟨z, b, 0, by simp, hb0, hb1, by decide, by decide⟩⟩
  clear_value b M
  generalize ((10 : Int) ^ 18) = T18 at *
  generalize ((10 : Int) ^ 38) = T38 at *
  have hl : (ns.map D.int).length = ns.length := by simp
  by_cases h : (at_ : Int) < ns.length
  · rw [if_pos h] at hc
    simp only [f_law_cask, dFn_eq, start_eq]
    simp -implicitDefEqProofs [lenD, hl, ltD, cmpI, h, ixD, hc, q5, p1, q4, hz, intD, p2, q6, q1, q2, q3, q7, q8, sized_of]
  · rw [if_neg h] at hc
    subst hc
    simp -implicitDefEqProofs at q1 q2 q4 q5 q7 q8 hz
    simp only [f_law_cask, dFn_eq, start_eq]
    simp -implicitDefEqProofs [lenD, hl, ltD, cmpI, h, q5, p1, q4, hz, intD, p2, q6, q1, q2, q3, q7, q8, sized_of]
def bodyAt : DenS := sSeq (sAsg (dCall f_law_cask (aCons (dVar 0) (aCons (dVar 1) aNil))) (tgName 2)) (sSeq (sFor (iRange1 (aCons (dC (.int 4)) aNil)) (tgName 3) bodyTurn) sNext)
theorem bodyAt_eq : bodyAt = (sSeq (sAsg (dCall f_law_cask (aCons (dVar 0) (aCons (dVar 1) aNil))) (tgName 2)) (sSeq (sFor (iRange1 (aCons (dC (.int 4)) aNil)) (tgName 3) (sSeq (sAsg (dLc (iRange1 (aCons (dOp2 ixD (dLst (aCons (dCall f_law_tap (aCons (dVar 2) (aCons (dC (.int 9)) aNil))) (aCons (dC (.int 40)) aNil))) (dOpN intD (aCons (dOp2 eqD (dVar 3) (dC (.int 3))) aNil))) aNil)) (tgName 5) tYesD (dCall f_law_any_row (aCons (dVar 2) aNil)) [5]) (tgName 4)) (sSeq (sAsg (dTup (aCons (dOp2 ixD (dLst (aCons (dC (.str "termed")) (aCons (dC (.str "bare")) aNil))) (dCall f_law_tap (aCons (dVar 2) (aCons (dC (.int 2)) aNil)))) (aCons (dOp2 ixD (dLst (aCons (dC (.str "all")) (aCons (dC (.str "key")) aNil))) (dCall f_law_tap (aCons (dVar 2) (aCons (dC (.int 2)) aNil)))) aNil))) (tgName 6)) (sSeq (sAsg (dMake 5 M_Book_init_ (aCons (dOp2 ixD (dVar 6) (dC (.int 0))) (aCons (dOp2 ixD (dVar 6) (dC (.int 1))) (aCons (dVar 4) aNil)))) (tgName 7)) (sSeq (sAsg (dStrM joinD (dC (.str "\n")) (aCons (dOp2 addD (dLst (aCons (dStrM joinD (dC (.str " ")) (aCons (dVar 6) aNil)) aNil)) (dLc (iAny (dVar 4)) (tgName 9) tYesD (dCall f_law_row_line (aCons (dVar 9) aNil)) [9])) aNil)) (tgName 8)) (sSeq (sIf (dNotT (dTest (dCall (f_law_agree 6) (aCons (dLst (aCons (dCall f_show_book (aCons (dVar 7) aNil)) (aCons (dCall f_show_book (aCons (dVar 7) aNil)) aNil))) (aCons (dLst (aCons (dVar 8) (aCons (dVar 8) aNil))) aNil))))) (sSeq (sRet (dC (.bl false))) sNext) sNext) (sSeq (sIf (dNotT (dTest (dCall f_law_read_right (aCons (dVar 8) aNil)))) (sSeq (sRet (dC (.bl false))) sNext) sNext) (sSeq (sAsg (dTup (aCons (dOp2 ixD (dLst (aCons (dC (.str "termed")) (aCons (dC (.str "bare")) aNil))) (dCall f_law_tap (aCons (dVar 2) (aCons (dC (.int 2)) aNil)))) (aCons (dOp2 ixD (dLst (aCons (dC (.str "all")) (aCons (dC (.str "key")) aNil))) (dCall f_law_tap (aCons (dVar 2) (aCons (dC (.int 2)) aNil)))) aNil))) (tgName 10)) (sSeq (sAsg (dStrM joinD (dC (.str "\n")) (aCons (dOp2 addD (dLst (aCons (dStrM joinD (dC (.str " ")) (aCons (dVar 10) aNil)) aNil)) (dLc (iAny (dVar 4)) (tgName 9) tYesD (dCall f_law_row_line (aCons (dVar 9) aNil)) [9])) aNil)) (tgName 11)) (sSeq (sAsg (dOp2 ixD (dCall f_law_cases aNil) (dCall f_law_tap (aCons (dVar 2) (aCons (dC (.int 20)) aNil)))) (tgName 12)) (sSeq (sAsg (dLc (iAny (dCall f_law_cases aNil)) (tgName 14) tYesD (dOp2 addD (dVar 14) (dCall f_law_told (aCons (dOp2 addD (dLst (aCons (dOp2 addD (dVar 12) (dTup (aCons (dC (.str "wait")) (aCons (dC (.str "nothing")) aNil)))) aNil)) (dVar 4)) (aCons (dVar 14) aNil)))) [14]) (tgName 13)) (sSeq (sAsg (dStrM joinD (dC (.str "\n")) (aCons (dOp2 addD (dLst (aCons (dStrM joinD (dC (.str " ")) (aCons (dVar 6) aNil)) aNil)) (dLc (iAny (dVar 13)) (tgName 9) tYesD (dCall f_law_row_line (aCons (dVar 9) aNil)) [9])) aNil)) (tgName 15)) (sSeq (sAsg (dLstS (aCons (dCall f_show_book (aCons (dMeth 5 ("in_form" : Str) M_Book_in_form (dVar 7) (aCons (dOp2 ixD (dVar 10) (dC (.int 0))) (aCons (dOp2 ixD (dVar 10) (dC (.int 1))) aNil))) aNil)) aNil)) (tgName 16)) (sSeq (sDrop (dAppend (dVar 16) (dCall f_show_book (aCons (dMeth 5 ("with_case" : Str) M_Book_with_case (dVar 7) (aCons (dVar 12) (aCons (dC (.str "wait")) (aCons (dC (.str "nothing")) aNil)))) aNil)))) (sSeq (sIf (dNotT (dTest (dCall (f_law_agree 6) (aCons (dVar 16) (aCons (dLst (aCons (dVar 11) (aCons (dVar 15) aNil))) aNil))))) (sSeq (sRet (dC (.bl false))) sNext) sNext) (sSeq (sFor (iRange1 (aCons (dC (.int 12)) aNil)) (tgName 17) (sSeq (sAsg (dCall f_law_bent_text (aCons (dVar 2) (aCons (dVar 8) aNil))) (tgName 18)) (sSeq (sAsg (dIfE (dTest (dOp2 eqD (dCall f_law_tap (aCons (dVar 2) (aCons (dC (.int 3)) aNil))) (dC (.int 0)))) (dCall f_law_bent_text (aCons (dVar 2) (aCons (dVar 18) aNil))) (dVar 18)) (tgName 18)) (sSeq (sIf (dNotT (dTest (dCall f_law_read_right (aCons (dVar 18) aNil)))) (sSeq (sRet (dC (.bl false))) sNext) sNext) sNext)))) sNext)))))))))))))))) sNext)) := rfl
theorem at_ok (ns : List Int) (k : Nat) (hk : k ≤ 3) (S : Sto) (a2 a3 a4 a5 a6 a7 a8 a9 a10 a11 a12 a13 a14 a15 a16 a17 a18 a19 a20 : Option D) : ∃ (b2 b3 b4 b5 b6 b7 b8 b9 b10 b11 b12 b13 b14 b15 b16 b17 b18 b19 b20 : Option D) (S' : Sto), bodyAt [some (.scr (ns.map .int)), some (.int k), a2, a3, a4, a5, a6, a7, a8, a9, a10, a11, a12, a13, a14, a15, a16, a17, a18, a19, a20] S = .ok (.nx [some (.scr (ns.map .int)), some (.int k), b2, b3, b4, b5, b6, b7, b8, b9, b10, b11, b12, b13, b14, b15, b16, b17, b18, b19, b20]) S' := by
  obtain ⟨o, e1, c1⟩ := law_cask ns k hk S
  obtain ⟨b3, b4, b5, b6, b7, b8, b9, b10, b11, b12, b13, b14, b15, b16, b17, b18, b19, b20, S2, e2, k2, c2⟩ := turns_ok (some (.scr (ns.map .int))) (some (.int k)) (rngD 0 4) 0 (S ++ [o]) a3 a4 a5 a6 a7 a8 a9 a10 a11 a12 a13 a14 a15 a16 a17 a18 a19 a20 (fun d hd => by obtain ⟨j, _, rfl⟩ := rng_mem hd; exact ⟨j, rfl⟩) c1 (by rw [rng_len]; omega)
  refine ⟨some (.ref S.length), b3, b4, b5, b6, b7, b8, b9, b10, b11, b12, b13, b14, b15, b16, b17, b18, b19, b20, S2, ?_⟩
  have r4 : rngR [.int 4] (S ++ [o]) = .ok (rngD 0 4) (S ++ [o]) := rfl
  have s1 : sAsg (dCall f_law_cask (aCons (dVar 0) (aCons (dVar 1) aNil))) (tgName 2) [some (.scr (ns.map .int)), some (.int k), a2, a3, a4, a5, a6, a7, a8, a9, a10, a11, a12, a13, a14, a15, a16, a17, a18, a19, a20] S = .ok (.nx [some (.scr (ns.map .int)), some (.int k), some (.ref S.length), a3, a4, a5, a6, a7, a8, a9, a10, a11, a12, a13, a14, a15, a16, a17, a18, a19, a20]) (S ++ [o]) := by
    simp -implicitDefEqProofs [e1]
  have s2 : sFor (iRange1 (aCons (dC (.int 4)) aNil)) (tgName 3) bodyTurn [some (.scr (ns.map .int)), some (.int k), some (.ref S.length), a3, a4, a5, a6, a7, a8, a9, a10, a11, a12, a13, a14, a15, a16, a17, a18, a19, a20] (S ++ [o]) = .ok (.nx [some (.scr (ns.map .int)), some (.int k), some (.ref S.length), b3, b4, b5, b6, b7, b8, b9, b10, b11, b12, b13, b14, b15, b16, b17, b18, b19, b20]) S2 := by
    rw [← e2]
    simp -implicitDefEqProofs [-loop_cons, r4]
  unfold bodyAt
  rw [seq_nx s1, seq_nx s2, e_sNext]
theorem ats_ok (ns : List Int) : ∀ (ds : List D) (S : Sto) (a1 a2 a3 a4 a5 a6 a7 a8 a9 a10 a11 a12 a13 a14 a15 a16 a17 a18 a19 a20 : Option D), (∀ d ∈ ds, ∃ k : Nat, k ≤ 3 ∧ d = .int k) → ∃ (b1 b2 b3 b4 b5 b6 b7 b8 b9 b10 b11 b12 b13 b14 b15 b16 b17 b18 b19 b20 : Option D) (S' : Sto), loopD (tgName 1) bodyAt ds [some (.scr (ns.map .int)), a1, a2, a3, a4, a5, a6, a7, a8, a9, a10, a11, a12, a13, a14, a15, a16, a17, a18, a19, a20] S = .ok (.nx [some (.scr (ns.map .int)), b1, b2, b3, b4, b5, b6, b7, b8, b9, b10, b11, b12, b13, b14, b15, b16, b17, b18, b19, b20]) S'
  | [], S, a1, a2, a3, a4, a5, a6, a7, a8, a9, a10, a11, a12, a13, a14, a15, a16, a17, a18, a19, a20, _ => ⟨a1, a2, a3, a4, a5, a6, a7, a8, a9, a10, a11, a12, a13, a14, a15, a16, a17, a18, a19, a20, S, rfl⟩
  | d :: ds, S, a1, a2, a3, a4, a5, a6, a7, a8, a9, a10, a11, a12, a13, a14, a15, a16, a17, a18, a19, a20, hd => by
    obtain ⟨k, hk, rfl⟩ := hd d List.mem_cons_self
    obtain ⟨b2, b3, b4, b5, b6, b7, b8, b9, b10, b11, b12, b13, b14, b15, b16, b17, b18, b19, b20, S1, e1⟩ := at_ok ns k hk S a2 a3 a4 a5 a6 a7 a8 a9 a10 a11 a12 a13 a14 a15 a16 a17 a18 a19 a20
    obtain ⟨g1, g2, g3, g4, g5, g6, g7, g8, g9, g10, g11, g12, g13, g14, g15, g16, g17, g18, g19, g20, S2, e2⟩ := ats_ok ns ds S1 (some (.int k)) b2 b3 b4 b5 b6 b7 b8 b9 b10 b11 b12 b13 b14 b15 b16 b17 b18 b19 b20 (fun x hx => hd x (List.mem_cons_of_mem _ hx))
    refine ⟨g1, g2, g3, g4, g5, g6, g7, g8, g9, g10, g11, g12, g13, g14, g15, g16, g17, g18, g19, g20, S2, ?_⟩
    rw [loop_cons, e_tgName, loopO_some]
    show loopK (tgName 1) bodyAt ds (bodyAt [some (.scr (ns.map .int)), some (.int k), a2, a3, a4, a5, a6, a7, a8, a9, a10, a11, a12, a13, a14, a15, a16, a17, a18, a19, a20] S) = _
    rw [e1, loopK_nx, e2]
def ttOdd : DenT := dNotT (dTest (dCall f_law_read_right (aCons (dVar 20) aNil)))
theorem lc_odd {ρ : Tok.Env} (h20 : 20 < ρ.length) : ∀ (ds : List D) (S : Sto), (∀ d ∈ ds, ∀ S, ∃ S', f_law_read_right [d] S = .ok (.bl true) S') → ∃ S', lcD (tgName 20) ttOdd (dVar 20) ds ρ S = .ok [] S'
  | [], S, _ => ⟨S, rfl⟩
  | d :: ds, S, h => by
    obtain ⟨S1, e1⟩ := h d List.mem_cons_self S
    obtain ⟨S2, e2⟩ := lc_odd h20 ds S1 fun x hx => h x (List.mem_cons_of_mem _ hx)
    refine ⟨S2, ?_⟩
    have e20 : (ρ.set 20 (some d))[20]? = some (some d) := by rw [List.getElem?_set_self h20]
    have et : ttOdd (ρ.set 20 (some d)) S = .ok false S1 := by
      unfold ttOdd
      simp -implicitDefEqProofs only [e_dNotT, e_dTest, e_dCall, e_aCons, e_dVar, e20, look_some, R.bind_ok, e_aNil, e1, asB_ok, Bool.not_true]
    rw [lcD_cons, e_tgName, lcOne_some, et, bindN_ok, if_neg Bool.false_ne_true, e2]
def oddL : List D := [.non, .int 3, .bl true, .lst [], .tup [.str "termed all"], .str "", .str "\n", .str "termed all\n", .str "termed  all", .str " termed all"]
theorem odd_all : ∀ d ∈ oddL, ∀ S, ∃ S', f_law_read_right [d] S = .ok (.bl true) S' := by
  have st : ∀ t : Str, t.length ≤ 100 → ∀ S, ∃ S', f_law_read_right [.str t] S = .ok (.bl true) S' := fun t ht S => by
    obtain ⟨S', e, _⟩ := read_right (t := t) (by show t.length ≤ 400000; omega) S
    exact ⟨S', e⟩
  intro d hd S
  simp only [oddL, List.mem_cons, List.not_mem_nil, or_false] at hd
  rcases hd with rfl | rfl | rfl | rfl | rfl | rfl | rfl | rfl | rfl | rfl
  · exact ⟨S, odd_right (fun S => rfl) S⟩
  · exact ⟨S, odd_right (fun S => rfl) S⟩
  · exact ⟨S, odd_right (fun S => rfl) S⟩
  · exact ⟨S, odd_right (fun S => rfl) S⟩
  · exact ⟨S, odd_right (fun S => rfl) S⟩
  · exact st _ (by decide +kernel) S
  · exact st _ (by decide +kernel) S
  · exact st _ (by decide +kernel) S
  · exact st _ (by decide +kernel) S
  · exact st _ (by decide +kernel) S
def restL : DenS := (sSeq (sAsg (dLst (aCons (dC .non) (aCons (dC (.int 3)) (aCons (dC (.bl true)) (aCons (dLst aNil) (aCons (dTup (aCons (dC (.str "termed all")) aNil)) (aCons (dC (.str "")) (aCons (dC (.str "\n")) (aCons (dC (.str "termed all\n")) (aCons (dC (.str "termed  all")) (aCons (dC (.str " termed all")) aNil))))))))))) (tgName 19)) (sSeq (sRet (dAnd (dOp2 eqD (dLc (iAny (dVar 19)) (tgName 20) (dNotT (dTest (dCall f_law_read_right (aCons (dVar 20) aNil)))) (dVar 20) [20]) (dLst aNil)) (dCall f_law_no_book_right aNil))) sNext))
theorem rest_ok (a1 a2 a3 a4 a5 a6 a7 a8 a9 a10 a11 a12 a13 a14 a15 a16 a17 a18 a19 a20 : Option D) (a0 : Option D) (S : Sto) : ∃ S', restL [a0, a1, a2, a3, a4, a5, a6, a7, a8, a9, a10, a11, a12, a13, a14, a15, a16, a17, a18, a19, a20] S = .ok (.rt (.bl true)) S' := by
  obtain ⟨S1, e1⟩ := lc_odd (ρ := [a0, a1, a2, a3, a4, a5, a6, a7, a8, a9, a10, a11, a12, a13, a14, a15, a16, a17, a18, some (.lst oddL), none]) (by simp) oddL S odd_all
  refine ⟨S1, ?_⟩
  have z : oddL.length ≤ sizeLine := by decide
  have e2 := no_book S1
  have eo : D.lst oddL = .lst [.non, .int 3, .bl true, .lst [], .tup [.str "termed all"], .str "", .str "\n", .str "termed all\n", .str "termed  all", .str " termed all"] := rfl
  unfold ttOdd at e1
  have z10 : 10 ≤ sizeLine := by decide
  have eq0 : ∀ S, eqD S (.lst []) (.lst []) = some (.bl true) := fun S => rfl
  unfold oddL at e1
  simp -implicitDefEqProofs [-lcD_cons, -lcD_nil, restL, sized_of, e_dLc, z10, wipeD, e1, eq0, e2]
theorem law_true : ∀ ns : List Int, ns.length ≤ 63 → ∃ S', f_law [.scr (ns.map .int)] [] = .ok (.bl true) S' := by
  intro ns hns
  obtain ⟨n, mm, h1, h2, hn⟩ : ∃ (n : Nat) (mm : Int), (∀ S, minD S [.int 3, .int (ns.length : Int)] = some (.int mm)) ∧ (∀ S, maxD S [.int 1, .int mm] = some (.int (n : Int))) ∧ n ≤ 3 := by
    by_cases c : ns.length < 3
    · by_cases c2 : ns.length ≤ 1
      · exact ⟨1, ns.length, fun S => by have : (ns.length : Int) < 3 := by omega
                                         simp [minD, this], fun S => by have : ¬ ((1 : Int) < ns.length) := by omega
                                                                        simp [maxD, this], by omega⟩
      · exact ⟨ns.length, ns.length, fun S => by have : (ns.length : Int) < 3 := by omega
                                                 simp [minD, this], fun S => by have : ((1 : Int) < ns.length) := by omega
                                                                                simp [maxD, this], by omega⟩
    · exact ⟨3, 3, fun S => by have : ¬ ((ns.length : Int) < 3) := by omega
                               simp [minD, this], fun S => by simp [maxD], by omega⟩
  have hd : ∀ d ∈ rngD 0 n, ∃ k : Nat, k ≤ 3 ∧ d = .int k := fun d hd => by
    obtain ⟨k, hk, rfl⟩ := rng_mem hd
    exact ⟨k, by omega, rfl⟩
  obtain ⟨b1, b2, b3, b4, b5, b6, b7, b8, b9, b10, b11, b12, b13, b14, b15, b16, b17, b18, b19, b20, S1, e1⟩ := ats_ok ns (rngD 0 n) [] none none none none none none none none none none none none none none none none none none none none hd
  obtain ⟨S2, e2⟩ := rest_ok b1 b2 b3 b4 b5 b6 b7 b8 b9 b10 b11 b12 b13 b14 b15 b16 b17 b18 b19 b20 (some (.scr (ns.map .int))) S1
  refine ⟨S2, ?_⟩
  have hr : rngR [.int (n : Int)] [] = .ok (rngD 0 n) [] := rngR_nat (by omega)
  have hl : (ns.map D.int).length = ns.length := by simp
  have hf : f_law = dFn 21 (sSeq (sFor (iRange1 (aCons (dOpN maxD (aCons (dC (.int 1)) (aCons (dOpN minD (aCons (dC (.int 3)) (aCons (dOpN lenD (aCons (dVar 0) aNil)) aNil))) aNil))) aNil)) (tgName 1) bodyAt) restL) := rfl
  have s1 : sFor (iRange1 (aCons (dOpN maxD (aCons (dC (.int 1)) (aCons (dOpN minD (aCons (dC (.int 3)) (aCons (dOpN lenD (aCons (dVar 0) aNil)) aNil))) aNil))) aNil)) (tgName 1) bodyAt [some (.scr (ns.map .int)), none, none, none, none, none, none, none, none, none, none, none, none, none, none, none, none, none, none, none, none] [] = .ok (.nx [some (.scr (ns.map .int)), b1, b2, b3, b4, b5, b6, b7, b8, b9, b10, b11, b12, b13, b14, b15, b16, b17, b18, b19, b20]) S1 := by
    rw [← e1]
    simp -implicitDefEqProofs [-loop_cons, lenD, hl, h1, h2, hr]
  rw [hf, dFn_eq]
  show fin (sSeq _ restL [some (.scr (ns.map .int)), none, none, none, none, none, none, none, none, none, none, none, none, none, none, none, none, none, none, none, none] []) = _
  rw [seq_nx s1, e2]
  rfl
end K50
open PySem PySem.W PyProof.Rows
set_option maxRecDepth 100000 in
set_option maxHeartbeats 0 in
theorem PySem.Challenge.cw_tokenreads_k50_texts_of_books_holds : PySem.Challenge.rw_tokenreads_k50_texts_of_books.Holds := by
  w_on; o_law; k_head; (case hw => w_witness2)
  k_fill
  refine K50.walk (l := PySem.Challenge.rw_tokenreads_k50_texts_of_books) rfl rfl (fun w h Y => PySem.W.kIn_of Y) ?F
  case F =>
    intro w mg fa h KX G hmg
    refine' K50.all_mk K50.law_true KX G hmg ?q0 ?q1 ?q2 ?q3 ?q4 ?q5 ?q6 ?q7 ?q8 ?q9 ?q10 ?q11 ?q12 ?q13 ?q14 ?q15 ?q16 ?q17 ?q18 ?q19 ?q20 ?q21 ?q22 ?q23 ?q24 ?q25 ?q26 ?q27 ?q28 ?q29 ?q30 ?q31 ?q32 ?q33 ?q34 ?q35 ?q36 ?q37 ?q38 ?q39 ?q40 ?q41 ?q42 ?q43 ?q44 ?q45 ?q46 ?q47 ?q48 ?q49 ?q50 ?q51 ?q52 ?q53 ?q54 ?q55 ?q56 ?q57 ?q58 ?q59 ?q60 ?q61 ?q62 ?q63 ?q64 ?q65 ?q66 ?q67 ?q68 ?q69 ?q70 ?q71 ?q72 ?q73 ?q74 ?q75 ?q76 ?q77 ?q78 ?q79 ?q80 ?q81 ?q82 ?q83 ?q84 ?q85 ?q86 ?q87 ?q88 ?q89 ?q90 ?q91 ?q92 ?q93 ?q94 ?q95 ?q96 ?q97 ?q98 ?q99 ?q100 ?q101 ?q102 ?q103 ?q104 ?q105 ?q106 ?q107 ?q108 ?q109 ?q110 ?q111 ?q112 ?q113 ?q114 ?q115 ?q116 ?q117 ?q118 ?q119 ?q120 ?q121 ?q122 ?q123 ?q124 ?q125 ?q126 ?q127 ?q128 ?q129 ?q130 ?q131 ?q132 ?q133 ?q134 ?q135 ?q136 ?q137 ?q138 ?q139 ?q140 ?q141 ?q142 ?q143 ?q144 ?q145 ?q146 ?q147 ?q148 ?q149 ?q150 ?q151 ?q152 ?q153 ?q154 ?q155 ?q156 ?q157 ?q158 ?q159 ?q160 ?q161 ?q162 ?q163 ?q164 ?q165 ?q166 ?q167 ?q168 ?q169 ?q170 ?q171 ?q172 ?q173 ?q174 ?q175 ?q176 ?q177 ?q178 ?q179 ?q180 ?q181 ?q182 ?q183 ?q184 ?q185 ?q186 ?q187 ?q188 ?q189 ?q190 ?q191 ?q192 ?q193 ?q194 ?q195 ?q196 ?q197 ?q198 ?q199 ?q200 ?q201 ?q202 ?q203 ?q204 ?q205 ?q206 ?q207 ?q208 ?q209 ?q210 ?q211 ?q212 ?q213 ?q214 ?q215 ?q216 ?q217 ?q218 ?q219 ?q220 ?q221 ?q222 ?q223 ?q224 ?q225 ?q226 ?q227 ?q228 ?q229 ?q230 ?q231 ?q232 ?q233 ?q234 ?q235 ?q236 ?q237 ?q238 ?q239 ?q240 ?q241 ?q242 ?q243 ?q244 ?q245 ?q246 ?q247 ?q248 ?q249 ?q250 ?q251 ?q252 ?q253 ?q254 ?q255 ?q256 ?q257 ?q258 ?q259 ?q260 ?q261 ?q262 ?q263 ?q264 ?q265 ?q266 ?q267 ?q268 ?q269 ?q270 ?q271 ?q272 ?q273 ?q274 ?q275 ?q276 ?q277 ?q278 ?q279
    (case q0 => k_is); (case q1 => k_is); (case q2 => k_is); (case q3 => k_is); (case q4 => k_is); (case q5 => k_is)
    (case q6 => k_is); (case q7 => k_is); (case q8 => k_is); (case q9 => k_is); (case q10 => k_is); (case q11 => k_is)
    (case q12 => k_is); (case q13 => k_is); (case q14 => k_is); (case q15 => k_is); (case q16 => k_is); (case q17 => k_is)
    (case q18 => k_is); (case q19 => k_is); (case q20 => k_is); (case q21 => k_is); (case q22 => k_is); (case q23 => k_is)
    (case q24 => k_is); (case q25 => k_is); (case q26 => k_is); (case q27 => k_is); (case q28 => k_is); (case q29 => k_is)
    (case q30 => k_is); (case q31 => k_is); (case q32 => k_is); (case q33 => k_is); (case q34 => k_is); (case q35 => k_is)
    (case q36 => k_is); (case q37 => k_is); (case q38 => k_is); (case q39 => k_is); (case q40 => k_is); (case q41 => k_is)
    (case q42 => k_is); (case q43 => k_is); (case q44 => k_is); (case q45 => k_is); (case q46 => k_is); (case q47 => k_is)
    (case q48 => k_is); (case q49 => k_is); (case q50 => k_is); (case q51 => k_is); (case q52 => k_is); (case q53 => k_is)
    (case q54 => k_is); (case q55 => k_is); (case q56 => k_is); (case q57 => k_is); (case q58 => k_is); (case q59 => k_is)
    (case q60 => k_is); (case q61 => k_is); (case q62 => k_is); (case q63 => k_is); (case q64 => k_is); (case q65 => k_is)
    (case q66 => k_is); (case q67 => k_is); (case q68 => k_is); (case q69 => k_is); (case q70 => k_is); (case q71 => k_is)
    (case q72 => k_is); (case q73 => k_is); (case q74 => k_is); (case q75 => k_is); (case q76 => k_is); (case q77 => k_is)
    (case q78 => k_is); (case q79 => k_is); (case q80 => k_is); (case q81 => k_is); (case q82 => k_is); (case q83 => k_is)
    (case q84 => k_is); (case q85 => k_is); (case q86 => k_is); (case q87 => k_is); (case q88 => k_is); (case q89 => k_is)
    (case q90 => k_is); (case q91 => k_is); (case q92 => k_is); (case q93 => k_is); (case q94 => k_is); (case q95 => k_is)
    (case q96 => k_is); (case q97 => k_is); (case q98 => k_is); (case q99 => k_is); (case q100 => k_is); (case q101 => k_is)
    (case q102 => k_is); (case q103 => k_is); (case q104 => k_is); (case q105 => k_is); (case q106 => k_is); (case q107 => k_is)
    (case q108 => k_is); (case q109 => k_is); (case q110 => k_is); (case q111 => k_is); (case q112 => k_is); (case q113 => k_is)
    (case q114 => k_is); (case q115 => k_is); (case q116 => k_is); (case q117 => k_is); (case q118 => k_is); (case q119 => k_is)
    (case q120 => k_is); (case q121 => k_is); (case q122 => k_is); (case q123 => k_is); (case q124 => k_is); (case q125 => k_is)
    (case q126 => k_is); (case q127 => k_is); (case q128 => k_is); (case q129 => k_is); (case q130 => k_is); (case q131 => k_is)
    (case q132 => k_is); (case q133 => k_is); (case q134 => k_is); (case q135 => k_is); (case q136 => k_is); (case q137 => k_is)
    (case q138 => k_is); (case q139 => k_is); (case q140 => k_is); (case q141 => k_is); (case q142 => k_is); (case q143 => k_is)
    (case q144 => k_is); (case q145 => k_is); (case q146 => k_is); (case q147 => k_is); (case q148 => k_is); (case q149 => k_is)
    (case q150 => k_is); (case q151 => k_is); (case q152 => k_is); (case q153 => k_is); (case q154 => k_is); (case q155 => k_is)
    (case q156 => k_is); (case q157 => k_is); (case q158 => k_is); (case q159 => k_is); (case q160 => k_is); (case q161 => k_is)
    (case q162 => k_is); (case q163 => k_is); (case q164 => k_is); (case q165 => k_is); (case q166 => k_is); (case q167 => k_is)
    (case q168 => k_is); (case q169 => k_is); (case q170 => k_is); (case q171 => k_is); (case q172 => k_is); (case q173 => k_is)
    (case q174 => k_is); (case q175 => k_is); (case q176 => k_is); (case q177 => k_is); (case q178 => k_is); (case q179 => k_is)
    (case q180 => k_is); (case q181 => k_is); (case q182 => k_is); (case q183 => k_is); (case q184 => k_is); (case q185 => k_is)
    (case q186 => k_is); (case q187 => k_is); (case q188 => k_is); (case q189 => k_is); (case q190 => k_is); (case q191 => k_is)
    (case q192 => k_is); (case q193 => k_is); (case q194 => k_is); (case q195 => k_is); (case q196 => k_is); (case q197 => k_is)
    (case q198 => k_is); (case q199 => k_is); (case q200 => k_is); (case q201 => k_is); (case q202 => k_is); (case q203 => k_is)
    (case q204 => k_is); (case q205 => k_is); (case q206 => k_is); (case q207 => k_is); (case q208 => k_is); (case q209 => k_is)
    (case q210 => k_is); (case q211 => k_is); (case q212 => k_is); (case q213 => k_is); (case q214 => k_is); (case q215 => k_is)
    (case q216 => k_is); (case q217 => k_is); (case q218 => k_is); (case q219 => k_is); (case q220 => k_is); (case q221 => k_is)
    (case q222 => k_is); (case q223 => k_is); (case q224 => k_is); (case q225 => k_is); (case q226 => k_is); (case q227 => k_is)
    (case q228 => k_is); (case q229 => k_is); (case q230 => k_is); (case q231 => k_is); (case q232 => k_is); (case q233 => k_is)
    (case q234 => k_is); (case q235 => k_is); (case q236 => k_is); (case q237 => k_is); (case q238 => k_is); (case q239 => k_is)
    (case q240 => k_is); (case q241 => k_is); (case q242 => k_is); (case q243 => k_is); (case q244 => k_is); (case q245 => k_is)
    (case q246 => k_is); (case q247 => k_is); (case q248 => k_is); (case q249 => k_is); (case q250 => k_is); (case q251 => k_is)
    (case q252 => k_is); (case q253 => k_is); (case q254 => k_is); (case q255 => k_is); (case q256 => k_is); (case q257 => k_is)
    (case q258 => k_is); (case q259 => k_is); (case q260 => k_is); (case q261 => k_is); (case q262 => k_is); (case q263 => k_is)
    (case q264 => k_is); (case q265 => k_is); (case q266 => k_is); (case q267 => k_is); (case q268 => k_is); (case q269 => k_is)
    (case q270 => k_is); (case q271 => k_exc); (case q272 => k_exc); (case q273 => k_is); (case q274 => k_is); (case q275 => k_is)
    (case q276 => k_is); (case q277 => k_is); (case q278 => k_is); (case q279 => k_is)
