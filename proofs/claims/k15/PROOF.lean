import PyProof.Rows.All
import Wide.All
import OpenK.AllK
import Wide.FinOn
import KE.KStateDown
import HandS.ForMost
import HandS.ForExc
import HandS.Defaults
import HandS.HeadHook2
import HandS.IsInst
import HandS.Star
import HandS.Wide
import HandS.WideBits
import KE.DataEq
import HandS.Style
import HandS.More
import KE.KExcIs
import HandS.ExcInit
import HandS.HeadEnd
import HandS.Head0
import HandS.Head1
import HandS.Head2
import PySem.Challenge.RW_mendsizes_k15_primes_of_numbers
set_option Elab.async false
set_option linter.all false
set_option maxRecDepth 100000
set_option autoImplicit false
set_option maxHeartbeats 4000000
/-! MS0: data without a heap (D), what stands for it in the abstract heap (Rep), the frame's relation (FR), the meaning of expressions as functions. -/
namespace MS
open PySem PySem.Spec PyProof.Rows L2

inductive D where
  | non | bl (b : Bool) | int (i : Int) | str (x : Str)
  | lst (xs : List D) | tup (xs : List D) | dic (kvs : List (Key × D))
  | obj (C : String) (fs : List (String × D)) | exc (C : String) (fs : List (String × D))
  | glo (x : String) | ty (n : String) | pen | lam (c : Nat) (cap : List D)
instance : Inhabited D := ⟨.non⟩

/-- an exception's object, held as a value -/
def ExT (a C : Addr) (d : Option Addr) : HO := .ext fun h => ∃ (oe : Obj) (vs : Array Value), h.get? a = some oe ∧ Zc (.ref C) d oe ∧ oe.data = .fields vs

mutual
inductive Rep (K : PySem.W.Frag) (pa : Addr) (H : Hp) : V → D → Prop
  | non : Rep K pa H .non .non
  | bl (b : Bool) : Rep K pa H (.bl b) (.bl b)
  | int (i : Int) : Rep K pa H (.int i) (.int i)
  | str (x : Str) : Rep K pa H (.str x) (.str x)
  | lst {a : Addr} {vs : List V} {xs : List D} : H a = some (.lst vs) → RepL K pa H vs xs → Rep K pa H (.ref a) (.lst xs)
  | tup {a : Addr} {vs : List V} {xs : List D} : SqT K H a vs → RepL K pa H vs xs → Rep K pa H (.ref a) (.tup xs)
  | dic {a : Addr} {kvs : List (Key × V)} {ds : List (Key × D)} : H a = some (.dK kvs) → kvs.map (·.1) = ds.map (·.1) → RepL K pa H (kvs.map (·.2)) (ds.map (·.2)) → Rep K pa H (.ref a) (.dic ds)
  | obj {a dx : Addr} {C : String} {fvs : List (Str × V)} {fs : List (String × D)} : H a = some (.ins (He.ga K (Str.ofString C)) dx fvs) → fvs.map (·.1) = fs.map (fun q => Str.ofString q.1) →
      RepL K pa H (fvs.map (·.2)) (fs.map (·.2)) → Rep K pa H (.ref a) (.obj C fs)
  | exc0 {a : Addr} {C : String} : H a = some (ExT a (He.ga K (Str.ofString C)) none) → Rep K pa H (.ref a) (.exc C [])
  | exc1 {a dd : Addr} {C : String} {fvs : List (Str × V)} {fs : List (String × D)} : H a = some (ExT a (He.ga K (Str.ofString C)) (some dd)) → H dd = some (.xd fvs) → fvs.map (·.1) = fs.map (fun q => Str.ofString q.1) →
      RepL K pa H (fvs.map (·.2)) (fs.map (·.2)) → Rep K pa H (.ref a) (.exc C fs)
  | glo (x : String) : Rep K pa H (.ref (He.ga K (Str.ofString x))) (.glo x)
  | ty (n : String) : Rep K pa H (.ty n) (.ty n)
  | pen : Rep K pa H (.ref pa) .pen
inductive RepL (K : PySem.W.Frag) (pa : Addr) (H : Hp) : List V → List D → Prop
  | nil : RepL K pa H [] []
  | cons {v : V} {d : D} {vs : List V} {ds : List D} : Rep K pa H v d → RepL K pa H vs ds → RepL K pa H (v :: vs) (d :: ds)
end

section
variable {K : PySem.W.Frag} {pa : Addr} {H H' : Hp}
theorem sqt_same {a : Addr} {xs : List V} (e : Same H H') (h : SqT K H a xs) : SqT K H' a xs := by
  rcases h with h | h
  · rcases h with h | ⟨o, h⟩
    · exact .inl (.inl (e _ _ h))
    · exact .inl (.inr ⟨o, e _ _ h⟩)
  · exact .inr h
mutual
theorem Rep.mono (e : Same H H') : ∀ {v : V} {d : D}, Rep K pa H v d → Rep K pa H' v d
  | _, _, .non => .non
  | _, _, .bl b => .bl b
  | _, _, .int i => .int i
  | _, _, .str x => .str x
  | _, _, .lst h r => .lst (e _ _ h) (RepL.mono e r)
  | _, _, .tup h r => .tup (sqt_same e h) (RepL.mono e r)
  | _, _, .dic h n r => .dic (e _ _ h) n (RepL.mono e r)
  | _, _, .obj h n r => .obj (e _ _ h) n (RepL.mono e r)
  | _, _, .exc0 h => .exc0 (e _ _ h)
  | _, _, .exc1 h h2 n r => .exc1 (e _ _ h) (e _ _ h2) n (RepL.mono e r)
  | _, _, .glo x => .glo x
  | _, _, .ty n => .ty n
  | _, _, .pen => .pen
theorem RepL.mono (e : Same H H') : ∀ {vs : List V} {ds : List D}, RepL K pa H vs ds → RepL K pa H' vs ds
  | _, _, .nil => .nil
  | _, _, .cons h r => .cons (Rep.mono e h) (RepL.mono e r)
end
theorem RepL.length : ∀ {vs : List V} {ds : List D}, RepL K pa H vs ds → vs.length = ds.length
  | _, _, .nil => rfl
  | _, _, .cons _ r => congrArg Nat.succ (RepL.length r)
theorem RepL.get : ∀ {vs : List V} {ds : List D} {i : Nat} {d : D}, RepL K pa H vs ds → ds[i]? = some d → ∃ v, vs[i]? = some v ∧ Rep K pa H v d
  | _, _, _, _, .nil, e => by simp at e
  | _, _, 0, _, .cons (v := v) h _, e => ⟨v, rfl, by simp at e; subst e; exact h⟩
  | _, _, i + 1, d, .cons _ r, e => by
    obtain ⟨v, h1, h2⟩ := RepL.get (i := i) (d := d) r (by simpa using e)
    exact ⟨v, by simpa using h1, h2⟩
theorem RepL.getV : ∀ {vs : List V} {ds : List D} {i : Nat} {v : V}, RepL K pa H vs ds → vs[i]? = some v → ∃ d, ds[i]? = some d ∧ Rep K pa H v d
  | _, _, _, _, .nil, e => by simp at e
  | _, _, 0, _, .cons (d := d) h _, e => ⟨d, rfl, by simp at e; subst e; exact h⟩
  | _, _, i + 1, v, .cons _ r, e => by
    obtain ⟨d, h1, h2⟩ := RepL.getV (i := i) (v := v) r (by simpa using e)
    exact ⟨d, by simpa using h1, h2⟩
theorem RepL.append : ∀ {vs ws : List V} {ds es : List D}, RepL K pa H vs ds → RepL K pa H ws es → RepL K pa H (vs ++ ws) (ds ++ es)
  | _, _, _, _, .nil, s => s
  | _, _, _, _, .cons h r, s => .cons h (RepL.append r s)
theorem RepL.set {v : V} {d : D} (h : Rep K pa H v d) : ∀ {vs : List V} {ds : List D} (i : Nat), RepL K pa H vs ds → RepL K pa H (vs.set i v) (ds.set i d)
  | _, _, _, .nil => .nil
  | _, _, 0, .cons _ r => .cons h r
  | _, _, i + 1, .cons q r => .cons q (RepL.set h i r)
theorem RepL.take : ∀ {vs : List V} {ds : List D} (n : Nat), RepL K pa H vs ds → RepL K pa H (vs.take n) (ds.take n)
  | _, _, 0, _ => .nil
  | _, _, _ + 1, .nil => .nil
  | _, _, n + 1, .cons q r => .cons q (RepL.take n r)
theorem RepL.drop : ∀ {vs : List V} {ds : List D} (n : Nat), RepL K pa H vs ds → RepL K pa H (vs.drop n) (ds.drop n)
  | _, _, 0, r => r
  | _, _, _ + 1, .nil => .nil
  | _, _, n + 1, .cons _ r => RepL.drop n r
end

/-! ### hidden addresses -/
open Classical in
noncomputable def hide (S : Addr → Prop) (H : Hp) : Hp := fun a => if S a then none else H a
theorem hide_of {S : Addr → Prop} {H : Hp} {a : Addr} (h : ¬ S a) : hide S H a = H a := by unfold hide; rw [if_neg h]
theorem hide_some {S : Addr → Prop} {H : Hp} {a : Addr} {o : HO} (h : hide S H a = some o) : ¬ S a ∧ H a = some o := by
  unfold hide at h
  split at h
  · cases h
  · exact ⟨‹_›, h⟩
theorem hide_le {S : Addr → Prop} {H : Hp} : Same (hide S H) H := fun _ _ h => (hide_some h).2
theorem hide_anti {S T : Addr → Prop} {H : Hp} (h : ∀ a, S a → T a) : Same (hide T H) (hide S H) := fun a _ e => by
  obtain ⟨n, q⟩ := hide_some e
  rw [hide_of (fun z => n (h a z))]
  exact q
theorem hide_same {S : Addr → Prop} {H H' : Hp} (e : ∀ a o, ¬ S a → H a = some o → H' a = some o) : Same (hide S H) (hide S H') := fun a o h => by
  obtain ⟨n, q⟩ := hide_some h
  rw [hide_of n]
  exact e a o n q
def Dom (S : Addr → Prop) (H : Hp) : Prop := ∀ a, S a → ∃ o, H a = some o
theorem hide_new {S : Addr → Prop} {H : Hp} {a : Addr} {o : HO} (d : Dom S H) (h : H a = none) : hide S (upd H a o) a = some o := by
  rw [hide_of, upd_same]
  intro z
  obtain ⟨u, e⟩ := d a z
  rw [h] at e
  cases e
theorem same_upd {H : Hp} {a : Addr} {o : HO} (h : H a = none) : Same H (upd H a o) := fun b u e => by
  rw [upd_ne (ne_of_none e h)]
  exact e
theorem Dom.same {S : Addr → Prop} {H H' : Hp} (d : Dom S H) (e : Same H H') : Dom S H' := fun a z => by
  obtain ⟨o, q⟩ := d a z
  exact ⟨o, e _ _ q⟩

/-! ### frames -/
inductive Sl where
  | emp | im (d : D) | own (xs : List D) | slf (C : String) (fs : List (String × D))
abbrev En := List Sl
abbrev Pn := List D
inductive Ou where
  | val (d : D) | exc (C : String) (fs : List (String × D))
inductive OutL where
  | vals (ds : List D) | exc (C : String) (fs : List (String × D))
abbrev EM := En → Pn → Option (Ou × Pn)
/-- what a run of a def is over: the written part, the hidden addresses, the pen's list, the heap at the entry -/
structure FX where
  K : PySem.W.Frag
  S : Addr → Prop
  pa : Addr
  H0 : Hp
/-- owned by a slot -/
def Ow (σ : L2.St) (env : En) (a : Addr) : Prop := ∃ i : Nat, σ[i]? = some (some (.ref a)) ∧ ((∃ xs, env[i]? = some (.own xs)) ∨ ∃ C fs, env[i]? = some (.slf C fs))
def HS (F : FX) (σ : L2.St) (env : En) : Addr → Prop := fun a => F.S a ∨ Ow σ env a
noncomputable abbrev hd (F : FX) (σ : L2.St) (env : En) (H : Hp) : Hp := hide (HS F σ env) H
structure FR (F : FX) (σ : L2.St) (H : Hp) (env : En) (p : Pn) : Prop where
  len : σ.length = env.length
  base : ∀ b o, b ≠ F.pa → F.H0 b = some o → H b = some o
  sdom : Dom F.S H
  spa : F.S F.pa
  im : ∀ (i : Nat) (d : D), env[i]? = some (.im d) → ∃ v, σ[i]? = some (some v) ∧ Rep F.K F.pa (hd F σ env H) v d
  own : ∀ (i : Nat) (xs : List D), env[i]? = some (.own xs) → ∃ a vs, σ[i]? = some (some (.ref a)) ∧ H a = some (.lst vs) ∧ RepL F.K F.pa (hd F σ env H) vs xs ∧ F.H0 a = none ∧ ¬ F.S a
  slf : ∀ (i : Nat) (C : String) (fs : List (String × D)), env[i]? = some (.slf C fs) → ∃ a dx fvs, σ[i]? = some (some (.ref a)) ∧ H a = some (.ins (He.ga F.K (Str.ofString C)) dx fvs) ∧ fvs.map (·.1) = fs.map (fun q => Str.ofString q.1) ∧ RepL F.K F.pa (hd F σ env H) (fvs.map (·.2)) (fs.map (·.2)) ∧ F.H0 a = none ∧ ¬ F.S a
  inj : ∀ (i j : Nat) (a : Addr), σ[i]? = some (some (.ref a)) → σ[j]? = some (some (.ref a)) → ((∃ xs, env[i]? = some (.own xs)) ∨ ∃ C fs, env[i]? = some (.slf C fs)) → ((∃ xs, env[j]? = some (.own xs)) ∨ ∃ C fs, env[j]? = some (.slf C fs)) → i = j
  pen : ∃ vs, H F.pa = some (.lst vs) ∧ RepL F.K F.pa (hd F σ env H) vs p
section
variable {F : FX} {σ : L2.St} {H H' : Hp} {env : En} {p p' : Pn}
theorem FR.dom (f : FR F σ H env p) : Dom (HS F σ env) H := fun a z => by
  rcases z with z | ⟨i, e, z⟩
  · exact f.sdom a z
  · rcases z with ⟨xs, z⟩ | ⟨C, fs, z⟩
    · obtain ⟨b, vs, e1, h, _⟩ := f.own i xs z
      rw [e] at e1
      cases e1
      exact ⟨_, h⟩
    · obtain ⟨b, dx, vs, e1, h, _⟩ := f.slf i C fs z
      rw [e] at e1
      cases e1
      exact ⟨_, h⟩
/-- all but the pen stays -/
def Kp (pa : Addr) (H H' : Hp) : Prop := ∀ b o, b ≠ pa → H b = some o → H' b = some o
theorem Kp.refl {pa : Addr} {H : Hp} : Kp pa H H := fun _ _ _ h => h
theorem Kp.trans {pa : Addr} {H H1 H2 : Hp} (a : Kp pa H H1) (b : Kp pa H1 H2) : Kp pa H H2 := fun c o n h => b c o n (a c o n h)
theorem _root_.L2.Same.kp {pa : Addr} {H H' : Hp} (e : Same H H') : Kp pa H H' := fun b o _ h => e b o h
theorem FR.visK (f : FR F σ H env p) {H1 H2 : Hp} (e : Kp F.pa H1 H2) : Same (hd F σ env H1) (hd F σ env H2) := hide_same fun a o n h => e a o (fun z => n (.inl (z ▸ f.spa))) h
theorem FR.vis (f : FR F σ H env p) {H1 H2 : Hp} (e : Same H1 H2) : Same (hd F σ env H1) (hd F σ env H2) := hide_same fun a o _ h => e a o h
theorem FR.own_ne (f : FR F σ H env p) {i : Nat} {xs : List D} {a : Addr} (z : env[i]? = some (.own xs)) (e : σ[i]? = some (some (.ref a))) : a ≠ F.pa := by
  obtain ⟨b, vs, e1, _, _, _, n⟩ := f.own i xs z
  rw [e] at e1
  cases e1
  exact fun q => n (q ▸ f.spa)
theorem FR.slf_ne (f : FR F σ H env p) {i : Nat} {C : String} {fs : List (String × D)} {a : Addr} (z : env[i]? = some (.slf C fs)) (e : σ[i]? = some (some (.ref a))) : a ≠ F.pa := by
  obtain ⟨b, dx, vs, e1, _, _, _, _, n⟩ := f.slf i C fs z
  rw [e] at e1
  cases e1
  exact fun q => n (q ▸ f.spa)
/-- the heap goes on, the pen may be another one -/
theorem FR.go (f : FR F σ H env p) (e : Kp F.pa H H') (hp : ∃ vs, H' F.pa = some (.lst vs) ∧ RepL F.K F.pa (hd F σ env H') vs p') : FR F σ H' env p' := by
  have v := f.visK e
  refine ⟨f.len, fun b o n h => e _ _ n (f.base b o n h), fun a z => ?_, f.spa, fun i d z => ?_, fun i xs z => ?_, fun i C fs z => ?_, f.inj, hp⟩
  · by_cases q : a = F.pa
    · obtain ⟨vs, h, _⟩ := hp
      exact ⟨_, q ▸ h⟩
    · obtain ⟨o, h⟩ := f.sdom a z
      exact ⟨o, e _ _ q h⟩
  · obtain ⟨x, h1, h2⟩ := f.im i d z
    exact ⟨x, h1, h2.mono v⟩
  · obtain ⟨a, vs, h1, h2, h3, h4⟩ := f.own i xs z
    exact ⟨a, vs, h1, e _ _ (f.own_ne z h1) h2, h3.mono v, h4⟩
  · obtain ⟨a, dx, vs, h1, h2, h3, h4, h5⟩ := f.slf i C fs z
    exact ⟨a, dx, vs, h1, e _ _ (f.slf_ne z h1) h2, h3, h4.mono v, h5⟩
theorem FR.grow (f : FR F σ H env p) (e : Same H H') : FR F σ H' env p := f.go e.kp (by
  obtain ⟨vs, h1, h2⟩ := f.pen
  exact ⟨vs, e _ _ h1, h2.mono (f.vis e)⟩)
end

/-! ### expressions -/
def XRep (K : PySem.W.Frag) (pa : Addr) (H : Hp) (d : Option Addr) (fs : List (String × D)) : Prop := match d with
  | none => fs = []
  | some dd => ∃ fvs : List (Str × V), H dd = some (.xd fvs) ∧ fvs.map (·.1) = fs.map (fun q => Str.ofString q.1) ∧ RepL K pa H (fvs.map (·.2)) (fs.map (·.2))
theorem XRep.mono {K : PySem.W.Frag} {pa : Addr} {H H' : Hp} (e : Same H H') {d : Option Addr} {fs : List (String × D)} (h : XRep K pa H d fs) : XRep K pa H' d fs := by
  cases d with
  | none => exact h
  | some dd =>
    obtain ⟨fvs, h1, h2, h3⟩ := h
    exact ⟨fvs, e _ _ h1, h2, h3.mono e⟩
/-- the end of an expression -/
def EV (F : FX) (W : WX) (σ : L2.St) (H : Hp) (env : En) (Q : VK) : Ou → Pn → Prop
  | .val d, p' => ∀ v H', FR F σ H' env p' → Kp F.pa H H' → Rep F.K F.pa (hd F σ env H') v d → Q v H'
  | .exc C fs, p' => ∀ d H', FR F σ H' env p' → Kp F.pa H H' → XRep F.K F.pa (hd F σ env H') d fs → W (.ref (He.ga F.K (Str.ofString C))) d σ H'
def tE (F : FX) (W : WX) (m : EM) : TE := fun σ H Q => ∃ env p out p', FR F σ H env p ∧ m env p = some (out, p') ∧ EV F W σ H env Q out p'
def EVT (F : FX) (W : WX) (σ : L2.St) (H : Hp) (env : En) (Q : Bool → Hp → Prop) : Ou → Pn → Prop
  | .val d, p' => ∃ b, d = .bl b ∧ ∀ H', FR F σ H' env p' → Kp F.pa H H' → Q b H'
  | .exc C fs, p' => ∀ d H', FR F σ H' env p' → Kp F.pa H H' → XRep F.K F.pa (hd F σ env H') d fs → W (.ref (He.ga F.K (Str.ofString C))) d σ H'
/-- a test -/
def tT (F : FX) (W : WX) (m : EM) : TT := fun σ H Q => ∃ env p out p', FR F σ H env p ∧ m env p = some (out, p') ∧ EVT F W σ H env Q out p'
def EVA (F : FX) (W : WX) (σ : L2.St) (H : Hp) (env : En) (Q : List V → Hp → Prop) : OutL → Pn → Prop
  | .vals ds, p' => ∀ vs H', FR F σ H' env p' → Kp F.pa H H' → RepL F.K F.pa (hd F σ env H') vs ds → Q vs H'
  | .exc C fs, p' => ∀ d H', FR F σ H' env p' → Kp F.pa H H' → XRep F.K F.pa (hd F σ env H') d fs → W (.ref (He.ga F.K (Str.ofString C))) d σ H'
abbrev AM := En → Pn → Option (OutL × Pn)
def tAr (F : FX) (W : WX) (m : AM) : TA := fun σ H Q => ∃ env p out p', FR F σ H env p ∧ m env p = some (out, p') ∧ EVA F W σ H env Q out p'

theorem _root_.L2.PE.imp {X : Cx} {e : Expr} {t t' : TE} (h : PE X e t) (i : ∀ σ H Q, t' σ H Q → t σ H Q) : PE X e t' := ⟨fun pins s σ H Q I z => h.run pins s σ H Q I (i σ H Q z)⟩
theorem _root_.L2.PT.imp {X : Cx} {e : Expr} {t t' : TT} (h : PT X e t) (i : ∀ σ H Q, t' σ H Q → t σ H Q) : PT X e t' := ⟨fun pins s σ H Q I z => h.run pins s σ H Q I (i σ H Q z)⟩
theorem _root_.L2.PW.imp {X : Cx} {e : Expr} {t t' : TT} (h : PW X e t) (i : ∀ σ H Q, t' σ H Q → t σ H Q) : PW X e t' := ⟨fun wh pins s σ H Q I z => h.run wh pins s σ H Q I (i σ H Q z)⟩
theorem _root_.L2.PA.imp {X : Cx} {es : List Expr} {t t' : TA} (h : PA X es t) (i : ∀ σ H Q, t' σ H Q → t σ H Q) : PA X es t' := ⟨fun pos pins s σ H Q I z => h.run pos pins s σ H Q I (i σ H Q z)⟩
theorem _root_.L2.PS.imp {X : Cx} {e : Stmt} {t t' : TS} (h : L2.PS X e t) (i : ∀ D σ H, t' D σ H → t D σ H) : L2.PS X e t' := ⟨fun pins s σ H D I z => h.run pins s σ H D I (i D σ H z)⟩
theorem _root_.L2.PSs.imp {X : Cx} {e : List Stmt} {t t' : TS} (h : PSs X e t) (i : ∀ D σ H, t' D σ H → t D σ H) : PSs X e t' := ⟨fun pins s σ H D I z => h.run pins s σ H D I (i D σ H z)⟩

/-- go on with a value -/
def bnd (r : Option (Ou × Pn)) (k : D → Pn → Option (Ou × Pn)) : Option (Ou × Pn) := match r with
  | some (.val d, p) => k d p
  | r => r
theorem bnd_val {d : D} {p : Pn} {k : D → Pn → Option (Ou × Pn)} : bnd (some (.val d, p)) k = k d p := rfl
theorem bnd_exc {C : String} {fs : List (String × D)} {p : Pn} {k : D → Pn → Option (Ou × Pn)} : bnd (some (.exc C fs, p)) k = some (.exc C fs, p) := rfl
theorem bnd_none {k : D → Pn → Option (Ou × Pn)} : bnd none k = none := rfl
def bndL (r : Option (OutL × Pn)) (k : List D → Pn → Option (Ou × Pn)) : Option (Ou × Pn) := match r with
  | some (.vals d, p) => k d p
  | some (.exc C fs, p) => some (.exc C fs, p)
  | none => none
theorem bndL_vals {d : List D} {p : Pn} {k : List D → Pn → Option (Ou × Pn)} : bndL (some (.vals d, p)) k = k d p := rfl
theorem bndL_exc {C : String} {fs : List (String × D)} {p : Pn} {k : List D → Pn → Option (Ou × Pn)} : bndL (some (.exc C fs, p)) k = some (.exc C fs, p) := rfl
/-- a value of data, no more -/
def okD (o : Option D) (p : Pn) : Option (Ou × Pn) := match o with
  | some d => some (.val d, p)
  | none => none

def mVar (i : Nat) : EM := fun env p => match env[i]? with
  | some (.im d) => some (.val d, p)
  | _ => none
def mC (d : D) : EM := fun _ p => some (.val d, p)
def m1 (g : D → Option D) (a : EM) : EM := fun env p => bnd (a env p) fun x p1 => okD (g x) p1
def m2 (g : D → D → Option D) (a b : EM) : EM := fun env p => bnd (a env p) fun x p1 => bnd (b env p1) fun y p2 => okD (g x y) p2
/-- go on by a truth value -/
def tst (c : EM) (k : Bool → EM) : EM := fun env p => bnd (c env p) fun x p1 => match x with
  | .bl b => k b env p1
  | _ => none
def mAnd (a b : EM) : EM := tst a fun c => if c = true then b else mC (.bl false)
def mOr (a b : EM) : EM := tst a fun c => if c = true then mC (.bl true) else b
def mNot (a : EM) : EM := m1 (fun x => match x with
  | .bl b => some (.bl (!b))
  | _ => none) a
def mIf (c a b : EM) : EM := tst c fun k => if k = true then a else b
def aNil : AM := fun _ p => some (.vals [], p)
def aCons (m : EM) (ms : AM) : AM := fun env p => match m env p with
  | some (.val d, p1) => (match ms env p1 with
    | some (.vals ds, p2) => some (.vals (d :: ds), p2)
    | r => r)
  | some (.exc C fs, p1) => some (.exc C fs, p1)
  | none => none
def mArgs (k : List D → Pn → Option (Ou × Pn)) (ms : AM) : EM := fun env p => bndL (ms env p) k

section
variable {X : Cx} {F : FX} {W : WX}
theorem EV.weaken {σ : L2.St} {H H1 : Hp} {env : En} {Q : VK} {o : Ou} {p : Pn} (e : Kp F.pa H H1) (h : EV F W σ H env Q o p) : EV F W σ H1 env Q o p := by
  cases o with
  | val d => exact fun v H' f s r => h v H' f (e.trans s) r
  | exc C fs => exact fun d H' f s r => h d H' f (e.trans s) r
theorem c_const {e : Expr} {v : V} {d : D} (h : PE X e (tC v)) (r : ∀ pa H, Rep F.K pa H v d) : PE X e (tE F W (mC d)) := h.imp fun σ H Q ⟨env, p, out, p', f, em, k⟩ => by
  cases em
  exact k v H f Kp.refl (r _ _)
theorem c_int {i : Int} {j pos} : PE X (.Constant (.int i) j pos) (tE F W (mC (.int i))) := c_const pe_int fun _ _ => .int i
theorem c_bl {b : Bool} {j pos} : PE X (.Constant (.bool b) j pos) (tE F W (mC (.bl b))) := c_const pe_bl fun _ _ => .bl b
theorem c_non {j pos} : PE X (.Constant .none j pos) (tE F W (mC .non)) := c_const pe_non fun _ _ => .non
theorem c_str {x : Str} {j pos} : PE X (.Constant (.str x) j pos) (tE F W (mC (.str x))) := c_const pe_str fun _ _ => .str x
theorem c_var {e : Expr} {i : Nat} (h : PE X e (tVar i)) : PE X e (tE F W (mVar i)) := h.imp fun σ H Q ⟨env, p, out, p', f, em, k⟩ => by
  unfold mVar at em
  split at em
  · rename_i d hd
    cases em
    obtain ⟨v, h1, h2⟩ := f.im i d hd
    exact ⟨v, h1, k v H f Kp.refl h2⟩
  · cases em
/-- one after another -/
theorem tE_bnd {m : EM} {k : D → EM} {σ : L2.St} {H : Hp} {Q R : VK} {env : En} {p : Pn} {out : Ou} {p' : Pn} (f : FR F σ H env p) (em : bnd (m env p) (fun d p1 => k d env p1) = some (out, p')) (ev : EV F W σ H env Q out p')
    (h : ∀ d p1 v H1, m env p = some (.val d, p1) → FR F σ H1 env p1 → Kp F.pa H H1 → Rep F.K F.pa (hd F σ env H1) v d → k d env p1 = some (out, p') → EV F W σ H1 env Q out p' → R v H1) : tE F W m σ H R := by
  cases q : m env p with
  | none =>
    rw [q] at em
    cases em
  | some r =>
    obtain ⟨o, p1⟩ := r
    cases o with
    | val d =>
      rw [q] at em
      exact ⟨env, p, .val d, p1, f, q, fun v H1 f1 s1 r1 => h d p1 v H1 q f1 s1 r1 em (ev.weaken s1)⟩
    | exc C fs =>
      rw [q] at em
      cases em
      exact ⟨env, p, .exc C fs, _, f, q, fun d H1 f1 s1 r1 => ev d H1 f1 s1 r1⟩
/-- an operator by its values -/
def R2D (K : PySem.W.Frag) (r : R2) (g : D → D → Option D) : Prop := ∀ (pa : Addr) (S : Addr → Prop) (H : Hp) (x y : V) (a b d : D) (Q : VK), Dom S H → Rep K pa (hide S H) x a → Rep K pa (hide S H) y b → g a b = some d →
  (∀ v H', Same H H' → Rep K pa (hide S H') v d → Q v H') → r x y H Q
theorem okD_eq {o : Option D} {p : Pn} {out : Ou} {p' : Pn} (h : okD o p = some (out, p')) : ∃ d, o = some d ∧ out = .val d ∧ p' = p := by
  cases o with
  | none => cases h
  | some d =>
    cases h
    exact ⟨d, rfl, rfl, rfl⟩
theorem i_op2 {ta tb : EM} {r : R2} {g : D → D → Option D} (hr : R2D F.K r g) {σ : L2.St} {H : Hp} {Q : VK} (h : tE F W (m2 g ta tb) σ H Q) : tOp r (tE F W ta) (tE F W tb) σ H Q := by
  obtain ⟨env, p, out, p', f, em, ev⟩ := h
  refine tE_bnd (k := fun x env p1 => bnd (tb env p1) fun y p2 => okD (g x y) p2) f em ev fun a p1 x H1 _ f1 _ r1 e1 ev1 => ?_
  refine tE_bnd (k := fun y env p2 => okD (g a y) p2) f1 e1 ev1 fun b p2 y H2 _ f2 s2 r2 e2 ev2 => ?_
  obtain ⟨d, e3, rfl, rfl⟩ := okD_eq e2
  exact hr F.pa _ H2 x y a b d Q f2.dom (r1.mono (f1.visK s2)) r2 e3 fun v H' s r => ev2 v H' (f2.grow s) s.kp r
theorem c_op2 {e : Expr} {ta tb : EM} {r : R2} {g : D → D → Option D} (h : PE X e (tOp r (tE F W ta) (tE F W tb))) (hr : R2D F.K r g) : PE X e (tE F W (m2 g ta tb)) := h.imp fun σ H Q => i_op2 hr
def R1D (K : PySem.W.Frag) (r : V → Hp → VK → Prop) (g : D → Option D) : Prop := ∀ (pa : Addr) (S : Addr → Prop) (H : Hp) (x : V) (a d : D) (Q : VK), Dom S H → Rep K pa (hide S H) x a → g a = some d →
  (∀ v H', Same H H' → Rep K pa (hide S H') v d → Q v H') → r x H Q
theorem i_op1 {ta : EM} {r : V → Hp → VK → Prop} {g : D → Option D} (hr : R1D F.K r g) {σ : L2.St} {H : Hp} {Q : VK} (h : tE F W (m1 g ta) σ H Q) : tUn r (tE F W ta) σ H Q := by
  obtain ⟨env, p, out, p', f, em, ev⟩ := h
  refine tE_bnd (k := fun x env p1 => okD (g x) p1) f em ev fun a p1 x H1 _ f1 _ r1 e1 ev1 => ?_
  obtain ⟨d, e3, rfl, rfl⟩ := okD_eq e1
  exact hr F.pa _ H1 x a d Q f1.dom r1 e3 fun v H' s r => ev1 v H' (f1.grow s) s.kp r
theorem c_op1 {e : Expr} {ta : EM} {r : V → Hp → VK → Prop} {g : D → Option D} (h : PE X e (tUn r (tE F W ta))) (hr : R1D F.K r g) : PE X e (tE F W (m1 g ta)) := h.imp fun σ H Q => i_op1 hr
/-- a test from a value's rule -/
theorem ct_of {e : Expr} {m : EM} (h : PT X e (tTest (tE F W m))) : PT X e (tT F W m) := h.imp fun σ H Q ⟨env, p, out, p', f, em, ev⟩ => by
  refine ⟨env, p, out, p', f, em, ?_⟩
  cases out with
  | val d =>
    obtain ⟨b, rfl, k⟩ := ev
    intro v H' f' s' r'
    cases r'
    exact ⟨b, rfl, k H' f' s'⟩
  | exc C fs => exact ev
theorem ct_val {e : Expr} {m : EM} (h : PE X e (tE F W m)) (he : ∀ whole, isTrue e X.env whole = (do let v ← whole; standAt e.pos; holding [v] (truthy v)) := by intro _; rfl) : PT X e (tT F W m) := ct_of (pt_val h he)
/-- one after another, the first a test -/
theorem tT_bnd {m : EM} {k : Bool → EM} {σ : L2.St} {H : Hp} {Q : VK} {R : Bool → Hp → Prop} {env : En} {p : Pn} {out : Ou} {p' : Pn} (f : FR F σ H env p)
    (em : bnd (m env p) (fun d p1 => match d with | .bl b => k b env p1 | _ => none) = some (out, p')) (ev : EV F W σ H env Q out p')
    (h : ∀ b p1 H1, m env p = some (.val (.bl b), p1) → FR F σ H1 env p1 → k b env p1 = some (out, p') → EV F W σ H1 env Q out p' → R b H1) : tT F W m σ H R := by
  cases q : m env p with
  | none =>
    rw [q] at em
    cases em
  | some r =>
    obtain ⟨o, p1⟩ := r
    cases o with
    | val d =>
      rw [q] at em
      cases d with
      | bl b => exact ⟨env, p, .val (.bl b), p1, f, q, b, rfl, fun H1 f1 s1 => h b p1 H1 q f1 em (ev.weaken s1)⟩
      | _ => cases em
    | exc C fs =>
      rw [q] at em
      cases em
      exact ⟨env, p, .exc C fs, _, f, q, fun d H1 f1 s1 r1 => ev d H1 f1 s1 r1⟩
theorem EVT.weaken {σ : L2.St} {H H1 : Hp} {env : En} {Q : Bool → Hp → Prop} {o : Ou} {p : Pn} (e : Kp F.pa H H1) (h : EVT F W σ H env Q o p) : EVT F W σ H1 env Q o p := by
  cases o with
  | val d =>
    obtain ⟨b, hb, k⟩ := h
    exact ⟨b, hb, fun H' f s => k H' f (e.trans s)⟩
  | exc C fs => exact fun d H' f s r => h d H' f (e.trans s) r
theorem tT_bndT {m : EM} {k : Bool → EM} {σ : L2.St} {H : Hp} {Q R : Bool → Hp → Prop} {env : En} {p : Pn} {out : Ou} {p' : Pn} (f : FR F σ H env p)
    (em : bnd (m env p) (fun d p1 => match d with | .bl b => k b env p1 | _ => none) = some (out, p')) (ev : EVT F W σ H env Q out p')
    (h : ∀ b p1 H1, m env p = some (.val (.bl b), p1) → FR F σ H1 env p1 → k b env p1 = some (out, p') → EVT F W σ H1 env Q out p' → R b H1) : tT F W m σ H R := by
  cases q : m env p with
  | none =>
    rw [q] at em
    cases em
  | some r =>
    obtain ⟨o, p1⟩ := r
    cases o with
    | val d =>
      rw [q] at em
      cases d with
      | bl b => exact ⟨env, p, .val (.bl b), p1, f, q, b, rfl, fun H1 f1 s1 => h b p1 H1 q f1 em (ev.weaken s1)⟩
      | _ => cases em
    | exc C fs =>
      rw [q] at em
      cases em
      exact ⟨env, p, .exc C fs, _, f, q, fun d H1 f1 s1 r1 => ev d H1 f1 s1 r1⟩
end
end MS
set_option Elab.async false
set_option linter.all false
set_option maxRecDepth 100000
set_option autoImplicit false
set_option maxHeartbeats 4000000
/-! MS1: operators, comparisons, tests. -/
namespace MS
open PySem PySem.Spec PyProof.Rows L2
section
variable {X : Cx} {F : FX} {W : WX} {a b c : Expr} {ta tb tc : EM} {pos : Pos} {rest : List Expr}
theorem c_and (ha : PE X a (tE F W ta)) (hb : PE X (.BoolOp .And (b :: rest) pos) (tE F W tb)) : PE X (.BoolOp .And (a :: b :: rest) pos) (tE F W (mAnd ta tb)) := (pe_and ha hb).imp fun σ H Q ⟨env, p, out, p', f, em, ev⟩ => by
  refine tE_bnd (k := fun x env p1 => match x with | .bl k => (if k = true then tb else mC (.bl false)) env p1 | _ => none) f em ev fun d p1 x H1 _ f1 _ r1 e1 ev1 => ?_
  cases r1 with
  | bl k =>
    refine ⟨k, rfl, ?_⟩
    cases k with
    | true => exact ⟨env, p1, out, p', f1, e1, ev1⟩
    | false =>
      cases e1
      exact ev1 _ H1 f1 Kp.refl (.bl false)
  | _ => cases e1
theorem c_or (ha : PE X a (tE F W ta)) (hb : PE X (.BoolOp .Or (b :: rest) pos) (tE F W tb)) : PE X (.BoolOp .Or (a :: b :: rest) pos) (tE F W (mOr ta tb)) := (pe_or ha hb).imp fun σ H Q ⟨env, p, out, p', f, em, ev⟩ => by
  refine tE_bnd (k := fun x env p1 => match x with | .bl k => (if k = true then mC (.bl true) else tb) env p1 | _ => none) f em ev fun d p1 x H1 _ f1 _ r1 e1 ev1 => ?_
  cases r1 with
  | bl k =>
    refine ⟨k, rfl, ?_⟩
    cases k with
    | false => exact ⟨env, p1, out, p', f1, e1, ev1⟩
    | true =>
      cases e1
      exact ev1 _ H1 f1 Kp.refl (.bl true)
  | _ => cases e1
theorem c_one {op} (h : PE X a (tE F W ta)) : PE X (.BoolOp op [a] pos) (tE F W ta) := pe_one h
theorem c_not (ha : PE X a (tE F W ta)) : PE X (.UnaryOp .Not a pos) (tE F W (mNot ta)) := c_op1 (r := fun x H Q => ∃ c, x = .bl c ∧ Q (.bl (!c)) H) (pe_not ha) fun pa S H x a d Q _ r e k => by
  cases r with
  | bl b =>
    cases e
    exact ⟨b, rfl, k _ H (Same.refl _) (.bl _)⟩
  | _ => cases e
theorem c_if {cc : EM} (hc : PT X c (tT F W cc)) (ha : PE X a (tE F W ta)) (hb : PE X b (tE F W tb)) : PE X (.IfExp c a b pos) (tE F W (mIf cc ta tb)) := (pe_ifExp hc ha hb).imp fun σ H Q ⟨env, p, out, p', f, em, ev⟩ => by
  refine tT_bnd (k := fun k => if k = true then ta else tb) f em ev fun k p1 H1 _ f1 e1 ev1 => ?_
  cases k with
  | true => exact ⟨env, p1, out, p', f1, e1, ev1⟩
  | false => exact ⟨env, p1, out, p', f1, e1, ev1⟩
/-! tests -/
theorem w_and1 (ha : PT X a (tT F W ta)) : PW X (.BoolOp .And [a] pos) (tT F W ta) := pw_and1 ha
theorem w_or1 (ha : PT X a (tT F W ta)) : PW X (.BoolOp .Or [a] pos) (tT F W ta) := pw_or1 ha
theorem w_and (ha : PT X a (tT F W ta)) (hb : PW X (.BoolOp .And (b :: rest) pos) (tT F W tb)) : PW X (.BoolOp .And (a :: b :: rest) pos) (tT F W (mAnd ta tb)) := (pw_and ha hb).imp fun σ H Q ⟨env, p, out, p', f, em, ev⟩ => by
  refine tT_bndT (k := fun k => if k = true then tb else mC (.bl false)) f em ev fun k p1 H1 _ f1 e1 ev1 => ?_
  cases k with
  | true => exact ⟨env, p1, out, p', f1, e1, ev1⟩
  | false =>
    cases e1
    obtain ⟨b, hb, k⟩ := ev1
    cases hb
    exact k H1 f1 Kp.refl
theorem w_or (ha : PT X a (tT F W ta)) (hb : PW X (.BoolOp .Or (b :: rest) pos) (tT F W tb)) : PW X (.BoolOp .Or (a :: b :: rest) pos) (tT F W (mOr ta tb)) := (pw_or ha hb).imp fun σ H Q ⟨env, p, out, p', f, em, ev⟩ => by
  refine tT_bndT (k := fun k => if k = true then mC (.bl true) else tb) f em ev fun k p1 H1 _ f1 e1 ev1 => ?_
  cases k with
  | false => exact ⟨env, p1, out, p', f1, e1, ev1⟩
  | true =>
    cases e1
    obtain ⟨b, hb, k⟩ := ev1
    cases hb
    exact k H1 f1 Kp.refl
theorem ct_not (ha : PT X a (tT F W ta)) : PT X (.UnaryOp .Not a pos) (tT F W (mNot ta)) := (pt_not ha).imp fun σ H Q ⟨env, p, out, p', f, em, ev⟩ => by
  refine tT_bndT (k := fun k => mC (.bl (!k))) f (by
    unfold mNot m1 at em
    cases q : ta env p with
    | none => rw [q] at em; cases em
    | some r =>
      rw [q] at em
      obtain ⟨o, p1⟩ := r
      cases o with
      | val d => cases d <;> first | exact em | cases em
      | exc C fs => exact em) ev fun k p1 H1 _ f1 e1 ev1 => ?_
  cases e1
  obtain ⟨b, hb, k'⟩ := ev1
  cases hb
  exact k' H1 f1 Kp.refl
theorem c_bin {op : Operator} {r : R2} {g : D → D → Option D} (ho : OpR X (binaryOp op) r) (hr : R2D F.K r g) (ha : PE X a (tE F W ta)) (hb : PE X b (tE F W tb)) : PE X (.BinOp a op b pos) (tE F W (m2 g ta tb)) := c_op2 (pe_op ho ha hb) hr
theorem c_cmp {op : CmpOp} {r : R2} {g : D → D → Option D} (ho : OpR X (compareOp op) r) (hr : R2D F.K r g) (ha : PE X a (tE F W ta)) (hb : PE X b (tE F W tb)) (hm : behindInMarks op b = false) :
    PE X (.Compare a [op] [b] pos) (tE F W (m2 g ta tb)) := c_op2 (pe_cmpR ho ha hb hm) hr
theorem ct_cmp {op : CmpOp} {r : R2} {g : D → D → Option D} (ho : OpR X (compareOp op) r) (hr : R2D F.K r g) (ha : PE X a (tE F W ta)) (hb : PE X b (tE F W tb)) (hm : behindInMarks op b = false) :
    PT X (.Compare a [op] [b] pos) (tT F W (m2 g ta tb)) := ct_of ((pt_cmpR ho ha hb hm).imp fun σ H Q h => i_op2 hr h)
/-- a op b op' c -/
def mChain (g g' : D → D → Option D) (a b c : EM) : EM := fun env p => bnd (a env p) fun x p1 => bnd (b env p1) fun y p2 => match g x y with
  | some (.bl true) => bnd (c env p2) fun z p3 => okD (g' y z) p3
  | some (.bl false) => some (.val (.bl false), p2)
  | _ => none
theorem i_chain {r r' : R2} {g g' : D → D → Option D} (hr : R2D F.K r g) (hr' : R2D F.K r' g') {σ : L2.St} {H : Hp} {Q : VK} (h : tE F W (mChain g g' ta tb tc) σ H Q) : tChain r r' (tE F W ta) (tE F W tb) (tE F W tc) σ H Q := by
  obtain ⟨env, p, out, p', f, em, ev⟩ := h
  refine tE_bnd (k := fun x env p1 => bnd (tb env p1) fun y p2 => match g x y with
    | some (.bl true) => bnd (tc env p2) fun z p3 => okD (g' y z) p3
    | some (.bl false) => some (.val (.bl false), p2)
    | _ => none) f em ev fun a p1 x H1 _ f1 _ r1 e1 ev1 => ?_
  refine tE_bnd (k := fun y env p2 => match g a y with
    | some (.bl true) => bnd (tc env p2) fun z p3 => okD (g' y z) p3
    | some (.bl false) => some (.val (.bl false), p2)
    | _ => none) f1 e1 ev1 fun b p2 y H2 _ f2 s2 r2 e2 ev2 => ?_
  cases q : g a b with
  | none =>
    rw [q] at e2
    cases e2
  | some d =>
    rw [q] at e2
    refine hr F.pa _ H2 x y a b d _ f2.dom (r1.mono (f1.visK s2)) r2 q fun v H3 s3 r3 => ?_
    cases d with
    | bl k =>
      cases r3
      refine ⟨k, rfl, ?_⟩
      cases k with
      | false =>
        cases e2
        exact ev2 _ H3 (f2.grow s3) s3.kp (.bl false)
      | true =>
        have f3 := f2.grow s3
        have e3 : bnd (tc env p2) (fun z p3 => okD (g' b z) p3) = some (out, p') := e2
        refine tE_bnd (k := fun z env p3 => okD (g' b z) p3) f3 e3 (ev2.weaken s3.kp) fun z p3 w H4 _ f4 s4 r4 e4 ev4 => ?_
        obtain ⟨d, e5, rfl, rfl⟩ := okD_eq e4
        exact hr' F.pa _ H4 y w b z d Q f4.dom ((r2.mono (f2.vis s3)).mono (f3.visK s4)) r4 e5 fun v H' s r => ev4 v H' (f4.grow s) s.kp r
    | _ => cases e2
theorem c_chain {op op' : CmpOp} {r r' : R2} {g g' : D → D → Option D} (ho : OpR X (compareOp op) r) (hr : R2D F.K r g) (ho' : OpR X (compareOp op') r') (hr' : R2D F.K r' g') (ha : PE X a (tE F W ta)) (hb : PE X b (tE F W tb)) (hc : PE X c (tE F W tc))
    (hm : lastMarks [op, op'] [b, c] = false := by with_unfolding_all rfl) : PE X (.Compare a [op, op'] [b, c] pos) (tE F W (mChain g g' ta tb tc)) := (pe_chain ho ho' ha hb hc hm).imp fun σ H Q h => i_chain hr hr' h
theorem ct_chain {op op' : CmpOp} {r r' : R2} {g g' : D → D → Option D} (ho : OpR X (compareOp op) r) (hr : R2D F.K r g) (ho' : OpR X (compareOp op') r') (hr' : R2D F.K r' g') (ha : PE X a (tE F W ta)) (hb : PE X b (tE F W tb)) (hc : PE X c (tE F W tc))
    (hm : lastMarks [op, op'] [b, c] = false := by with_unfolding_all rfl) : PT X (.Compare a [op, op'] [b, c] pos) (tT F W (mChain g g' ta tb tc)) := ct_of ((pt_chain ho ho' ha hb hc hm).imp fun σ H Q h => i_chain hr hr' h)
/-- one of two rules -/
theorem opR_or {f : Value → Value → Sem Value} {r r' : R2} (h : OpR X f r) (h' : OpR X f r') : OpR X f (fun x y H Q => r x y H Q ∨ r' x y H Q) := fun pins s σ H x y v u Q I rx ry q => by
  rcases q with q | q
  · exact h pins s σ H x y v u Q I rx ry q
  · exact h' pins s σ H x y v u Q I rx ry q
end
/-! ### ints -/
def iOp (C : Int → Int → Prop) [∀ i j, Decidable (C i j)] (g : Int → Int → D) : D → D → Option D
  | .int i, .int j => if C i j then some (g i j) else none
  | _, _ => none
def iOp0 (g : Int → Int → D) : D → D → Option D
  | .int i, .int j => some (g i j)
  | _, _ => none
theorem r2_I0 {K : PySem.W.Frag} {g : Int → Int → D} {gv : Int → Int → V} (hg : ∀ pa H i j, Rep K pa H (gv i j) (g i j)) : R2D K (rI0 gv) (iOp0 g) := fun pa S H x y a b d Q _ r1 r2 e k => by
  cases r1 with
  | int i =>
    cases r2 with
    | int j =>
      cases e
      exact ⟨i, j, rfl, rfl, k _ H (Same.refl _) (hg _ _ _ _)⟩
    | _ => cases e
  | _ => cases e
theorem r2_I {K : PySem.W.Frag} {C : Int → Int → Prop} {C' : Int → Int → Prop} [∀ i j, Decidable (C' i j)] {g : Int → Int → D} {gv : Int → Int → V} (hc : ∀ i j, C' i j → C i j) (hg : ∀ pa H i j, Rep K pa H (gv i j) (g i j)) : R2D K (rI C gv) (iOp C' g) := fun pa S H x y a b d Q _ r1 r2 e k => by
  cases r1 with
  | int i =>
    cases r2 with
    | int j =>
      unfold iOp at e
      dsimp only at e
      split at e
      · cases e
        exact ⟨i, j, rfl, rfl, hc _ _ ‹_›, k _ H (Same.refl _) (hg _ _ _ _)⟩
      · cases e
    | _ => cases e
  | _ => cases e
def addI := iOp0 fun i j => .int (i + j)
def subI := iOp0 fun i j => .int (i - j)
def mulI := iOp (fun i j => (i.natAbs < 2 ^ 64 ∨ j.natAbs < 2 ^ 64) ∨ i.natAbs.log2 + j.natAbs.log2 < 1000000) fun i j => .int (i * j)
def modI := iOp (fun _ j => 0 < j) fun i j => .int (i % j)
def divI := iOp (fun _ j => 0 < j ∧ j.natAbs.log2 < 9000) fun i j => .int (i / j)
def powI := iOp (fun i j => 0 ≤ j ∧ j ≤ 1000000 ∧ i.natAbs < 2 ^ 64) fun i j => .int (i ^ j.toNat)
def andI := iOp0 fun i j => .int (Builtin.bitAnd i j)
def xorI := iOp0 fun i j => .int (Builtin.bitXor i j)
def shlI := iOp (fun i j => 0 ≤ j ∧ (Builtin.Int.intBits i : Int) + j ≤ 2 ^ 27) fun i j => .int (i * 2 ^ j.toNat)
def shrI := iOp (fun _ j => 0 ≤ j) fun i j => .int (i / 2 ^ j.toNat)
def ltI := iOp0 fun i j => .bl (decide (i < j))
def leI := iOp0 fun i j => .bl (decide (i ≤ j))
def gtI := iOp0 fun i j => .bl (decide (j < i))
def geI := iOp0 fun i j => .bl (decide (j ≤ i))
section
variable {X : Cx} {F : FX} {W : WX} {a b c : Expr} {ta tb tc : EM} {pos : Pos} {rest : List Expr}
theorem c_addI (ha : PE X a (tE F W ta)) (hb : PE X b (tE F W tb)) : PE X (.BinOp a .Add b pos) (tE F W (m2 addI ta tb)) := c_bin op_add (r2_I0 fun _ _ _ _ => .int _) ha hb
theorem c_subI (ha : PE X a (tE F W ta)) (hb : PE X b (tE F W tb)) : PE X (.BinOp a .Sub b pos) (tE F W (m2 subI ta tb)) := c_bin op_sub (r2_I0 fun _ _ _ _ => .int _) ha hb
theorem c_mulI (ha : PE X a (tE F W ta)) (hb : PE X b (tE F W tb)) : PE X (.BinOp a .Mult b pos) (tE F W (m2 mulI ta tb)) := c_bin (opR_or op_mul op_mulW) (fun pa S H x y a b d Q _ r1 r2 e k => by
  cases r1 with
  | int i =>
    cases r2 with
    | int j =>
      unfold mulI iOp at e
      dsimp only at e
      split at e
      · rename_i c
        cases e
        rcases c with c | c
        · exact .inl ⟨i, j, rfl, rfl, c.elim (fun c => .inl ⟨by omega, by omega⟩) (fun c => .inr ⟨by omega, by omega⟩), k _ H (Same.refl _) (.int _)⟩
        · exact .inr ⟨i, j, rfl, rfl, c, k _ H (Same.refl _) (.int _)⟩
      · cases e
    | _ => cases e
  | _ => cases e) ha hb
theorem c_modI (ha : PE X a (tE F W ta)) (hb : PE X b (tE F W tb)) : PE X (.BinOp a .Mod b pos) (tE F W (m2 modI ta tb)) := c_bin op_mod (r2_I (fun _ _ h => h) fun _ _ _ _ => .int _) ha hb
theorem c_divI (ha : PE X a (tE F W ta)) (hb : PE X b (tE F W tb)) : PE X (.BinOp a .FloorDiv b pos) (tE F W (m2 divI ta tb)) := c_bin op_fdivW (r2_I (fun _ _ h => h) fun _ _ _ _ => .int _) ha hb
theorem c_powI (ha : PE X a (tE F W ta)) (hb : PE X b (tE F W tb)) : PE X (.BinOp a .Pow b pos) (tE F W (m2 powI ta tb)) := c_bin op_pow (r2_I (fun _ _ h => h) fun _ _ _ _ => .int _) ha hb
theorem c_andI (ha : PE X a (tE F W ta)) (hb : PE X b (tE F W tb)) : PE X (.BinOp a .BitAnd b pos) (tE F W (m2 andI ta tb)) := c_bin op_and (r2_I0 fun _ _ _ _ => .int _) ha hb
theorem c_xorI (ha : PE X a (tE F W ta)) (hb : PE X b (tE F W tb)) : PE X (.BinOp a .BitXor b pos) (tE F W (m2 xorI ta tb)) := c_bin op_xor (r2_I0 fun _ _ _ _ => .int _) ha hb
theorem c_shlI (ha : PE X a (tE F W ta)) (hb : PE X b (tE F W tb)) : PE X (.BinOp a .LShift b pos) (tE F W (m2 shlI ta tb)) := c_bin op_shlW (r2_I (fun _ _ h => h) fun _ _ _ _ => .int _) ha hb
theorem c_shrI (ha : PE X a (tE F W ta)) (hb : PE X b (tE F W tb)) : PE X (.BinOp a .RShift b pos) (tE F W (m2 shrI ta tb)) := c_bin op_shr (r2_I (fun _ _ h => h) fun _ _ _ _ => .int _) ha hb
/-- the int comparisons -/
inductive ICmp (X : Cx) (K : PySem.W.Frag) : CmpOp → (D → D → Option D) → Prop
  | mk {op : CmpOp} {r : R2} {g : D → D → Option D} (ho : OpR X (compareOp op) r) (hr : R2D K r g) (hm : ∀ b, behindInMarks op b = false) : ICmp X K op g
theorem q_lt : ICmp X F.K .Lt ltI := ⟨op_lt, r2_I0 fun _ _ _ _ => .bl _, fun b => nomark b⟩
theorem q_le : ICmp X F.K .LtE leI := ⟨op_le, r2_I0 fun _ _ _ _ => .bl _, fun b => nomark b⟩
theorem q_gt : ICmp X F.K .Gt gtI := ⟨op_gt, r2_I0 fun _ _ _ _ => .bl _, fun b => nomark b⟩
theorem q_ge : ICmp X F.K .GtE geI := ⟨op_ge, r2_I0 fun _ _ _ _ => .bl _, fun b => nomark b⟩
theorem c_q {op : CmpOp} {g : D → D → Option D} (h : ICmp X F.K op g) (ha : PE X a (tE F W ta)) (hb : PE X b (tE F W tb)) : PE X (.Compare a [op] [b] pos) (tE F W (m2 g ta tb)) := by
  obtain ⟨ho, hr, hm⟩ := h
  exact c_cmp ho hr ha hb (hm b)
theorem ct_q {op : CmpOp} {g : D → D → Option D} (h : ICmp X F.K op g) (ha : PE X a (tE F W ta)) (hb : PE X b (tE F W tb)) : PT X (.Compare a [op] [b] pos) (tT F W (m2 g ta tb)) := by
  obtain ⟨ho, hr, hm⟩ := h
  exact ct_cmp ho hr ha hb (hm b)
theorem c_qq {op op' : CmpOp} {g g' : D → D → Option D} (h : ICmp X F.K op g) (h' : ICmp X F.K op' g') (ha : PE X a (tE F W ta)) (hb : PE X b (tE F W tb)) (hc : PE X c (tE F W tc))
    (hm : lastMarks [op, op'] [b, c] = false := by with_unfolding_all rfl) : PE X (.Compare a [op, op'] [b, c] pos) (tE F W (mChain g g' ta tb tc)) := by
  obtain ⟨ho, hr, _⟩ := h
  obtain ⟨ho', hr', _⟩ := h'
  exact c_chain ho hr ho' hr' ha hb hc hm
theorem ct_qq {op op' : CmpOp} {g g' : D → D → Option D} (h : ICmp X F.K op g) (h' : ICmp X F.K op' g') (ha : PE X a (tE F W ta)) (hb : PE X b (tE F W tb)) (hc : PE X c (tE F W tc))
    (hm : lastMarks [op, op'] [b, c] = false := by with_unfolding_all rfl) : PT X (.Compare a [op, op'] [b, c] pos) (tT F W (mChain g g' ta tb tc)) := by
  obtain ⟨ho, hr, _⟩ := h
  obtain ⟨ho', hr', _⟩ := h'
  exact ct_chain ho hr ho' hr' ha hb hc hm
/-- -a -/
def negI : D → Option D
  | .int i => some (.int (-i))
  | _ => none
theorem c_neg (ha : PE X a (tE F W ta)) : PE X (.UnaryOp .USub a pos) (tE F W (m1 negI ta)) := c_op1 (pe_un un_neg ha) fun pa S H x a d Q _ r e k => by
  cases r with
  | int i =>
    cases e
    exact ⟨i, rfl, k _ H (Same.refl _) (.int _)⟩
  | _ => cases e
/-- a is None -/
def isNon : D → Option D
  | .non => some (.bl true)
  | _ => some (.bl false)
def notNon : D → Option D
  | .non => some (.bl false)
  | _ => some (.bl true)
theorem r1_isN {K : PySem.W.Frag} : R1D K (fun x H Q => Q (.bl (decide (x = .non))) H) isNon := fun pa S H x a d Q _ r e k => by
  cases r <;> cases e <;> exact k _ H (Same.refl _) (.bl _)
theorem r1_notN {K : PySem.W.Frag} : R1D K (fun x H Q => Q (.bl (!decide (x = .non))) H) notNon := fun pa S H x a d Q _ r e k => by
  cases r <;> cases e <;> exact k _ H (Same.refl _) (.bl _)
theorem c_isN {j pos'} (ha : PE X a (tE F W ta)) : PE X (.Compare a [.Is] [.Constant .none j pos'] pos) (tE F W (m1 isNon ta)) := c_op1 (pe_cmp (pc_isN ha) rfl) r1_isN
theorem c_notN {j pos'} (ha : PE X a (tE F W ta)) : PE X (.Compare a [.IsNot] [.Constant .none j pos'] pos) (tE F W (m1 notNon ta)) := c_op1 (pe_cmp (pc_notN ha) rfl) r1_notN
theorem ct_isN {j pos'} (ha : PE X a (tE F W ta)) : PT X (.Compare a [.Is] [.Constant .none j pos'] pos) (tT F W (m1 isNon ta)) := ct_of ((pt_cmp (pc_isN ha)).imp fun σ H Q h => i_op1 r1_isN h)
theorem ct_notN {j pos'} (ha : PE X a (tE F W ta)) : PT X (.Compare a [.IsNot] [.Constant .none j pos'] pos) (tT F W (m1 notNon ta)) := ct_of ((pt_cmp (pc_notN ha)).imp fun σ H Q h => i_op1 r1_notN h)
end
end MS
set_option Elab.async false
set_option linter.all false
set_option maxRecDepth 100000
set_option autoImplicit false
set_option maxHeartbeats 4000000
/-! MS2: arguments, displays, deep equality, subscripts, built-in functions. -/
namespace MS
open PySem PySem.Spec PyProof.Rows L2
mutual
def toPy : D → Option PyData
  | .non => some .none
  | .bl b => some (.bool b)
  | .int i => some (.int i)
  | .str x => some (.str x)
  | .lst xs => (toPys xs).map .list
  | .tup xs => (toPys xs).map .tuple
  | _ => none
def toPys : List D → Option (List PyData)
  | [] => some []
  | d :: ds => match toPy d, toPys ds with
    | some q, some qs => some (q :: qs)
    | _, _ => none
end
theorem toPys_cons {d : D} {ds : List D} {q : List PyData} (h : toPys (d :: ds) = some q) : ∃ x xs, toPy d = some x ∧ toPys ds = some xs ∧ q = x :: xs := by
  unfold toPys at h
  cases e1 : toPy d with
  | none => simp [e1] at h
  | some x =>
    cases e2 : toPys ds with
    | none => simp [e1, e2] at h
    | some xs =>
      simp [e1, e2] at h
      exact ⟨x, xs, rfl, rfl, h.symm⟩
section
variable {K : PySem.W.Frag} {pa : Addr} {H H' : Hp}
mutual
theorem Rep.dp (e : Same H H') : ∀ {v : V} {d : D} {q : PyData}, Rep K pa H v d → toPy d = some q → Dp K H' v q ∧ q.plain = true
  | _, _, q, .non, h => by cases h; exact ⟨.non, rfl⟩
  | _, _, q, .bl b, h => by cases h; exact ⟨.bl b, rfl⟩
  | _, _, q, .int i, h => by cases h; exact ⟨.int i, rfl⟩
  | _, _, q, .str x, h => by cases h; exact ⟨.str x, rfl⟩
  | _, _, q, .lst h r, h2 => by
    unfold toPy at h2
    rw [Option.map_eq_some_iff] at h2
    obtain ⟨qs, h3, rfl⟩ := h2
    obtain ⟨h4, h5⟩ := RepL.dp e r h3
    exact ⟨.lst (.inl (.inl (e _ _ h))) h4, h5⟩
  | _, _, q, .tup h r, h2 => by
    unfold toPy at h2
    rw [Option.map_eq_some_iff] at h2
    obtain ⟨qs, h3, rfl⟩ := h2
    obtain ⟨h4, h5⟩ := RepL.dp e r h3
    exact ⟨.tup (sqt_same e h) h4, h5⟩
  | _, _, q, .dic h n r, h2 => by cases h2
  | _, _, q, .obj h n r, h2 => by cases h2
  | _, _, q, .exc0 h, h2 => by cases h2
  | _, _, q, .exc1 h h3 n r, h2 => by cases h2
  | _, _, q, .glo x, h2 => by cases h2
  | _, _, q, .ty x, h2 => by cases h2
  | _, _, q, .pen, h2 => by cases h2
theorem RepL.dp (e : Same H H') : ∀ {vs : List V} {ds : List D} {qs : List PyData}, RepL K pa H vs ds → toPys ds = some qs → DpAll K H' vs qs ∧ PyData.plainAll qs = true
  | _, _, qs, .nil, h => by cases h; exact ⟨.nil, rfl⟩
  | _, _, qs, .cons h r, h2 => by
    obtain ⟨x, xs, e1, e2, rfl⟩ := toPys_cons h2
    obtain ⟨h3, h4⟩ := Rep.dp e h e1
    obtain ⟨h5, h6⟩ := RepL.dp e r e2
    exact ⟨.cons h3 h5, by show (_ && _) = true; rw [h4, h6]; rfl⟩
end
end
/-- == of plain data -/
def eqD (a b : D) : Option D := match toPy a, toPy b with
  | some x, some y => if x.depth ≤ 60 then some (.bl (PyData.eqv x y)) else none
  | _, _ => none
def neD (a b : D) : Option D := match toPy a, toPy b with
  | some x, some y => if x.depth ≤ 60 then some (.bl (!PyData.eqv x y)) else none
  | _, _ => none
/-- in, by a list or a tuple of plain data -/
def inD (a b : D) : Option D := match toPy a, b with
  | some x, .lst ys => (match toPys ys with
    | some zs => if x.depth ≤ 60 then some (.bl (zs.any fun y => PyData.eqv y x)) else none
    | none => none)
  | some x, .tup ys => (match toPys ys with
    | some zs => if x.depth ≤ 60 then some (.bl (zs.any fun y => PyData.eqv y x)) else none
    | none => none)
  | _, _ => none
def notinD (a b : D) : Option D := match inD a b with
  | some (.bl k) => some (.bl (!k))
  | _ => none
section
variable {X : Cx} {F : FX} {W : WX} {a b c : Expr} {ta tb tc : EM} {pos : Pos} {k : Nat}
def rEqP (K : PySem.W.Frag) (ng : Bool) : R2 := fun x y H Q => ∃ d e, Dp K H x d ∧ Dp K H y e ∧ d.plain = true ∧ e.plain = true ∧ d.depth ≤ 60 ∧ Q (.bl (if ng then !PyData.eqv d e else PyData.eqv d e)) H
theorem op_eqP (hr : Room k X.A) : OpR X (compareOp .Eq) (rEqP X.K false) := fun pins s σ H x y v u Q I rx ry ⟨d, e, h1, h2, p1, p2, dp, q⟩ => by
  obtain ⟨as, r1⟩ := Dp.reads I d x v h1 rx
  obtain ⟨bs, r2⟩ := Dp.reads I e y u h2 ry
  exact SeqAt.eq_plain r1 r2 p1 p2 (by have := hr.units; omega) ⟨.bl _, H, I, rfl, q⟩
theorem op_neP (hr : Room k X.A) : OpR X (compareOp .NotEq) (rEqP X.K true) := fun pins s σ H x y v u Q I rx ry ⟨d, e, h1, h2, p1, p2, dp, q⟩ => by
  obtain ⟨as, r1⟩ := Dp.reads I d x v h1 rx
  obtain ⟨bs, r2⟩ := Dp.reads I e y u h2 ry
  exact SeqAt.ne_plain r1 r2 p1 p2 (by have := hr.units; omega) ⟨.bl _, H, I, rfl, q⟩
theorem r2_eqP {K : PySem.W.Frag} : R2D K (rEqP K false) eqD := fun pa S H x y a b d Q _ r1 r2 e k => by
  unfold eqD at e
  cases e1 : toPy a with
  | none => simp [e1] at e
  | some p =>
    cases e2 : toPy b with
    | none => simp [e1, e2] at e
    | some q =>
      simp only [e1, e2] at e
      split at e
      · cases e
        obtain ⟨h1, h2⟩ := r1.dp hide_le e1
        obtain ⟨h3, h4⟩ := r2.dp hide_le e2
        exact ⟨p, q, h1, h3, h2, h4, ‹_›, k _ H (Same.refl _) (.bl _)⟩
      · cases e
theorem r2_neP {K : PySem.W.Frag} : R2D K (rEqP K true) neD := fun pa S H x y a b d Q _ r1 r2 e k => by
  unfold neD at e
  cases e1 : toPy a with
  | none => simp [e1] at e
  | some p =>
    cases e2 : toPy b with
    | none => simp [e1, e2] at e
    | some q =>
      simp only [e1, e2] at e
      split at e
      · cases e
        obtain ⟨h1, h2⟩ := r1.dp hide_le e1
        obtain ⟨h3, h4⟩ := r2.dp hide_le e2
        exact ⟨p, q, h1, h3, h2, h4, ‹_›, k _ H (Same.refl _) (.bl _)⟩
      · cases e
theorem q_eq (hr : Room k X.A) (hK : F.K = X.K) : ICmp X F.K .Eq eqD := ⟨op_eqP hr, hK ▸ r2_eqP, fun b => nomark b⟩
theorem q_ne (hr : Room k X.A) (hK : F.K = X.K) : ICmp X F.K .NotEq neD := ⟨op_neP hr, hK ▸ r2_neP, fun b => nomark b⟩
def rInP (K : PySem.W.Frag) (ng : Bool) : R2 := fun x y H Q => ∃ d ys, Dp K H x d ∧ (Dp K H y (.list ys) ∨ Dp K H y (.tuple ys)) ∧ d.plain = true ∧ PyData.plainAll ys = true ∧ d.depth ≤ 60 ∧ Q (.bl (if ng then !(ys.any fun z => PyData.eqv z d) else ys.any fun z => PyData.eqv z d)) H
theorem op_inP (hr : Room k X.A) : OpR X (compareOp .In) (rInP X.K false) := fun pins s σ H x y v u Q I rx ry ⟨d, ys, h1, h2, p1, p2, dp, q⟩ => by
  obtain ⟨as, r1⟩ := Dp.reads I d x v h1 rx
  rcases h2 with h2 | h2
  · obtain ⟨bs, r2⟩ := Dp.reads I _ y u h2 ry
    exact SeqAt.in_list_data r2 r1 p2 p1 (by have := hr.units; omega) ⟨.bl _, H, I, rfl, q⟩
  · obtain ⟨bs, r2⟩ := Dp.reads I _ y u h2 ry
    exact SeqAt.in_tuple_data r2 r1 p2 p1 (by have := hr.units; omega) ⟨.bl _, H, I, rfl, q⟩
theorem op_notinP (hr : Room k X.A) : OpR X (compareOp .NotIn) (rInP X.K true) := fun pins s σ H x y v u Q I rx ry ⟨d, ys, h1, h2, p1, p2, dp, q⟩ => by
  obtain ⟨as, r1⟩ := Dp.reads I d x v h1 rx
  rcases h2 with h2 | h2
  · obtain ⟨bs, r2⟩ := Dp.reads I _ y u h2 ry
    exact SeqAt.notIn_list_data r2 r1 p2 p1 (by have := hr.units; omega) ⟨.bl _, H, I, rfl, q⟩
  · obtain ⟨bs, r2⟩ := Dp.reads I _ y u h2 ry
    exact SeqAt.notIn_tuple_data r2 r1 p2 p1 (by have := hr.units; omega) ⟨.bl _, H, I, rfl, q⟩
theorem inD_some {a b d : D} (e : inD a b = some d) : ∃ x zs, toPy a = some x ∧ (toPy b = some (.list zs) ∨ toPy b = some (.tuple zs)) ∧ x.depth ≤ 60 ∧ d = .bl (zs.any fun y => PyData.eqv y x) := by
  unfold inD at e
  cases e1 : toPy a with
  | none => simp [e1] at e
  | some x =>
    cases b with
    | lst ys =>
      cases e2 : toPys ys with
      | none => simp [e1, e2] at e
      | some zs =>
        simp only [e1, e2] at e
        split at e
        · cases e
          exact ⟨x, zs, rfl, .inl (by unfold toPy; rw [e2]; rfl), ‹_›, rfl⟩
        · cases e
    | tup ys =>
      cases e2 : toPys ys with
      | none => simp [e1, e2] at e
      | some zs =>
        simp only [e1, e2] at e
        split at e
        · cases e
          exact ⟨x, zs, rfl, .inr (by unfold toPy; rw [e2]; rfl), ‹_›, rfl⟩
        · cases e
    | _ => simp [e1] at e
theorem r2_inP {K : PySem.W.Frag} : R2D K (rInP K false) inD := fun pa S H x y a b d Q _ r1 r2 e k => by
  obtain ⟨p, zs, e1, e2, dp, rfl⟩ := inD_some e
  obtain ⟨h1, h2⟩ := r1.dp hide_le e1
  rcases e2 with e2 | e2
  · obtain ⟨h3, h4⟩ := r2.dp hide_le e2
    exact ⟨p, zs, h1, .inl h3, h2, h4, dp, k _ H (Same.refl _) (.bl _)⟩
  · obtain ⟨h3, h4⟩ := r2.dp hide_le e2
    exact ⟨p, zs, h1, .inr h3, h2, h4, dp, k _ H (Same.refl _) (.bl _)⟩
theorem r2_notinP {K : PySem.W.Frag} : R2D K (rInP K true) notinD := fun pa S H x y a b d Q _ r1 r2 e k => by
  unfold notinD at e
  cases e0 : inD a b with
  | none => simp [e0] at e
  | some d0 =>
    obtain ⟨p, zs, e1, e2, dp, rfl⟩ := inD_some e0
    simp only [e0] at e
    cases e
    obtain ⟨h1, h2⟩ := r1.dp hide_le e1
    rcases e2 with e2 | e2
    · obtain ⟨h3, h4⟩ := r2.dp hide_le e2
      exact ⟨p, zs, h1, .inl h3, h2, h4, dp, k _ H (Same.refl _) (.bl _)⟩
    · obtain ⟨h3, h4⟩ := r2.dp hide_le e2
      exact ⟨p, zs, h1, .inr h3, h2, h4, dp, k _ H (Same.refl _) (.bl _)⟩
theorem c_in (hr : Room k X.A) (hK : F.K = X.K) (ha : PE X a (tE F W ta)) (hb : PE X b (tE F W tb)) (hm : behindInMarks .In b = false := by rfl) : PE X (.Compare a [.In] [b] pos) (tE F W (m2 inD ta tb)) := c_cmp (op_inP hr) (hK ▸ r2_inP) ha hb hm
theorem ct_in (hr : Room k X.A) (hK : F.K = X.K) (ha : PE X a (tE F W ta)) (hb : PE X b (tE F W tb)) (hm : behindInMarks .In b = false := by rfl) : PT X (.Compare a [.In] [b] pos) (tT F W (m2 inD ta tb)) := ct_cmp (op_inP hr) (hK ▸ r2_inP) ha hb hm
theorem c_notin (hr : Room k X.A) (hK : F.K = X.K) (ha : PE X a (tE F W ta)) (hb : PE X b (tE F W tb)) (hm : behindInMarks .NotIn b = false := by rfl) : PE X (.Compare a [.NotIn] [b] pos) (tE F W (m2 notinD ta tb)) := c_cmp (op_notinP hr) (hK ▸ r2_notinP) ha hb hm
theorem ct_notin (hr : Room k X.A) (hK : F.K = X.K) (ha : PE X a (tE F W ta)) (hb : PE X b (tE F W tb)) (hm : behindInMarks .NotIn b = false := by rfl) : PT X (.Compare a [.NotIn] [b] pos) (tT F W (m2 notinD ta tb)) := ct_cmp (op_notinP hr) (hK ▸ r2_notinP) ha hb hm
end
/-! ### arguments -/
section
variable {X : Cx} {F : FX} {W : WX} {e : Expr} {es : List Expr} {m : EM} {ms : AM} {pos : Pos}
theorem EVA.weaken {σ : L2.St} {H H1 : Hp} {env : En} {Q : List V → Hp → Prop} {o : OutL} {p : Pn} (e : Kp F.pa H H1) (h : EVA F W σ H env Q o p) : EVA F W σ H1 env Q o p := by
  cases o with
  | vals d => exact fun v H' f s r => h v H' f (e.trans s) r
  | exc C fs => exact fun d H' f s r => h d H' f (e.trans s) r
theorem ca_nil : PA X [] (tAr F W aNil) := pa_nil.imp fun σ H Q ⟨env, p, out, p', f, em, ev⟩ => by
  cases em
  exact ev [] H f Kp.refl .nil
theorem ca_cons (ha : PE X e (tE F W m)) (hr : PA X es (tAr F W ms)) (hs : starEach (e :: es) X.env = (false, eval e X.env) :: starEach es X.env := by rfl) : PA X (e :: es) (tAr F W (aCons m ms)) := (pa_cons ha hr hs).imp fun σ H Q ⟨env, p, out, p', f, em, ev⟩ => by
  unfold aCons at em
  cases q : m env p with
  | none =>
    rw [q] at em
    cases em
  | some r =>
    obtain ⟨o, p1⟩ := r
    rw [q] at em
    cases o with
    | exc C fs =>
      cases em
      exact ⟨env, p, .exc C fs, _, f, q, fun d H1 f1 s1 r1 => ev d H1 f1 s1 r1⟩
    | val d =>
      refine ⟨env, p, .val d, p1, f, q, fun v H1 f1 s1 r1 => ?_⟩
      dsimp only at em
      cases q2 : ms env p1 with
      | none =>
        rw [q2] at em
        cases em
      | some r2 =>
        obtain ⟨o2, p2⟩ := r2
        rw [q2] at em
        cases o2 with
        | exc C fs =>
          cases em
          exact ⟨env, p1, .exc C fs, _, f1, q2, fun d H2 f2 s2 r2 => ev d H2 f2 (s1.trans s2) r2⟩
        | vals ds =>
          cases em
          exact ⟨env, p1, .vals ds, _, f1, q2, fun vs H2 f2 s2 r2 => ev (v :: vs) H2 f2 (s1.trans s2) (.cons (r1.mono (f1.visK s2)) r2)⟩
/-- *e among arguments -/
def aStar (m : EM) (ms : AM) : AM := fun env p => match m env p with
  | some (.val d, p1) => (match (match d with | .lst xs => some xs | .tup xs => some xs | _ => none) with
    | some xs => (match ms env p1 with
      | some (.vals ds, p2) => some (.vals (xs ++ ds), p2)
      | r => r)
    | none => none)
  | some (.exc C fs, p1) => some (.exc C fs, p1)
  | none => none
theorem ca_star {sp : Pos} (hK : F.K = X.K) (ha : PE X e (tE F W m)) (hr : PA X es (tAr F W ms)) : PA X (.Starred e sp :: es) (tAr F W (aStar m ms)) := (StX.pa_star ha hr).imp fun σ H Q ⟨env, p, out, p', f, em, ev⟩ => by
  unfold aStar at em
  cases q : m env p with
  | none =>
    rw [q] at em
    cases em
  | some r =>
    obtain ⟨o, p1⟩ := r
    rw [q] at em
    cases o with
    | exc C fs =>
      cases em
      exact ⟨env, p, .exc C fs, _, f, q, fun d H1 f1 s1 r1 => ev d H1 f1 s1 r1⟩
    | val d =>
      refine ⟨env, p, .val d, p1, f, q, fun v H1 f1 s1 r1 => ?_⟩
      have go : ∀ {xs : List D} {vs : List V}, RepL F.K F.pa (hd F σ env H1) vs xs → (match ms env p1 with
          | some (.vals ds, p2) => some (.vals (xs ++ ds), p2)
          | r => r) = some (out, p') → tAr F W ms σ H1 fun ys H2 => Q (vs ++ ys) H2 := fun {xs vs} rl em => by
        cases q2 : ms env p1 with
        | none =>
          rw [q2] at em
          cases em
        | some r2 =>
          obtain ⟨o2, p2⟩ := r2
          rw [q2] at em
          cases o2 with
          | exc C fs =>
            cases em
            exact ⟨env, p1, .exc C fs, _, f1, q2, fun d H2 f2 s2 r2 => ev d H2 f2 (s1.trans s2) r2⟩
          | vals ds =>
            cases em
            exact ⟨env, p1, .vals ds, _, f1, q2, fun ys H2 f2 s2 r2 => ev (vs ++ ys) H2 f2 (s1.trans s2) ((rl.mono (f1.visK s2)).append r2)⟩
      cases r1 with
      | lst h r => exact ⟨_, _, rfl, .inr (.inl (.inl (hide_le _ _ h))), go r em⟩
      | tup h r => exact ⟨_, _, rfl, .inl (hK ▸ sqt_same hide_le h), go r em⟩
      | _ => cases em
theorem i_args {k : List D → Pn → Option (Ou × Pn)} {σ : L2.St} {H : Hp} {Q : VK} {R : List V → Hp → Prop} (h : tE F W (mArgs k ms) σ H Q)
    (hk : ∀ env p1 ds vs H1 out p', FR F σ H1 env p1 → RepL F.K F.pa (hd F σ env H1) vs ds → k ds p1 = some (out, p') → EV F W σ H1 env Q out p' → R vs H1) : tAr F W ms σ H R := by
  obtain ⟨env, p, out, p', f, em, ev⟩ := h
  unfold mArgs at em
  cases q : ms env p with
  | none =>
    rw [q] at em
    cases em
  | some r =>
    obtain ⟨o, p1⟩ := r
    rw [q] at em
    cases o with
    | exc C fs =>
      cases em
      exact ⟨env, p, .exc C fs, _, f, q, fun d H1 f1 s1 r1 => ev d H1 f1 s1 r1⟩
    | vals ds => exact ⟨env, p, .vals ds, p1, f, q, fun vs H1 f1 s1 r1 => hk env p1 ds vs H1 out p' f1 r1 em (ev.weaken s1)⟩
/-- a call of a built-in by its values -/
def RCD (K : PySem.W.Frag) (r : List V → Hp → VK → Prop) (g : List D → Option D) : Prop := ∀ (pa : Addr) (S : Addr → Prop) (H : Hp) (xs : List V) (ds : List D) (d : D) (Q : VK), Dom S H → RepL K pa (hide S H) xs ds → g ds = some d →
  (∀ v H', Same H H' → Rep K pa (hide S H') v d → Q v H') → r xs H Q
def mB (g : List D → Option D) (ms : AM) : EM := mArgs (fun ds p => okD (g ds) p) ms
theorem i_B {r : List V → Hp → VK → Prop} {g : List D → Option D} (hr : RCD F.K r g) {σ : L2.St} {H : Hp} {Q : VK} (h : tE F W (mB g ms) σ H Q) : tCB r (tAr F W ms) σ H Q := by
  refine i_args h fun env p1 ds vs H1 out p' f1 r1 e1 ev1 => ?_
  obtain ⟨d, e3, rfl, rfl⟩ := okD_eq e1
  exact hr F.pa _ H1 vs ds d Q f1.dom r1 e3 fun v H' s r => ev1 v H' (f1.grow s) s.kp r
theorem c_callB {x : Str} {p : Pos} {id : String} {r : List V → Hp → VK → Prop} {g : List D → Option D} (hc : CallR X (.builtin id) r) (hr : RCD F.K r g) (hg : Gl X x) (hm : X.mg x = none) (hv : bootBuiltins x = some (.builtin id)) (ha : PA X (e :: es) (tAr F W ms))
    (hn : x ≠ "__name__" := by decide) (hd : (x == ("__debug__" : Str)) = false := by decide) (he : starEach (e :: es) X.env = (false, eval e X.env) :: starEach es X.env := by rfl) (hpl : (backTo pos (starEach es X.env)).any (·.1) = false := by rfl) :
    PE X (.Call (.Name x p) (e :: es) [] pos) (tE F W (mB g ms)) := (pe_callB hc hg hm hv ha hn hd he hpl).imp fun σ H Q h => i_B hr h
theorem c_callTy {x : Str} {p : Pos} {T : String} {r : List V → Hp → VK → Prop} {g : List D → Option D} (hc : CallR X (.type T) r) (hr : RCD F.K r g) (hg : Gl X x) (hm : X.mg x = none) (hv : bootBuiltins x = some (.type T)) (ha : PA X (e :: es) (tAr F W ms))
    (hn : x ≠ "__name__" := by decide) (hd : (x == ("__debug__" : Str)) = false := by decide) (he : starEach (e :: es) X.env = (false, eval e X.env) :: starEach es X.env := by rfl) (hpl : (backTo pos (starEach es X.env)).any (·.1) = false := by rfl) :
    PE X (.Call (.Name x p) (e :: es) [] pos) (tE F W (mB g ms)) := (pe_callTy hc hg hm hv ha hn hd he hpl).imp fun σ H Q h => i_B hr h
/-! displays -/
def lstD (ds : List D) : Option D := if ds.length ≤ 1000000 then some (.lst ds) else none
def tupD (ds : List D) : Option D := if ds.length ≤ 1000000 then some (.tup ds) else none
theorem line_of {n : Nat} (h : n ≤ 1000000) : n ≤ sizeLine := Nat.le_trans h (by decide)
theorem c_lst (ha : PA X es (tAr F W ms)) : PE X (.List es pos) (tE F W (mB lstD ms)) := (pe_lst ha).imp fun σ H Q h => by
  refine i_B (r := fun xs H1 Q => xs.length ≤ sizeLine ∧ ∀ p, H1 p = none → Q (.ref p) (upd H1 p (.lst xs))) (fun pa S H xs ds d Q dm r e k => ?_) h
  unfold lstD at e
  split at e
  · cases e
    exact ⟨r.length ▸ line_of ‹_›, fun p np => k _ _ (same_upd np) (.lst (hide_new dm np) (r.mono (hide_same fun a o _ h => same_upd np a o h)))⟩
  · cases e
theorem c_tup {x1} (ha : PA X es (tAr F W ms)) : PE X (.Tuple es x1 pos) (tE F W (mB tupD ms)) := (pe_tup ha).imp fun σ H Q h => by
  refine i_B (r := fun xs H1 Q => xs.length ≤ sizeLine ∧ ∀ p, H1 p = none → Q (.ref p) (upd H1 p (.tup xs))) (fun pa S H xs ds d Q dm r e k => ?_) h
  unfold tupD at e
  split at e
  · cases e
    exact ⟨r.length ▸ line_of ‹_›, fun p np => k _ _ (same_upd np) (.tup (.inl (.inl (hide_new dm np))) (r.mono (hide_same fun a o _ h => same_upd np a o h)))⟩
  · cases e
end
end MS
set_option Elab.async false
set_option linter.all false
set_option maxRecDepth 100000
set_option autoImplicit false
set_option maxHeartbeats 4000000
/-! MS3: statements, loops, defs and their calls. -/
namespace MS
open PySem PySem.Spec PyProof.Rows L2
inductive Fl where
  | nx (env : En) | ret (d : D) | brk (env : En) | cnt (env : En) | exc (C : String) (fs : List (String × D)) (env : En)
abbrev SM := En → Pn → Option (Fl × Pn)
structure RetR (F : FX) (H' : Hp) (p' : Pn) (v : V) (d : D) : Prop where
  base : Kp F.pa F.H0 H'
  rep : Rep F.K F.pa (hide F.S H') v d
  pen : ∃ vs, H' F.pa = some (.lst vs) ∧ RepL F.K F.pa (hide F.S H') vs p'
/-- the end of a statement -/
def SV (F : FX) (W : WX) (E : Ends) : Fl → Pn → Prop
  | .nx env', p' => ∀ σ' H', FR F σ' H' env' p' → E.nx σ' H'
  | .brk env', p' => ∀ σ' H', FR F σ' H' env' p' → E.bk σ' H'
  | .cnt env', p' => ∀ σ' H', FR F σ' H' env' p' → E.ct σ' H'
  | .ret d, p' => ∀ v H', RetR F H' p' v d → E.rt v H'
  | .exc C fs env', p' => ∀ d σ' H', FR F σ' H' env' p' → XRep F.K F.pa (hd F σ' env' H') d fs → W (.ref (He.ga F.K (Str.ofString C))) d σ' H'
def tSt (F : FX) (W : WX) (m : SM) : TS := fun E σ H => ∃ env p fl p', FR F σ H env p ∧ m env p = some (fl, p') ∧ SV F W E fl p'
section
variable {F : FX} {σ : L2.St} {H H' : Hp} {env : En} {p p' : Pn} {v : V} {d : D}
theorem hide_S {env : En} : Same (hd F σ env H) (hide F.S H) := hide_anti fun a z => .inl z
theorem FR.ret (f : FR F σ H env p) (r : Rep F.K F.pa (hd F σ env H) v d) : RetR F H p v d :=
  ⟨fun b o n h => f.base b o n h, r.mono hide_S, by obtain ⟨vs, h1, h2⟩ := f.pen; exact ⟨vs, h1, h2.mono hide_S⟩⟩
theorem get_set {α : Type} {l : List α} {i j : Nat} {x y : α} (h : (l.set i x)[j]? = some y) : (j = i ∧ y = x ∧ i < l.length) ∨ (j ≠ i ∧ l[j]? = some y) := by
  by_cases e : i = j
  · subst e
    by_cases q : i < l.length
    · rw [List.getElem?_set_self q] at h
      cases h
      exact .inl ⟨rfl, rfl, q⟩
    · rw [List.getElem?_eq_none (by simpa using q)] at h
      cases h
  · rw [List.getElem?_set_ne e] at h
    exact .inr ⟨Ne.symm e, h⟩
theorem ow_put {i : Nat} (hl : σ.length = env.length) (a : Addr) (h : Ow (σ.set i (some v)) (env.set i (.im d)) a) : Ow σ env a := by
  obtain ⟨j, e1, e2⟩ := h
  rcases get_set e1 with ⟨q, z, hlt⟩ | ⟨q, z⟩
  · subst q
    rcases e2 with ⟨xs, e2⟩ | ⟨C, fs, e2⟩
    · rw [List.getElem?_set_self (hl ▸ hlt)] at e2
      cases e2
    · rw [List.getElem?_set_self (hl ▸ hlt)] at e2
      cases e2
  · refine ⟨j, z, ?_⟩
    rw [List.getElem?_set_ne (Ne.symm q)] at e2
    exact e2
/-- x = e -/
theorem FR.put (f : FR F σ H env p) (r : Rep F.K F.pa (hd F σ env H) v d) (i : Nat) : FR F (σ.set i (some v)) H (env.set i (.im d)) p := by
  have v1 : Same (hd F σ env H) (hd F (σ.set i (some v)) (env.set i (.im d)) H) := hide_anti fun a z => z.elim .inl fun z => .inr (ow_put f.len a z)
  refine ⟨by simpa using f.len, f.base, f.sdom, f.spa, fun j d' z => ?_, fun j xs z => ?_, fun j C fs z => ?_, fun j k a e1 e2 z1 z2 => ?_, ?_⟩
  · rcases get_set z with ⟨q, zz, hlt⟩ | ⟨q, z⟩
    · subst q
      cases zz
      exact ⟨v, List.getElem?_set_self (f.len ▸ hlt), r.mono v1⟩
    · obtain ⟨x, h1, h2⟩ := f.im j d' z
      exact ⟨x, by rw [List.getElem?_set_ne (Ne.symm q)]; exact h1, h2.mono v1⟩
  · rcases get_set z with ⟨q, zz, hlt⟩ | ⟨q, z⟩
    · cases zz
    · obtain ⟨a, vs, h1, h2, h3, h4⟩ := f.own j xs z
      exact ⟨a, vs, by rw [List.getElem?_set_ne (Ne.symm q)]; exact h1, h2, h3.mono v1, h4⟩
  · rcases get_set z with ⟨q, zz, hlt⟩ | ⟨q, z⟩
    · cases zz
    · obtain ⟨a, dx, vs, h1, h2, h3, h4, h5⟩ := f.slf j C fs z
      exact ⟨a, dx, vs, by rw [List.getElem?_set_ne (Ne.symm q)]; exact h1, h2, h3, h4.mono v1, h5⟩
  · have ne : ∀ {j : Nat}, ((∃ xs, (env.set i (.im d))[j]? = some (.own xs)) ∨ ∃ C fs, (env.set i (.im d))[j]? = some (.slf C fs)) → j ≠ i ∧ ((∃ xs, env[j]? = some (.own xs)) ∨ ∃ C fs, env[j]? = some (.slf C fs)) := fun {j} z => by
      rcases z with ⟨xs, z⟩ | ⟨C, fs, z⟩
      · rcases get_set z with ⟨q, zz, hlt⟩ | ⟨q, z⟩
        · cases zz
        · exact ⟨q, .inl ⟨xs, z⟩⟩
      · rcases get_set z with ⟨q, zz, hlt⟩ | ⟨q, z⟩
        · cases zz
        · exact ⟨q, .inr ⟨C, fs, z⟩⟩
    obtain ⟨n1, y1⟩ := ne z1
    obtain ⟨n2, y2⟩ := ne z2
    rw [List.getElem?_set_ne (Ne.symm n1)] at e1
    rw [List.getElem?_set_ne (Ne.symm n2)] at e2
    exact f.inj j k a e1 e2 y1 y2
  · obtain ⟨vs, h1, h2⟩ := f.pen
    exact ⟨vs, h1, h2.mono v1⟩
/-- x = a new list -/
theorem FR.putOwn (f : FR F σ H env p) {a : Addr} {vs : List V} {xs : List D} (na : H a = none) (n0 : F.H0 a = none) (r : RepL F.K F.pa (hd F σ env H) vs xs) (i : Nat) : FR F (σ.set i (some (.ref a))) (upd H a (.lst vs)) (env.set i (.own xs)) p := by
  have nS : ¬ F.S a := fun z => by
    obtain ⟨o, h⟩ := f.sdom a z
    rw [na] at h
    cases h
  have sm : Same H (upd H a (.lst vs)) := same_upd na
  have ow : ∀ b, Ow (σ.set i (some (.ref a))) (env.set i (.own xs)) b → b = a ∨ Ow σ env b := fun b ⟨j, e1, e2⟩ => by
    rcases get_set e1 with ⟨q, z, hlt⟩ | ⟨q, z⟩
    · cases z
      exact .inl rfl
    · rw [List.getElem?_set_ne (Ne.symm q)] at e2
      exact .inr ⟨j, z, e2⟩
  have v1 : Same (hd F σ env H) (hd F (σ.set i (some (.ref a))) (env.set i (.own xs)) (upd H a (.lst vs))) := fun b o h => by
    obtain ⟨n, q⟩ := hide_some h
    have nb : b ≠ a := ne_of_none q na
    show hide _ _ b = some o
    rw [hide_of fun z => n (z.elim .inl fun z => (ow b z).elim (fun e => absurd e nb) .inr)]
    exact sm b o q
  refine ⟨by simpa using f.len, fun b o n h => sm _ _ (f.base b o n h), f.sdom.same sm, f.spa, fun j d' z => ?_, fun j ys z => ?_, fun j C fs z => ?_, fun j k b e1 e2 z1 z2 => ?_, ?_⟩
  · rcases get_set z with ⟨q, zz, hlt⟩ | ⟨q, z⟩
    · cases zz
    · obtain ⟨x, h1, h2⟩ := f.im j d' z
      exact ⟨x, by rw [List.getElem?_set_ne (Ne.symm q)]; exact h1, h2.mono v1⟩
  · rcases get_set z with ⟨q, zz, hlt⟩ | ⟨q, z⟩
    · subst q
      cases zz
      exact ⟨a, vs, List.getElem?_set_self (f.len ▸ hlt), upd_same, r.mono v1, n0, nS⟩
    · obtain ⟨b, ws, h1, h2, h3, h4⟩ := f.own j ys z
      exact ⟨b, ws, by rw [List.getElem?_set_ne (Ne.symm q)]; exact h1, sm _ _ h2, h3.mono v1, h4⟩
  · rcases get_set z with ⟨q, zz, hlt⟩ | ⟨q, z⟩
    · cases zz
    · obtain ⟨b, dx, ws, h1, h2, h3, h4, h5⟩ := f.slf j C fs z
      exact ⟨b, dx, ws, by rw [List.getElem?_set_ne (Ne.symm q)]; exact h1, sm _ _ h2, h3, h4.mono v1, h5⟩
  · have key : ∀ {j : Nat}, (σ.set i (some (.ref a)))[j]? = some (some (.ref b)) → ((∃ ys, (env.set i (.own xs))[j]? = some (.own ys)) ∨ ∃ C fs, (env.set i (.own xs))[j]? = some (.slf C fs)) → (j = i ∧ b = a) ∨ (j ≠ i ∧ b ≠ a ∧ σ[j]? = some (some (.ref b)) ∧ ((∃ ys, env[j]? = some (.own ys)) ∨ ∃ C fs, env[j]? = some (.slf C fs))) := fun {j} e z => by
      rcases get_set e with ⟨q, w, hlt⟩ | ⟨q, w⟩
      · cases w
        exact .inl ⟨q, rfl⟩
      · rw [List.getElem?_set_ne (Ne.symm q)] at z
        refine .inr ⟨q, fun eb => ?_, w, z⟩
        subst eb
        rcases z with ⟨ys, z⟩ | ⟨C, fs, z⟩
        · obtain ⟨c, ws, h1, h2, _⟩ := f.own j ys z
          rw [w] at h1
          cases h1
          rw [na] at h2
          cases h2
        · obtain ⟨c, dx, ws, h1, h2, _⟩ := f.slf j C fs z
          rw [w] at h1
          cases h1
          rw [na] at h2
          cases h2
    rcases key e1 z1 with ⟨q1, b1⟩ | ⟨q1, b1, w1, y1⟩
    · rcases key e2 z2 with ⟨q2, b2⟩ | ⟨q2, b2, w2, y2⟩
      · rw [q1, q2]
      · exact absurd b1 b2
    · rcases key e2 z2 with ⟨q2, b2⟩ | ⟨q2, b2, w2, y2⟩
      · exact absurd b2 b1
      · exact f.inj j k b w1 w2 y1 y2
  · obtain ⟨ws, h1, h2⟩ := f.pen
    exact ⟨ws, sm _ _ h1, h2.mono v1⟩
/-- an owned list gets other items -/
theorem FR.setOwn (f : FR F σ H env p) {i : Nat} {a : Addr} {ws : List V} {xs ys : List D} (hi : env[i]? = some (.own xs)) (ha : σ[i]? = some (some (.ref a))) (r : RepL F.K F.pa (hd F σ env H) ws ys) : FR F σ (upd H a (.lst ws)) (env.set i (.own ys)) p := by
  obtain ⟨a', vs, h1, hA, _, n0, nS⟩ := f.own i xs hi
  rw [ha] at h1
  cases h1
  have hlt : i < env.length := (List.getElem?_eq_some_iff.mp hi).1
  have isO : Ow σ env a := ⟨i, ha, .inl ⟨xs, hi⟩⟩
  have same : ∀ {j : Nat}, ((∃ zs, (env.set i (.own ys))[j]? = some (.own zs)) ∨ ∃ C fs, (env.set i (.own ys))[j]? = some (.slf C fs)) → ((∃ zs, env[j]? = some (.own zs)) ∨ ∃ C fs, env[j]? = some (.slf C fs)) := fun {j} z => by
    by_cases q : j = i
    · exact .inl ⟨xs, q ▸ hi⟩
    · rw [List.getElem?_set_ne (Ne.symm q)] at z
      exact z
  have hs : ∀ b, HS F σ (env.set i (.own ys)) b → HS F σ env b := fun b z => z.elim .inl fun ⟨j, e, z⟩ => .inr ⟨j, e, same z⟩
  have v1 : Same (hd F σ env H) (hd F σ (env.set i (.own ys)) (upd H a (.lst ws))) := fun b o h => by
    obtain ⟨n, q⟩ := hide_some h
    show hide _ _ b = some o
    have nb : b ≠ a := fun e => n (.inr (by rw [e]; exact isO))
    rw [hide_of fun z => n (hs b z), upd_ne nb]
    exact q
  have st : ∀ b o, b ≠ a → H b = some o → upd H a (.lst ws) b = some o := fun b o n h => by rw [upd_ne n]; exact h
  refine ⟨by simpa using f.len, fun b o n h => ?_, fun b z => ?_, f.spa, fun j d' z => ?_, fun j zs z => ?_, fun j C fs z => ?_, fun j k b e1 e2 z1 z2 => f.inj j k b e1 e2 (same z1) (same z2), ?_⟩
  · exact st b o (fun e => by rw [e, n0] at h; cases h) (f.base b o n h)
  · obtain ⟨o, h⟩ := f.sdom b z
    exact ⟨o, st b o (fun e => nS (e ▸ z)) h⟩
  · rcases get_set z with ⟨q, zz, _⟩ | ⟨q, z⟩
    · cases zz
    · obtain ⟨x, h1, h2⟩ := f.im j d' z
      exact ⟨x, h1, h2.mono v1⟩
  · rcases get_set z with ⟨q, zz, _⟩ | ⟨q, z⟩
    · subst q
      cases zz
      exact ⟨a, ws, ha, upd_same, r.mono v1, n0, nS⟩
    · obtain ⟨b, us, h1, h2, h3, h4⟩ := f.own j zs z
      exact ⟨b, us, h1, st b _ (fun e => q (f.inj j i a (e ▸ h1) ha (.inl ⟨zs, z⟩) (.inl ⟨xs, hi⟩))) h2, h3.mono v1, h4⟩
  · rcases get_set z with ⟨q, zz, _⟩ | ⟨q, z⟩
    · cases zz
    · obtain ⟨b, dx, us, h1, h2, h3, h4, h5⟩ := f.slf j C fs z
      exact ⟨b, dx, us, h1, st b _ (fun e => q (f.inj j i a (e ▸ h1) ha (.inr ⟨C, fs, z⟩) (.inl ⟨xs, hi⟩))) h2, h3, h4.mono v1, h5⟩
  · obtain ⟨us, h1, h2⟩ := f.pen
    exact ⟨us, st _ _ (fun e => nS (e ▸ f.spa)) h1, h2.mono v1⟩
/-- an owned list is let go: from now on data -/
theorem FR.freeze (f : FR F σ H env p) {i : Nat} {xs : List D} (hi : env[i]? = some (.own xs)) : FR F σ H (env.set i (.im (.lst xs))) p := by
  obtain ⟨a, vs, ha, hA, hr, n0, nS⟩ := f.own i xs hi
  have hlt : i < env.length := (List.getElem?_eq_some_iff.mp hi).1
  have back : ∀ {j : Nat}, ((∃ zs, (env.set i (.im (.lst xs)))[j]? = some (.own zs)) ∨ ∃ C fs, (env.set i (.im (.lst xs)))[j]? = some (.slf C fs)) → j ≠ i ∧ ((∃ zs, env[j]? = some (.own zs)) ∨ ∃ C fs, env[j]? = some (.slf C fs)) := fun {j} z => by
    by_cases q : j = i
    · subst q
      rw [List.getElem?_set_self hlt] at z
      rcases z with ⟨_, z⟩ | ⟨_, _, z⟩ <;> cases z
    · rw [List.getElem?_set_ne (Ne.symm q)] at z
      exact ⟨q, z⟩
  have hs : ∀ b, HS F σ (env.set i (.im (.lst xs))) b → HS F σ env b := fun b z => z.elim .inl fun ⟨j, e, z⟩ => .inr ⟨j, e, (back z).2⟩
  have v1 : Same (hd F σ env H) (hd F σ (env.set i (.im (.lst xs))) H) := hide_anti hs
  have vis : hd F σ (env.set i (.im (.lst xs))) H a = some (.lst vs) := by
    show hide _ _ a = some _
    rw [hide_of]
    · exact hA
    · rintro (z | ⟨j, e, z⟩)
      · exact nS z
      · obtain ⟨q, z⟩ := back z
        exact q (f.inj j i a e ha z (.inl ⟨xs, hi⟩))
  refine ⟨by simpa using f.len, f.base, f.sdom, f.spa, fun j d' z => ?_, fun j zs z => ?_, fun j C fs z => ?_, fun j k b e1 e2 z1 z2 => f.inj j k b e1 e2 (back z1).2 (back z2).2, ?_⟩
  · rcases get_set z with ⟨q, zz, _⟩ | ⟨q, z⟩
    · subst q
      cases zz
      exact ⟨.ref a, ha, .lst vis (hr.mono v1)⟩
    · obtain ⟨x, h1, h2⟩ := f.im j d' z
      exact ⟨x, h1, h2.mono v1⟩
  · rcases get_set z with ⟨q, zz, _⟩ | ⟨q, z⟩
    · cases zz
    · obtain ⟨b, us, h1, h2, h3, h4⟩ := f.own j zs z
      exact ⟨b, us, h1, h2, h3.mono v1, h4⟩
  · rcases get_set z with ⟨q, zz, _⟩ | ⟨q, z⟩
    · cases zz
    · obtain ⟨b, dx, us, h1, h2, h3, h4, h5⟩ := f.slf j C fs z
      exact ⟨b, dx, us, h1, h2, h3, h4.mono v1, h5⟩
  · obtain ⟨us, h1, h2⟩ := f.pen
    exact ⟨us, h1, h2.mono v1⟩
end
/-! ### statements -/
def sNil : SM := fun env p => some (.nx env, p)
def sSeq (a b : SM) : SM := fun env p => match a env p with
  | some (.nx env', p1) => b env' p1
  | r => r
/-- go on with an expression's value -/
def eS (m : EM) (k : D → SM) : SM := fun env p => match m env p with
  | some (.val d, p1) => k d env p1
  | some (.exc C fs, p1) => some (.exc C fs env, p1)
  | none => none
def sExpr (m : EM) : SM := eS m fun _ => sNil
def sRet (m : EM) : SM := eS m fun d _ p => some (.ret d, p)
def sRetN : SM := fun _ p => some (.ret .non, p)
def sIf (c : EM) (a b : SM) : SM := eS c fun d => match d with
  | .bl k => if k = true then a else b
  | _ => fun _ _ => none
def sSet (i : Nat) (m : EM) : SM := eS m fun d env p => some (.nx (env.set i (.im d)), p)
def sBrk : SM := fun env p => some (.brk env, p)
def sCnt : SM := fun env p => some (.cnt env, p)
def sFrz (i : Nat) (m : SM) : SM := fun env p => match env[i]? with
  | some (.own xs) => m (env.set i (.im (.lst xs))) p
  | _ => none
section
variable {X : Cx} {F : FX} {W : WX} {st : Stmt} {rest : List Stmt} {m : SM} {u : SM} {e : Expr} {em : EM} {pos : Pos}
theorem s_nil : PSs X [] (tSt F W sNil) := pss_nil.imp fun E σ H ⟨env, p, fl, p', f, q, k⟩ => by
  cases q
  exact k σ H f
theorem s_cons (h1 : PS X st (tSt F W m)) (h2 : PSs X rest (tSt F W u)) : PSs X (st :: rest) (tSt F W (sSeq m u)) := (pss_cons h1 h2).imp fun E σ H ⟨env, p, fl, p', f, q, k⟩ => by
  unfold sSeq at q
  cases z : m env p with
  | none =>
    rw [z] at q
    cases q
  | some r =>
    obtain ⟨g, p1⟩ := r
    rw [z] at q
    refine ⟨env, p, g, p1, f, z, ?_⟩
    cases g with
    | nx env' => exact fun σ' H' f' => ⟨env', p1, fl, p', f', q, k⟩
    | ret d => cases q; exact k
    | brk env' => cases q; exact k
    | cnt env' => cases q; exact k
    | exc C fs env' => cases q; exact k
theorem s_one (h1 : PS X st (tSt F W m)) : PSs X [st] (tSt F W m) := pss_one h1
/-- the frozen one -/
theorem s_frz {sts : List Stmt} {i : Nat} (h : PSs X sts (tSt F W m)) : PSs X sts (tSt F W (sFrz i m)) := h.imp fun E σ H ⟨env, p, fl, p', f, q, k⟩ => by
  unfold sFrz at q
  split at q
  · exact ⟨_, p, fl, p', f.freeze ‹_›, q, k⟩
  · cases q
theorem i_eS {k : D → SM} {E : Ends} {σ : L2.St} {H : Hp} {R : VK} (h : tSt F W (eS em k) E σ H)
    (hk : ∀ env p d p1 v H1 fl p', FR F σ H1 env p1 → Rep F.K F.pa (hd F σ env H1) v d → em env p = some (.val d, p1) → k d env p1 = some (fl, p') → SV F W E fl p' → R v H1) : tE F W em σ H R := by
  obtain ⟨env, p, fl, p', f, q, kk⟩ := h
  unfold eS at q
  cases z : em env p with
  | none =>
    rw [z] at q
    cases q
  | some r =>
    obtain ⟨o, p1⟩ := r
    rw [z] at q
    refine ⟨env, p, o, p1, f, z, ?_⟩
    cases o with
    | val d => exact fun v H1 f1 s1 r1 => hk env p d p1 v H1 fl p' f1 r1 z q kk
    | exc C fs =>
      cases q
      exact fun d H1 f1 s1 r1 => kk d σ H1 f1 r1
theorem s_expr (he : PE X e (tE F W em)) (hs : swapsWith e none pos.line X.env = pure false := by rfl) : PS X (.Expr e pos) (tSt F W (sExpr em)) := (ps_expr he hs).imp fun E σ H h => i_eS h fun env p d p1 v H1 fl p' f1 r1 _ q k => by
  cases q
  exact k σ H1 f1
theorem s_ret (he : PE X e (tE F W em)) : PS X (.Return (some e) pos) (tSt F W (sRet em)) := (ps_ret he).imp fun E σ H h => i_eS h fun env p d p1 v H1 fl p' f1 r1 _ q k => by
  cases q
  exact k v H1 (f1.ret r1)
theorem s_retN : PS X (.Return none pos) (tSt F W sRetN) := ps_retN.imp fun E σ H ⟨env, p, fl, p', f, q, k⟩ => by
  cases q
  exact k .non H (f.ret .non)
theorem s_brk : PS X (.Break pos) (tSt F W sBrk) := ps_break.imp fun E σ H ⟨env, p, fl, p', f, q, k⟩ => by
  cases q
  exact k σ H f
theorem s_cnt : PS X (.Continue pos) (tSt F W sCnt) := ps_continue.imp fun E σ H ⟨env, p, fl, p', f, q, k⟩ => by
  cases q
  exact k σ H f
theorem s_pass : PS X (.Pass pos) (tSt F W sNil) := ps_pass.imp fun E σ H ⟨env, p, fl, p', f, q, k⟩ => by
  cases q
  exact k σ H f
theorem i_tst {E : Ends} {σ : L2.St} {H : Hp} {R : Bool → Hp → Prop} {k : D → SM} (h : tSt F W (eS em k) E σ H)
    (hn : ∀ d env p, (∀ b, d ≠ .bl b) → k d env p = none)
    (hk : ∀ env p b p1 H1 fl p', FR F σ H1 env p1 → em env p = some (.val (.bl b), p1) → k (.bl b) env p1 = some (fl, p') → SV F W E fl p' → R b H1) : tT F W em σ H R := by
  obtain ⟨env, p, fl, p', f, q, kk⟩ := h
  unfold eS at q
  cases z : em env p with
  | none =>
    rw [z] at q
    cases q
  | some r =>
    obtain ⟨o, p1⟩ := r
    rw [z] at q
    refine ⟨env, p, o, p1, f, z, ?_⟩
    cases o with
    | val d =>
      cases d with
      | bl b => exact ⟨b, rfl, fun H1 f1 s1 => hk env p b p1 H1 fl p' f1 z q kk⟩
      | _ =>
        dsimp only at q
        rw [hn _ _ _ (fun b => by intro z; cases z)] at q
        cases q
    | exc C fs =>
      cases q
      exact fun d H1 f1 s1 r1 => kk d σ H1 f1 r1
theorem s_if {c : Expr} {cm : EM} {a b : List Stmt} {ma mb : SM} (hc : PT X c (tT F W cm)) (ha : PSs X a (tSt F W ma)) (hb : PSs X b (tSt F W mb)) : PS X (.If c a b pos) (tSt F W (sIf cm ma mb)) := (ps_if hc ha hb).imp fun E σ H h => by
  refine i_tst h (fun d env p hn => ?_) fun env p b p1 H1 fl p' f1 _ q k => ?_
  · cases d <;> first | rfl | exact absurd rfl (hn _)
  · cases b with
    | true => exact ⟨env, p1, fl, p', f1, q, k⟩
    | false => exact ⟨env, p1, fl, p', f1, q, k⟩
theorem s_set {i : Nat} {x : Str} {pos' : Pos} (hN : X.N.Nodup) (hi : X.N[i]? = some x) (hx : Loc X.env.scope x) (he : PE X e (tE F W em)) (hs : swapsWith e (some (.Name x pos')) pos.line X.env = pure false := by rfl)
    (hf : X.fn x = true ∨ X.env.scope.names.lookup x = some .local := by first | exact .inl rfl | exact .inr rfl | assumption) : PS X (.Assign [.Name x pos'] e pos) (tSt F W (sSet i em)) := (ps_set hN hi hx he hs hf).imp fun E σ H h => i_eS h fun env p d p1 v H1 fl p' f1 r1 _ q k => by
  cases q
  exact k _ H1 (f1.put r1 i)
end
end MS
set_option Elab.async false
set_option linter.all false
set_option maxRecDepth 100000
set_option autoImplicit false
set_option maxHeartbeats 4000000
/-! MS4: owned lists, loops, defs and their calls. -/
namespace MS
open PySem PySem.Spec PyProof.Rows L2
theorem _root_.L2.PG.imp {X : Cx} {e : Expr} {t t' : TG} (h : PG X e t) (i : ∀ v σ H Q, t' v σ H Q → t v σ H Q) : PG X e t' := ⟨fun pins s σ H v u Q I r z => h.run pins s σ H v u Q I r (i v σ H Q z)⟩
theorem _root_.L2.PGs.imp {X : Cx} {e : List Expr} {t t' : TGs} (h : PGs X e t) (i : ∀ v σ H Q, t' v σ H Q → t v σ H Q) : PGs X e t' := ⟨fun pins s σ H v u Q I r z => h.run pins s σ H v u Q I r (i v σ H Q z)⟩
theorem FR.fresh {F : FX} {σ : L2.St} {H : Hp} {env : En} {p : Pn} (f : FR F σ H env p) {a : Addr} (h : H a = none) : F.H0 a = none := by
  cases q : F.H0 a with
  | none => rfl
  | some o =>
    by_cases e : a = F.pa
    · obtain ⟨vs, z, _⟩ := f.pen
      rw [e, z] at h
      cases h
    · rw [f.base a o e q] at h
      cases h
def aS (ms : AM) (k : List D → SM) : SM := fun env p => match ms env p with
  | some (.vals ds, p1) => k ds env p1
  | some (.exc C fs, p1) => some (.exc C fs env, p1)
  | none => none
def sOwn (i : Nat) (ms : AM) : SM := aS ms fun ds env p => if ds.length ≤ 1000000 then some (.nx (env.set i (.own ds)), p) else none
def sAppend (i : Nat) (m : EM) : SM := fun env p => match env[i]? with
  | some (.own xs) => (match m env p with
    | some (.val d, p1) => if xs.length < 1000000 then some (.nx (env.set i (.own (xs ++ [d]))), p1) else none
    | some (.exc C fs, p1) => some (.exc C fs env, p1)
    | none => none)
  | _ => none
def sAug (i : Nat) (g : D → D → Option D) (m : EM) : SM := fun env p => match env[i]? with
  | some (.im x) => (match m env p with
    | some (.val y, p1) => (match g x y with
      | some z => some (.nx (env.set i (.im z)), p1)
      | none => none)
    | some (.exc C fs, p1) => some (.exc C fs env, p1)
    | none => none)
  | _ => none
def sPar2 (i j : Nat) (ms : AM) : SM := aS ms fun ds env p => match ds with
  | [x, y] => some (.nx ((env.set i (.im x)).set j (.im y)), p)
  | _ => none
def sPar3 (i j l : Nat) (ms : AM) : SM := aS ms fun ds env p => match ds with
  | [x, y, z] => some (.nx (((env.set i (.im x)).set j (.im y)).set l (.im z)), p)
  | _ => none
section
variable {X : Cx} {F : FX} {W : WX} {e : Expr} {es : List Expr} {em : EM} {ms : AM} {pos : Pos} {k : Nat}
theorem i_aS {q : List D → SM} {E : Ends} {σ : L2.St} {H : Hp} {R : List V → Hp → Prop} (h : tSt F W (aS ms q) E σ H)
    (hk : ∀ env p ds p1 vs H1 fl p', FR F σ H1 env p1 → RepL F.K F.pa (hd F σ env H1) vs ds → ms env p = some (.vals ds, p1) → q ds env p1 = some (fl, p') → SV F W E fl p' → R vs H1) : tAr F W ms σ H R := by
  obtain ⟨env, p, fl, p', f, e, kk⟩ := h
  unfold aS at e
  cases z : ms env p with
  | none =>
    rw [z] at e
    cases e
  | some r =>
    obtain ⟨o, p1⟩ := r
    rw [z] at e
    refine ⟨env, p, o, p1, f, z, ?_⟩
    cases o with
    | vals d => exact fun v H1 f1 s1 r1 => hk env p d p1 v H1 fl p' f1 r1 z e kk
    | exc C fs =>
      cases e
      exact fun d H1 f1 s1 r1 => kk d σ H1 f1 r1
/-- x = [..], a list that will be changed -/
theorem s_own {i : Nat} {x : Str} {pos' pos2 : Pos} (hN : X.N.Nodup) (hi : X.N[i]? = some x) (hx : Loc X.env.scope x) (ha : PA X es (tAr F W ms)) (hs : swapsWith (.List es pos2) (some (.Name x pos')) pos.line X.env = pure false := by rfl)
    (hf : X.fn x = true ∨ X.env.scope.names.lookup x = some .local := by first | exact .inl rfl | exact .inr rfl | assumption) : PS X (.Assign [.Name x pos'] (.List es pos2) pos) (tSt F W (sOwn i ms)) := (ps_set hN hi hx (pe_lst ha) hs hf).imp fun E σ H h => i_aS h fun env p ds p1 vs H1 fl p' f1 r1 _ q k => by
  split at q
  · cases q
    exact ⟨r1.length ▸ line_of ‹_›, fun a na => k _ _ (f1.putOwn na (f1.fresh na) r1 i)⟩
  · cases q
theorem line_lt {n : Nat} (h : n < 1000000) : n < sizeLine := Nat.lt_of_lt_of_le h (by decide)
/-- x.append(e) -/
theorem s_append {i : Nat} {c : Expr} (h : PE X c (tBM X.K "list" rAppend (tVar i) (tCons (tE F W em) tNil))) (hs : swapsWith c none pos.line X.env = pure false := by rfl) : PS X (.Expr c pos) (tSt F W (sAppend i em)) := (ps_expr h hs).imp fun E σ H ⟨env, p, fl, p', f, q, k⟩ => by
  unfold sAppend at q
  split at q
  · rename_i xs hi
    obtain ⟨a, vs, e1, hA, hr, _⟩ := f.own i xs hi
    refine ⟨.ref a, e1, .inl ⟨rfl, vs, .inl (.inl hA)⟩, ?_⟩
    cases z : em env p with
    | none =>
      rw [z] at q
      cases q
    | some r =>
      obtain ⟨o, p1⟩ := r
      rw [z] at q
      refine ⟨env, p, o, p1, f, z, ?_⟩
      cases o with
      | exc C fs =>
        cases q
        exact fun d H1 f1 s1 r1 => k d σ H1 f1 r1
      | val d =>
        intro v H1 f1 s1 r1
        dsimp only at q
        split at q
        · cases q
          refine ⟨a, vs, v, rfl, rfl, s1 _ _ (f.own_ne hi e1) hA, hr.length ▸ line_lt ‹_›, ?_⟩
          exact k σ _ (f1.setOwn hi e1 ((hr.mono (f.visK s1)).append (.cons r1 .nil)))
        · cases q
  · cases q
/-- x op= e -/
def IpD (K : PySem.W.Frag) (ti : TIp) (g : D → D → Option D) : Prop := R2D K ti g
theorem s_aug {i : Nat} {x : Str} {op : Operator} {ti : TIp} {g : D → D → Option D} {pos' : Pos} (hN : X.N.Nodup) (hi : X.N[i]? = some x) (hx : Loc X.env.scope x) (ho : PIp X op ti) (hr : R2D F.K ti g) (he : PE X e (tE F W em))
    (hf : X.fn x = true ∨ X.env.scope.names.lookup x = some .local := by first | exact .inl rfl | exact .inr rfl | assumption) : PS X (.AugAssign (.Name x pos') op e pos) (tSt F W (sAug i g em)) := (ps_aug hN hi hx he ho hf).imp fun E σ H ⟨env, p, fl, p', f, q, k⟩ => by
  unfold sAug at q
  split at q
  · rename_i a hi
    obtain ⟨v, e1, r0⟩ := f.im i a hi
    refine ⟨v, e1, ?_⟩
    cases z : em env p with
    | none =>
      rw [z] at q
      cases q
    | some r =>
      obtain ⟨o, p1⟩ := r
      rw [z] at q
      refine ⟨env, p, o, p1, f, z, ?_⟩
      cases o with
      | exc C fs =>
        cases q
        exact fun d H1 f1 s1 r1 => k d σ H1 f1 r1
      | val d =>
        intro y H1 f1 s1 r1
        dsimp only at q
        split at q
        · rename_i c hc
          cases q
          exact hr F.pa _ H1 v y a d c _ f1.dom (r0.mono (f.visK s1)) r1 hc fun w H2 s2 r2 => k _ H2 ((f1.grow s2).put r2 i)
        · cases q
  · cases q
theorem ip_addI {K : PySem.W.Frag} : R2D K (ipI fun i j => i + j) addI := fun pa S H x y a b d Q _ r1 r2 e k => by
  cases r1 with
  | int i =>
    cases r2 with
    | int j =>
      cases e
      exact ⟨i, j, rfl, rfl, k _ H (Same.refl _) (.int _)⟩
    | _ => cases e
  | _ => cases e
theorem put2 {σ : L2.St} {H : Hp} {env : En} {p : Pn} {v w : V} {x y : D} {i j : Nat} (f : FR F σ H env p) (r1 : Rep F.K F.pa (hd F σ env H) v x) (r2 : Rep F.K F.pa (hd F σ env H) w y) :
    FR F ((σ.set i (some v)).set j (some w)) H ((env.set i (.im x)).set j (.im y)) p :=
  (f.put r1 i).put (r2.mono (hide_anti fun a z => z.elim .inl fun z => .inr (ow_put f.len a z))) j
theorem vis_put {σ : L2.St} {H : Hp} {env : En} {p : Pn} {v : V} {x : D} {i : Nat} (f : FR F σ H env p) : Same (hd F σ env H) (hd F (σ.set i (some v)) (env.set i (.im x)) H) := hide_anti fun a z => z.elim .inl fun z => .inr (ow_put f.len a z)
theorem s_par2 {i j : Nat} {x y : Str} {a b : Expr} {px py pt : Pos} {kt k2 pt2} (hc : X.calm = true) (hN : X.N.Nodup) (hi : X.N[i]? = some x) (hj : X.N[j]? = some y) (hij : i ≠ j)
    (hx : X.env.scope.names.lookup x = some .local) (hy : X.env.scope.names.lookup y = some .local) (ha : PA X [a, b] (tAr F W ms))
    (hw : swappedStores [.Tuple [.Name x px, .Name y py] kt pt] (.Tuple [a, b] k2 pt2) X.env = pure (some [x, y]))
    (hs : swapsWithSole [.Tuple [.Name x px, .Name y py] kt pt] (.Tuple [a, b] k2 pt2) pos.line X.env = pure false := by rfl) :
    PS X (.Assign [.Tuple [.Name x px, .Name y py] kt pt] (.Tuple [a, b] k2 pt2) pos) (tSt F W (sPar2 i j ms)) := (ps_par hc hN hi hj hij hx hy ha hw hs).imp fun E σ H h => i_aS h fun env p ds p1 vs H1 fl p' f1 r1 _ q k => by
  split at q
  · cases q
    cases r1 with
    | cons h1 r =>
      cases r with
      | cons h2 r =>
        cases r
        exact ⟨_, _, rfl, k _ H1 (put2 f1 h1 h2)⟩
  · cases q
theorem s_par3 {i j l : Nat} {x y z : Str} {a b c : Expr} {px py pz pt : Pos} {kt k2 pt2} (hc : X.calm = true) (hN : X.N.Nodup) (hi : X.N[i]? = some x) (hj : X.N[j]? = some y) (hl : X.N[l]? = some z) (hij : i ≠ j) (hil : i ≠ l) (hjl : j ≠ l)
    (hx : X.env.scope.names.lookup x = some .local) (hy : X.env.scope.names.lookup y = some .local) (hz : X.env.scope.names.lookup z = some .local) (ha : PA X [a, b, c] (tAr F W ms))
    (hw : swappedStores [.Tuple [.Name x px, .Name y py, .Name z pz] kt pt] (.Tuple [a, b, c] k2 pt2) X.env = pure (some [x, y, z]))
    (hs : swapsWithSole [.Tuple [.Name x px, .Name y py, .Name z pz] kt pt] (.Tuple [a, b, c] k2 pt2) pos.line X.env = pure false := by rfl) :
    PS X (.Assign [.Tuple [.Name x px, .Name y py, .Name z pz] kt pt] (.Tuple [a, b, c] k2 pt2) pos) (tSt F W (sPar3 i j l ms)) := (ps_par3 hc hN hi hj hl hij hil hjl hx hy hz ha hw hs).imp fun E σ H h => i_aS h fun env p ds p1 vs H1 fl p' f1 r1 _ q k => by
  split at q
  · cases q
    cases r1 with
    | cons h1 r =>
      cases r with
      | cons h2 r =>
        cases r with
        | cons h3 r =>
          cases r
          exact ⟨_, _, _, rfl, k _ H1 ((put2 f1 h1 h2).put ((h3.mono (vis_put f1)).mono (vis_put (f1.put h1 i))) l)⟩
  · cases q
end
/-! ### while -/
def whileN (c : EM) (b : SM) : Nat → SM
  | 0 => fun _ _ => none
  | n + 1 => eS c fun d => match d with
    | .bl k => if k = true then (fun env p => match b env p with
        | some (.nx env', p2) => whileN c b n env' p2
        | some (.cnt env', p2) => whileN c b n env' p2
        | some (.brk env', p2) => some (.nx env', p2)
        | r => r) else sNil
    | _ => fun _ _ => none
theorem whileN_step {c : EM} {b : SM} : ∀ {n : Nat} {env : En} {p : Pn} {r : Fl × Pn}, whileN c b n env p = some r → whileN c b (n + 1) env p = some r
  | 0, _, _, _, h => by cases h
  | n + 1, env, p, r, h => by
    unfold whileN at h ⊢
    unfold eS at h ⊢
    cases z : c env p with
    | none => rw [z] at h; cases h
    | some o =>
      obtain ⟨o, p1⟩ := o
      rw [z] at h
      cases o with
      | exc C fs => exact h
      | val d =>
        cases d with
        | bl k =>
          cases k with
          | false => exact h
          | true =>
            dsimp only at h ⊢
            rw [if_pos rfl] at h ⊢
            cases y : b env p1 with
            | none => rw [y] at h; cases h
            | some g =>
              obtain ⟨g, p2⟩ := g
              rw [y] at h
              cases g with
              | nx env' => exact whileN_step h
              | cnt env' => exact whileN_step h
              | _ => exact h
        | _ => exact h
theorem whileN_le {c : EM} {b : SM} {n m : Nat} {env : En} {p : Pn} {r : Fl × Pn} (h : whileN c b n env p = some r) (l : n ≤ m) : whileN c b m env p = some r := by
  induction l with
  | refl => exact h
  | step _ ih => exact whileN_step ih
open Classical in
/-- the loop's end, if it has one -/
noncomputable def sWhile (c : EM) (b : SM) : SM := fun env p => if h : ∃ n r, whileN c b n env p = some r then whileN c b h.choose env p else none
theorem sWhile_some {c : EM} {b : SM} {env : En} {p : Pn} {r : Fl × Pn} : sWhile c b env p = some r ↔ ∃ n, whileN c b n env p = some r := by
  unfold sWhile
  constructor
  · intro h
    split at h
    · exact ⟨_, h⟩
    · cases h
  · rintro ⟨n, h⟩
    have hx : ∃ n r, whileN c b n env p = some r := ⟨n, r, h⟩
    rw [dif_pos hx]
    obtain ⟨r', h'⟩ := hx.choose_spec
    rw [h']
    have e1 := whileN_le h (Nat.le_max_left n hx.choose)
    have e2 := whileN_le h' (Nat.le_max_right n hx.choose)
    rw [e1] at e2
    exact e2.symm
section
variable {X : Cx} {F : FX} {W : WX} {pos : Pos}
theorem s_while {c : Expr} {body : List Stmt} {cm : EM} {b : SM} (hp : PassesOwn (model X.prog X.w) X.A X.env X.xe) (hc : PT X c (tT F W cm)) (hb : PSs X body (tSt F W b)) : PS X (.While c body [] pos) (tSt F W (sWhile cm b)) := (ps_while hp hc hb).imp fun E σ H ⟨env, p, fl, p', f, q, k⟩ => by
  obtain ⟨n, hn⟩ := sWhile_some.mp q
  refine ⟨fun m σ H => tSt F W (whileN cm b m) E σ H, ⟨n, env, p, fl, p', f, hn, k⟩, ?_⟩
  rintro m σ H hm
  cases m with
  | zero =>
    obtain ⟨_, _, _, _, _, z, _⟩ := hm
    cases z
  | succ m =>
    unfold whileN at hm
    refine i_tst (E := E) hm (fun d env p hn => ?_) fun env p kb p1 H1 fl1 p1' f1 _ q1 k1 => ?_
    · cases d <;> first | rfl | exact absurd rfl (hn _)
    · cases kb with
      | false =>
        rw [if_neg Bool.false_ne_true]
        cases q1
        exact k1 σ H1 f1
      | true =>
        rw [if_pos rfl]
        have q2 : (match b env p1 with
          | some (.nx env', p2) => whileN cm b m env' p2
          | some (.cnt env', p2) => whileN cm b m env' p2
          | some (.brk env', p2) => some (.nx env', p2)
          | r => r) = some (fl1, p1') := q1
        refine ⟨fun σ' H' => tSt F W (whileN cm b m) E σ' H', fun σ' H' z => ⟨m, Nat.lt_succ_self m, z⟩, ?_⟩
        cases y : b env p1 with
        | none => rw [y] at q2; cases q2
        | some g =>
          obtain ⟨g, p2⟩ := g
          rw [y] at q2
          refine ⟨env, p1, g, p2, f1, y, ?_⟩
          cases g with
          | nx env' => exact fun σ' H' f' => ⟨env', p2, fl1, p1', f', q2, k1⟩
          | cnt env' => exact fun σ' H' f' => ⟨env', p2, fl1, p1', f', q2, k1⟩
          | brk env' => cases q2; exact k1
          | ret d => cases q2; exact k1
          | exc C fs env' => cases q2; exact k1
end
/-! ### locked: what is seen now stays -/
noncomputable def FX.lock (F : FX) (V : Hp) : FX := { F with H0 := fun b => match V b with
  | some o => some o
  | none => F.H0 b }
section
variable {F : FX} {σ σ' : L2.St} {H H' : Hp} {env env' : En} {p p' : Pn}
theorem lock_some {V : Hp} {b : Addr} {o : HO} (h : V b = some o) : (F.lock V).H0 b = some o := by
  show (match V b with
    | some o => some o
    | none => F.H0 b) = some o
  rw [h]
theorem lock_none {V : Hp} {b : Addr} (h : V b = none) : (F.lock V).H0 b = F.H0 b := by
  show (match V b with
    | some o => some o
    | none => F.H0 b) = _
  rw [h]
theorem hide_none {S : Addr → Prop} {b : Addr} (h : S b) : hide S H b = none := by
  unfold hide
  rw [if_pos h]
theorem FR.lock (f : FR F σ H env p) : FR (F.lock (hd F σ env H)) σ H env p := by
  refine ⟨f.len, fun b o n h => ?_, f.sdom, f.spa, f.im, fun i xs z => ?_, fun i C fs z => ?_, f.inj, f.pen⟩
  · cases q : hd F σ env H b with
    | some u =>
      rw [lock_some q] at h
      cases h
      exact (hide_some q).2
    | none =>
      rw [lock_none q] at h
      exact f.base b o n h
  · obtain ⟨a, vs, h1, h2, h3, h4, h5⟩ := f.own i xs z
    exact ⟨a, vs, h1, h2, h3, by rw [lock_none (hide_none (.inr ⟨i, h1, .inl ⟨xs, z⟩⟩))]; exact h4, h5⟩
  · obtain ⟨a, dx, vs, h1, h2, h3, h4, h5, h6⟩ := f.slf i C fs z
    exact ⟨a, dx, vs, h1, h2, h3, h4, by rw [lock_none (hide_none (.inr ⟨i, h1, .inr ⟨C, fs, z⟩⟩))]; exact h5, h6⟩
/-- at H the lock was laid -/
theorem FR.unlock (f : FR F σ H env p) (g : FR (F.lock (hd F σ env H)) σ' H' env' p') : FR F σ' H' env' p' := by
  have n0 : ∀ {a : Addr}, (F.lock (hd F σ env H)).H0 a = none → F.H0 a = none := fun {a} h => by
    cases q : hd F σ env H a with
    | some u =>
      rw [lock_some q] at h
      cases h
    | none =>
      rw [lock_none q] at h
      exact h
  refine ⟨g.len, fun b o n h => g.base b o n ?_, g.sdom, g.spa, g.im, fun i xs z => ?_, fun i C fs z => ?_, g.inj, g.pen⟩
  · cases q : hd F σ env H b with
    | some u =>
      rw [lock_some q]
      have z := f.base b o n h
      rw [(hide_some q).2] at z
      exact z
    | none =>
      rw [lock_none q]
      exact h
  · obtain ⟨a, vs, h1, h2, h3, h4, h5⟩ := g.own i xs z
    exact ⟨a, vs, h1, h2, h3, n0 h4, h5⟩
  · obtain ⟨a, dx, vs, h1, h2, h3, h4, h5, h6⟩ := g.slf i C fs z
    exact ⟨a, dx, vs, h1, h2, h3, h4, n0 h5, h6⟩
/-- what was seen is still seen -/
theorem FR.seen (f : FR F σ H env p) (g : FR (F.lock (hd F σ env H)) σ' H' env' p') : Same (hd F σ env H) (hd (F.lock (hd F σ env H)) σ' env' H') := fun b o h => by
  have h0 : (F.lock (hd F σ env H)).H0 b = some o := lock_some h
  obtain ⟨n, q⟩ := hide_some h
  have nS : ¬ F.S b := fun z => n (.inl z)
  show hide _ _ b = some o
  rw [hide_of]
  · exact g.base b o (fun e => nS (e ▸ f.spa)) h0
  · rintro (z | ⟨i, e, z⟩)
    · exact nS z
    · rcases z with ⟨xs, z⟩ | ⟨C, fs, z⟩
      · obtain ⟨a, vs, h1, _, _, h4, _⟩ := g.own i xs z
        rw [e] at h1
        cases h1
        rw [h0] at h4
        cases h4
      · obtain ⟨a, dx, vs, h1, _, _, _, h4, _⟩ := g.slf i C fs z
        rw [e] at h1
        cases h1
        rw [h0] at h4
        cases h4
theorem SV.unlock {W : WX} {E : Ends} (f : FR F σ H env p) {fl : Fl} {p' : Pn} (h : SV F W E fl p') : SV (F.lock (hd F σ env H)) W E fl p' := by
  cases fl with
  | nx env' => exact fun σ' H' g => h σ' H' (f.unlock g)
  | brk env' => exact fun σ' H' g => h σ' H' (f.unlock g)
  | cnt env' => exact fun σ' H' g => h σ' H' (f.unlock g)
  | exc C fs env' => exact fun d σ' H' g r => h d σ' H' (f.unlock g) r
  | ret d =>
    refine fun v H' r => h v H' ⟨fun b o n q => ?_, r.rep, r.pen⟩
    refine r.base b o n ?_
    cases z : hd F σ env H b with
    | some u =>
      rw [lock_some z]
      have y := f.base b o n q
      rw [(hide_some z).2] at y
      exact y
    | none =>
      rw [lock_none z]
      exact q
end
/-! ### targets -/
/-- only these slots are others -/
def Only (is : List Nat) (σ σ' : L2.St) : Prop := σ'.length = σ.length ∧ ∀ j, j ∉ is → σ'[j]? = σ[j]?
theorem Only.trans {is js : List Nat} {σ σ1 σ2 : L2.St} (h : Only is σ σ1) (h' : Only js σ1 σ2) : Only (is ++ js) σ σ2 :=
  ⟨h'.1.trans h.1, fun j n => (h'.2 j fun z => n (List.mem_append_right _ z)).trans (h.2 j fun z => n (List.mem_append_left _ z))⟩
def OnlyE (is : List Nat) (env env' : En) : Prop := ∀ j, j ∉ is → env'[j]? = env[j]?
theorem OnlyE.trans {is js : List Nat} {a b c : En} (h : OnlyE is a b) (h' : OnlyE js b c) : OnlyE (is ++ js) a c := fun j n => (h' j fun z => n (List.mem_append_right _ z)).trans (h j fun z => n (List.mem_append_left _ z))
def tG (F : FX) (is : List Nat) (g : D → En → Option En) : TG := fun v σ H Q => ∃ env p d env', FR F σ H env p ∧ Rep F.K F.pa (hd F σ env H) v d ∧ g d env = some env' ∧ ∀ σ', FR F σ' H env' p → Same (hd F σ env H) (hd F σ' env' H) → Only is σ σ' → OnlyE is env env' → Q σ' H
def tGs (F : FX) (is : List Nat) (g : List D → En → Option En) : TGs := fun vs σ H Q => ∃ env p ds env', FR F σ H env p ∧ RepL F.K F.pa (hd F σ env H) vs ds ∧ g ds env = some env' ∧ ∀ σ', FR F σ' H env' p → Same (hd F σ env H) (hd F σ' env' H) → Only is σ σ' → OnlyE is env env' → Q σ' H
def bName (i : Nat) : D → En → Option En := fun d env => some (env.set i (.im d))
def bNil : List D → En → Option En := fun ds env => match ds with
  | [] => some env
  | _ => none
def bCons (g : D → En → Option En) (r : List D → En → Option En) : List D → En → Option En := fun ds env => match ds with
  | d :: ds => (match g d env with
    | some env' => r ds env'
    | none => none)
  | [] => none
def bTup (n : Nat) (r : List D → En → Option En) : D → En → Option En := fun d env => match d with
  | .tup ds => if ds.length = n then r ds env else none
  | _ => none
section
variable {X : Cx} {F : FX} {W : WX} {pos : Pos}
theorem g_name {i : Nat} {x : Str} (hN : X.N.Nodup) (hi : X.N[i]? = some x) (hx : Loc X.env.scope x) (hf : X.fn x = true ∨ X.env.scope.names.lookup x = some .local := by first | exact .inl rfl | exact .inr rfl | assumption) : PG X (.Name x pos) (tG F [i] (bName i)) := (pg_name hN hi hx hf).imp fun v σ H Q ⟨env, p, d, env', f, r, e, k⟩ => by
  cases e
  exact k _ (f.put r i) (vis_put f) ⟨by simp, fun j n => List.getElem?_set_ne (fun e => n (by simp [e]))⟩ (fun j n => List.getElem?_set_ne (fun e => n (by simp [e])))
theorem gs_nil : PGs X [] (tGs F [] bNil) := pgs_nil.imp fun v σ H Q ⟨env, p, d, env', f, r, e, k⟩ => by
  cases r with
  | nil =>
    cases e
    exact ⟨rfl, k _ f (Same.refl _) ⟨rfl, fun _ _ => rfl⟩ (fun _ _ => rfl)⟩
  | cons _ _ => cases e
theorem gs_cons {t : Expr} {ts : List Expr} {is js : List Nat} {g : D → En → Option En} {r : List D → En → Option En} (hg : PG X t (tG F is g)) (hr : PGs X ts (tGs F js r)) (hs : (assignEach (t :: ts) X.env).map (·.2) = assign t X.env :: (assignEach ts X.env).map (·.2) := by rfl) : PGs X (t :: ts) (tGs F (is ++ js) (bCons g r)) := (pgs_cons hg hr hs).imp fun v σ H Q ⟨env, p, d, env', f, rl, e, k⟩ => by
  cases rl with
  | nil => cases e
  | @cons x y xs ys r1 rr =>
    unfold bCons at e
    dsimp only at e
    split at e
    · rename_i env1 h1
      exact ⟨x, xs, rfl, env, p, y, env1, f, r1, h1, fun σ' f' s' o' w' => ⟨env1, p, ys, env', f', rr.mono s', e, fun σ2 f2 s2 o2 w2 => k σ2 f2 (s'.trans s2) (o'.trans o2) (w'.trans w2)⟩⟩
    · cases e
theorem g_tup {es : List Expr} {n k' : Nat} {is : List Nat} {r : List D → En → Option En} (hK : F.K = X.K) (hc : X.calm = true) (h : PGs X es (tGs F is r)) (hn : (assignEach es X.env).length = n := by rfl) (hst : (assignEach es X.env).findIdx? (·.1) = none := by rfl) :
    PG X (.Tuple es k' pos) (tG F is (bTup n r)) := (pg_tup hc h hn hst).imp fun v σ H Q ⟨env, p, d, env', f, rl, e, k⟩ => by
  cases rl with
  | tup hs rr =>
    unfold bTup at e
    dsimp only at e
    split at e
    · exact ⟨_, _, rfl, hK ▸ sqt_same hide_le hs, rr.length.trans ‹_›, env, p, _, env', f, rr, e, k⟩
    · cases e
  | _ => cases e
/-- a target by a value -/
def sTo (g : D → En → Option En) (m : EM) : SM := eS m fun d env p => match g d env with
  | some env' => some (.nx env', p)
  | none => none
theorem s_to {t e : Expr} {is : List Nat} {g : D → En → Option En} {em : EM} (he : PE X e (tE F W em)) (hg : PG X t (tG F is g)) (h : PS X (.Assign [t] e pos) (tAsg (tE F W em) (tG F is g))) : PS X (.Assign [t] e pos) (tSt F W (sTo g em)) := h.imp fun E σ H h => i_eS h fun env p d p1 v H1 fl p' f1 r1 _ q k => by
  split at q
  · rename_i env' hg'
    cases q
    exact ⟨env, p1, d, env', f1, r1, hg', fun σ' f' _ _ _ => k σ' H1 f'⟩
  · cases q
end
/-! ### what is walked -/
/-- an iterator yields these -/
structure IsIt (K : PySem.W.Frag) (pa : Addr) (V0 : Hp) (J : It) (xs : List D) : Prop where
  go : ∀ i H, Same V0 H → i < xs.length → J.go i H
  yld : ∀ i H x H', Same V0 H → J.yld i H x H' → ∀ d, xs[i]? = some d → Same H H' ∧ ∀ S, Dom S H → Same V0 (hide S H) → Rep K pa (hide S H') x d
  stop : ∀ i H, Same V0 H → xs.length ≤ i → J.stop i H
def EVI (F : FX) (W : WX) (σ : L2.St) (H : Hp) (env : En) (R : It → Hp → Prop) : OutL → Pn → Prop
  | .vals xs, p' => ∀ J H', FR F σ H' env p' → Kp F.pa H H' → IsIt F.K F.pa (hd F σ env H') J xs → R J H'
  | .exc C fs, p' => ∀ d H', FR F σ H' env p' → Kp F.pa H H' → XRep F.K F.pa (hd F σ env H') d fs → W (.ref (He.ga F.K (Str.ofString C))) d σ H'
def tI (F : FX) (W : WX) (mi : AM) : TI := fun σ H R => ∃ env p out p', FR F σ H env p ∧ mi env p = some (out, p') ∧ EVI F W σ H env R out p'
theorem _root_.L2.PI.imp {X : Cx} {tg e : Expr} {t t' : TI} (h : PI X tg e t) (i : ∀ σ H R, t' σ H R → t σ H R) : PI X tg e t' := ⟨fun pins s σ H R I z => h.run pins s σ H R I (i σ H R z)⟩
def itemsD : D → Option (List D)
  | .lst xs => some xs
  | .tup xs => some xs
  | _ => none
/-- a list, a tuple -/
def wSeq (m : EM) : AM := fun env p => match m env p with
  | some (.val d, p1) => (match itemsD d with
    | some xs => some (.vals xs, p1)
    | none => none)
  | some (.exc C fs, p1) => some (.exc C fs, p1)
  | none => none
def rangeD (lo hi : Int) : List D := (List.range (hi - lo).toNat).map fun (i : Nat) => .int (lo + (i : Int))
def wR1 (ms : AM) : AM := fun env p => match ms env p with
  | some (.vals [.int n], p1) => if -(2 ^ 62) ≤ n ∧ n < 2 ^ 62 then some (.vals (rangeD 0 n), p1) else none
  | some (.exc C fs, p1) => some (.exc C fs, p1)
  | _ => none
def wR2 (ms : AM) : AM := fun env p => match ms env p with
  | some (.vals [.int a, .int c], p1) => if -(2 ^ 62) ≤ a ∧ a < 2 ^ 62 ∧ -(2 ^ 62) ≤ c ∧ c < 2 ^ 62 then some (.vals (rangeD a c), p1) else none
  | some (.exc C fs, p1) => some (.exc C fs, p1)
  | _ => none
theorem isIt_list {K : PySem.W.Frag} {pa a : Addr} {V0 : Hp} {vs : List L2.V} {xs : List D} (h : V0 a = some (.lst vs)) (r : RepL K pa V0 vs xs) : IsIt K pa V0 (Itl K a) xs :=
  ⟨fun i H e lt => by
    have lt' : i < vs.length := r.length ▸ lt
    exact ⟨vs, vs[i], .inl (.inl (e _ _ h)), by simp [lt']⟩, fun i H x H' e y d hd => by
    obtain ⟨e1, y⟩ := y
    subst e1
    obtain ⟨v, hv, rv⟩ := r.get hd
    have z := y vs (.inl (.inl (e _ _ h)))
    rw [hv] at z
    cases z
    exact ⟨Same.refl _, fun S _ s => rv.mono s⟩, fun i H e le => ⟨vs, .inl (.inl (e _ _ h)), r.length ▸ le⟩⟩
theorem isIt_tup {K : PySem.W.Frag} {pa a : Addr} {V0 : Hp} {vs : List L2.V} {xs : List D} (h : SqT K V0 a vs) (r : RepL K pa V0 vs xs) : IsIt K pa V0 (Itt K a) xs :=
  ⟨fun i H e lt => by
    have lt' : i < vs.length := r.length ▸ lt
    exact ⟨vs, vs[i], sqt_same e h, by simp [lt']⟩, fun i H x H' e y d hd => by
    obtain ⟨e1, y⟩ := y
    subst e1
    obtain ⟨v, hv, rv⟩ := r.get hd
    have z := y vs (sqt_same e h)
    rw [hv] at z
    cases z
    exact ⟨Same.refl _, fun S _ s => rv.mono s⟩, fun i H e le => ⟨vs, sqt_same e h, r.length ▸ le⟩⟩
theorem range_at {lo hi : Int} {i : Nat} {d : D} (h : (rangeD lo hi)[i]? = some d) : d = .int (lo + (i : Int)) := by
  unfold rangeD at h
  rw [List.getElem?_map] at h
  cases q : (List.range (hi - lo).toNat)[i]? with
  | none => rw [q] at h; cases h
  | some j =>
    rw [q] at h
    have e := List.getElem?_range (n := (hi - lo).toNat) (i := i) (by
      have := (List.getElem?_eq_some_iff.mp q).1
      simpa using this)
    rw [e] at q
    cases q
    cases h
    rfl
theorem range_len {lo hi : Int} : (rangeD lo hi).length = (hi - lo).toNat := by simp [rangeD]
theorem isIt_rng {K : PySem.W.Frag} {pa : Addr} {V0 : Hp} {lo hi : Int} : IsIt K pa V0 (Itr lo (hi - lo).toNat) (rangeD lo hi) :=
  ⟨fun i H _ lt => range_len ▸ lt, fun i H x H' _ y d hd => by
    obtain ⟨e1, e2⟩ := y
    subst e1 e2
    rw [range_at hd]
    exact ⟨Same.refl _, fun _ _ _ => .int _⟩, fun i H _ le => range_len ▸ le⟩
section
variable {X : Cx} {F : FX} {W : WX} {pos : Pos} {tg : Expr}
def iSeq (K : PySem.W.Frag) (tl : TE) : TI := fun σ H R => tl σ H fun x H1 => ∃ a, x = .ref a ∧ (((∃ xs, SqL K H1 a xs) ∧ R (Itl K a) H1) ∨ ((∃ xs, SqT K H1 a xs) ∧ R (Itt K a) H1))
theorem pi_seq {l : Expr} {tl : TE} (hl : PE X l tl) : PI X tg l (iSeq X.K tl) := ⟨fun pins s σ H R I h => thn (hl.run pins s σ H _ I h) fun v s1 ⟨x, H1, I1, r1, a, ex, q1⟩ => by
  subst ex
  cases r1
  have fp : ∀ b ∈ [s1.heap.objs.size], FpOk X pins H1 b := fun b hb => by
    rw [List.mem_singleton.mp hb]
    exact I1.fpOk (Nat.le_refl _) (I1.hok.fresh (Nat.le_refl _))
  have kept : ∀ {o : Obj}, Inv X pins σ H1 { s1 with heap := s1.heap.push o } := fun {o} => I1.kept (t' := s1.toks) fun b u z => Heap.get?_push_of_some _ z
  rcases q1 with ⟨⟨xs, hq⟩, q⟩ | ⟨⟨xs, hq⟩, q⟩
  · obtain ⟨its, rv, pl, _⟩ := I1.list hq
    exact wpAny_pyIter_list pl.isList ⟨_, _, _, _, H1, rfl, kept, turn_list a _, ⟨_, Heap.get?_push_size _ rfl, rfl, rfl⟩, fp, q⟩
  · obtain ⟨its, rv, pl, _⟩ := I1.tuple hq
    exact wpAny_pyIter_tuple (show s1.heap.IsTuple a its.toArray from pl) ⟨_, _, _, _, H1, rfl, kept, turn_tuple a _, ⟨_, Heap.get?_push_size _ rfl, rfl, rfl⟩, fp, q⟩⟩
theorem w_seq {l : Expr} {m : EM} (hK : F.K = X.K) (hl : PE X l (tE F W m)) : PI X tg l (tI F W (wSeq m)) := (pi_seq hl).imp fun σ H R ⟨env, p, out, p', f, q, k⟩ => by
  unfold wSeq at q
  cases z : m env p with
  | none => rw [z] at q; cases q
  | some r =>
    obtain ⟨o, p1⟩ := r
    rw [z] at q
    refine ⟨env, p, o, p1, f, z, ?_⟩
    cases o with
    | exc C fs => cases q; exact k
    | val d =>
      intro v H1 f1 s1 r1
      cases r1 with
      | @lst a vs xs h r =>
        cases q
        exact ⟨a, rfl, .inl ⟨⟨vs, .inl (.inl (hide_le _ _ h))⟩, k _ H1 f1 s1 (hK ▸ isIt_list h r)⟩⟩
      | @tup a vs xs h r =>
        cases q
        exact ⟨a, rfl, .inr ⟨⟨vs, hK ▸ sqt_same hide_le h⟩, k _ H1 f1 s1 (hK ▸ isIt_tup h r)⟩⟩
      | _ => cases q
theorem w_r1 {a : Expr} {ms : AM} {p pc : Pos} (hg : Gl X "range") (hm : X.mg "range" = none) (ha : PA X [a] (tAr F W ms)) (hst : starEach [a] X.env = [(false, eval a X.env)] := by rfl) : PI X tg (.Call (.Name "range" p) [a] [] pc) (tI F W (wR1 ms)) := (pi_range1 hg hm ha hst).imp fun σ H R ⟨env, p, out, p', f, q, k⟩ => by
  unfold wR1 at q
  split at q
  · rename_i n p1 z
    split at q
    · rename_i c
      cases q
      refine ⟨env, p, _, _, f, z, fun vs H1 f1 s1 r1 => ?_⟩
      cases r1 with
      | cons h1 r =>
        cases r
        cases h1
        exact ⟨n, rfl, c.1, c.2, by simpa using k (Itr 0 (n - 0).toNat) H1 f1 s1 isIt_rng⟩
    · cases q
  · rename_i C fs p1 z
    cases q
    exact ⟨env, p, _, _, f, z, k⟩
  · cases q
theorem w_r2 {a c : Expr} {ms : AM} {p pc : Pos} (hg : Gl X "range") (hm : X.mg "range" = none) (ha : PA X [a, c] (tAr F W ms)) (hst : starEach [a, c] X.env = [(false, eval a X.env), (false, eval c X.env)] := by rfl) (hst2 : starEach [c] X.env = [(false, eval c X.env)] := by rfl) :
    PI X tg (.Call (.Name "range" p) [a, c] [] pc) (tI F W (wR2 ms)) := (pi_range2 hg hm ha hst hst2).imp fun σ H R ⟨env, p, out, p', f, q, k⟩ => by
  unfold wR2 at q
  split at q
  · rename_i n m p1 z
    split at q
    · rename_i c
      cases q
      refine ⟨env, p, _, _, f, z, fun vs H1 f1 s1 r1 => ?_⟩
      cases r1 with
      | cons h1 r =>
        cases r with
        | cons h2 r =>
          cases r
          cases h1
          cases h2
          exact ⟨n, m, rfl, c, k _ H1 f1 s1 isIt_rng⟩
    · cases q
  · rename_i C fs p1 z
    cases q
    exact ⟨env, p, _, _, f, z, k⟩
  · cases q
end
/-! ### for -/
def forL (g : D → En → Option En) (b : SM) : List D → SM
  | [] => sNil
  | d :: ds => fun env p => match g d env with
    | some env1 => (match b env1 p with
      | some (.nx env', p2) => forL g b ds env' p2
      | some (.cnt env', p2) => forL g b ds env' p2
      | some (.brk env', p2) => some (.nx env', p2)
      | r => r)
    | none => none
def sFor (mi : AM) (g : D → En → Option En) (b : SM) : SM := aS mi fun xs => forL g b xs
section
variable {X : Cx} {F : FX} {W : WX} {pos : Pos} {tg : Expr} {is : List Nat}
def gU (X : Cx) (is : List Nat) (g : D → En → Option En) : TG := fun v σ H Q => ∃ F : FX, F.K = X.K ∧ tG F is g v σ H Q
def bU (X : Cx) (W : WX) (b : SM) : TS := fun E σ H => ∃ F : FX, F.K = X.K ∧ tSt F W b E σ H
theorem g_all {g : D → En → Option En} (h : ∀ F : FX, F.K = X.K → PG X tg (tG F is g)) : PG X tg (gU X is g) := ⟨fun pins s σ H v u Q I r ⟨F, hK, z⟩ => (h F hK).run pins s σ H v u Q I r z⟩
theorem b_all {body : List Stmt} {b : SM} (h : ∀ F : FX, F.K = X.K → PSs X body (tSt F W b)) : PSs X body (bU X W b) := ⟨fun pins s σ H E I ⟨F, hK, z⟩ => (h F hK).run pins s σ H E I z⟩
theorem i_aI {mi : AM} {q : List D → SM} {E : Ends} {σ : L2.St} {H : Hp} {R : It → Hp → Prop} (h : tSt F W (aS mi q) E σ H)
    (hk : ∀ env p1 xs J H1 fl p', FR F σ H1 env p1 → IsIt F.K F.pa (hd F σ env H1) J xs → q xs env p1 = some (fl, p') → SV F W E fl p' → R J H1) : tI F W mi σ H R := by
  obtain ⟨env, p, fl, p', f, e, kk⟩ := h
  unfold aS at e
  cases z : mi env p with
  | none => rw [z] at e; cases e
  | some r =>
    obtain ⟨o, p1⟩ := r
    rw [z] at e
    refine ⟨env, p, o, p1, f, z, ?_⟩
    cases o with
    | vals d => exact fun J H1 f1 s1 r1 => hk env p1 d J H1 fl p' f1 r1 e kk
    | exc C fs =>
      cases e
      exact fun d H1 f1 s1 r1 => kk d σ H1 f1 r1
/-- one turn after another -/
theorem forL_turn {g : D → En → Option En} {b : SM} {E : Ends} {x : L2.V} {d : D} {ds : List D} (hK : F.K = X.K) {σ : L2.St} {H H' : Hp} (sm : Same H H') (r : ∀ env p, FR F σ H env p → Rep F.K F.pa (hd F σ env H') x d)
    (h : tSt F W (forL g b (d :: ds)) E σ H) : gU X is g x σ H' fun σ2 H2 => bU X W b { E with nx := tSt F W (forL g b ds) E, ct := tSt F W (forL g b ds) E, bk := E.nx } σ2 H2 := by
  obtain ⟨env, p, fl, p', f0, q, k⟩ := h
  have f := f0.grow sm
  unfold forL at q
  split at q
  · rename_i env1 h1
    refine ⟨F, hK, env, p, d, env1, f, r env p f0, h1, fun σ' f' _ _ _ => ⟨F, hK, ?_⟩⟩
    cases y : b env1 p with
    | none => rw [y] at q; cases q
    | some z =>
      obtain ⟨z, p2⟩ := z
      rw [y] at q
      refine ⟨env1, p, z, p2, f', y, ?_⟩
      cases z with
      | nx env' => exact fun σ' H' f' => ⟨env', p2, fl, p', f', q, k⟩
      | cnt env' => exact fun σ' H' f' => ⟨env', p2, fl, p', f', q, k⟩
      | brk env' => cases q; exact k
      | ret d => cases q; exact k
      | exc C fs env' => cases q; exact k
  · cases q
theorem forL_end {g : D → En → Option En} {b : SM} {E : Ends} {σ : L2.St} {H : Hp} (h : tSt F W (forL g b []) E σ H) : E.nx σ H := by
  obtain ⟨env, p, fl, p', f, q, k⟩ := h
  cases q
  exact k σ H f
theorem drop_at {xs : List D} {i : Nat} {d : D} (h : xs[i]? = some d) : xs.drop i = d :: xs.drop (i + 1) := by
  obtain ⟨hl, e⟩ := List.getElem?_eq_some_iff.mp h
  rw [List.drop_eq_getElem_cons hl, e]
theorem s_for {iter : Expr} {body : List Stmt} {mi : AM} {g : D → En → Option En} {b : SM} (hK : F.K = X.K) (hp : PassesOwn (model X.prog X.w) X.A X.env X.xe) (hc : X.calm = true) (hi : PI X tg iter (tI F W mi)) (hg : ∀ F' : FX, F'.K = X.K → PG X tg (tG F' is g)) (hb : ∀ F' : FX, F'.K = X.K → PSs X body (tSt F' W b))
    (hs : ∀ x, foldedSetIterable iter X.env x = pure x := by intro _; rfl) : PS X (.For tg iter body [] pos) (tSt F W (sFor mi g b)) := (ps_for hp hc hi (g_all hg) (b_all hb) hs).imp fun E σ H h => i_aI h fun env p1 xs J H1 fl p' f1 it q k => by
  have seen : ∀ {m : SM} {σ' : L2.St} {H' : Hp}, tSt (F.lock (hd F σ env H1)) W m E σ' H' → Same (hd F σ env H1) H' := fun {m σ' H'} z => by
    obtain ⟨env', p2, _, _, f', _, _⟩ := z
    exact fun a o e => (hide_some (f1.seen f' a o e)).2
  refine ⟨fun i m σ' H' => m = xs.length - i ∧ i ≤ xs.length ∧ tSt (F.lock (hd F σ env H1)) W (forL g b (xs.drop i)) E σ' H', ⟨xs.length, by simp, Nat.zero_le _, env, p1, fl, p', f1.lock, by rw [List.drop_zero]; exact q, SV.unlock f1 k⟩, ?_⟩
  rintro i m σ' H' ⟨rfl, hle, z⟩
  by_cases hlt : i < xs.length
  · refine .inr ⟨it.go i H' (seen z) hlt, fun σ2 H2 => tSt (F.lock (hd F σ env H1)) W (forL g b (xs.drop (i + 1))) E σ2 H2, fun σ2 H2 y => ⟨xs.length - (i + 1), by omega, rfl, hlt, y⟩, fun x H2 y => ?_⟩
    obtain ⟨sm, rp⟩ := it.yld i H' x H2 (seen z) y xs[i] (by simp [hlt])
    have e : xs[i]? = some xs[i] := by simp [hlt]
    have z2 := z
    rw [drop_at e] at z2
    exact forL_turn (F := F.lock (hd F σ env H1)) hK sm (fun env2 p2 f2 => rp _ f2.dom (f1.seen f2)) z2
  · have e : i = xs.length := by omega
    subst e
    rw [List.drop_length] at z
    exact .inl ⟨it.stop _ H' (seen z) (Nat.le_refl _), forL_end z⟩
end
/-! ### defs and their calls -/
abbrev FM := List D → Pn → Option (Ou × Pn)
def spD (K : PySem.W.Frag) (sem : FM) : Sp := fun vs H Q E => ∃ (S : Addr → Prop) (pa : Addr) (ds : List D) (p : Pn) (out : Ou) (p' : Pn), Dom S H ∧ S pa ∧ RepL K pa (hide S H) vs ds ∧ (∃ ws, H pa = some (.lst ws) ∧ RepL K pa (hide S H) ws p) ∧ sem ds p = some (out, p') ∧
  match out with
  | .val d => ∀ v H', Kp pa H H' → (∃ ws, H' pa = some (.lst ws) ∧ RepL K pa (hide S H') ws p') → Rep K pa (hide S H') v d → Q v H'
  | .exc C fs => ∀ dd H', Kp pa H H' → (∃ ws, H' pa = some (.lst ws) ∧ RepL K pa (hide S H') ws p') → XRep K pa (hide S H') dd fs → E (.ref (He.ga K (Str.ofString C))) dd H'
/-- room, and no repr is under way -/
structure RoomG (k : Nat) (A : Around) : Prop where
  r : Room k A
  g : A.guards = some []
theorem RoomG.mono {j k : Nat} {A : Around} (r : RoomG k A) (h : j ≤ k) : RoomG j A := ⟨r.r.mono h, r.g⟩
theorem RoomG.deeper {k : Nat} {A : Around} (r : RoomG (k + 1) A) (env : Env) : RoomG k (A.deeper env) := ⟨r.r.deeper env, r.g⟩
/-- a promise by positional values -/
def FnG (P : Program) (w : World) (K : PySem.W.Frag) (mg : Str → Option Value) (base : Heap) (k : Nat) (f : Addr) (sp : Sp) : Prop :=
  ∀ (A : Around) (fs : List Env) (s : Shared) (H : Hp) (us : List Value) (vs : List V) (Q : VK) (E : XK), RoomG k A → Env0 P w K mg base A fs s H → Vals vs us → sp vs H Q E → codeAny (model P w) A (.call (.ref f) ⟨us, []⟩) (CR (L2.CX P w) fs P w H s Q E) s
theorem FnG.mono {P : Program} {w : World} {K : PySem.W.Frag} {mg : Str → Option Value} {base : Heap} {j k : Nat} {f : Addr} {sp : Sp} (G : FnG P w K mg base j f sp) (h : j ≤ k) : FnG P w K mg base k f sp := fun A fs s H us vs Q E hr => G A fs s H us vs Q E (hr.mono h)
theorem FnG.imp {P : Program} {w : World} {K : PySem.W.Frag} {mg : Str → Option Value} {base : Heap} {k : Nat} {f : Addr} {sp sp' : Sp} (G : FnG P w K mg base k f sp) (h : ∀ vs H Q E, sp' vs H Q E → sp vs H Q E) : FnG P w K mg base k f sp' := fun A fs s H us vs Q E hr e0 r z => G A fs s H us vs Q E hr e0 r (h _ _ _ _ z)
/-- a def by positional arguments -/
abbrev FnD (P : Program) (w : World) (K : PySem.W.Frag) (mg : Str → Option Value) (base : Heap) (k : Nat) (f : Addr) (sem : FM) : Prop := FnG P w K mg base k f (spD K sem)
/-- a promise by the parameters' values, however they are bound -/
structure FnA (P : Program) (w : World) (K : PySem.W.Frag) (mg : Str → Option Value) (base : Heap) (k : Nat) (f : Addr) (fd : FuncData) (ps : List Str) (sp : Sp) : Prop where
  len : ∀ vs H Q E, sp vs H Q E → vs.length = ps.length
  run : ∀ (A : Around) (fs : List Env) (s : Shared) (H : Hp) (args : Args) (us : List Value) (vs : List V) (Q : VK) (E : XK), RoomG k A → Env0 P w K mg base A fs s H → BindsTo s fd args (ps.zip us) → Vals vs us → sp vs H Q E → codeAny (model P w) A (.call (.ref f) args) (CR (L2.CX P w) fs P w H s Q E) s
/-- a def of the text by its body, whatever its promise -/
theorem fn_a {P : Program} {w : World} {K : PySem.W.Frag} {mg : Str → Option Value} {base : Heap} {x qual : Str} {params : Arguments} {body : List Stmt} {scope : Scope} {dvs : List V} {kws : List (Str × V)} {f : Addr} {fd : FuncData} {N ps : List Str} {k : Nat} {sp : Sp}
    (Fd : FunD K x qual params body scope dvs kws f fd) (S : FnScope N ps scope) (len : ∀ vs H Q E, sp vs H Q E → vs.length = ps.length)
    (hbody : ∀ (cdv : Value) (A : Around) (fs : List Env) (s : Shared) (H : Hp) (vs : List V) (Q : VK) (E : XK), RoomG k (A.deeper (envOfC qual scope s.heap.objs.size f cdv)) → sp vs H Q E →
      ∃ t, PSs (cxOf (L2.CX P w) P w K mg base N qual scope f cdv A fs s H E) body t ∧ t { nx := fun _ H' => Q .non H', rt := Q } (start N vs) H) : FnA P w K mg base (k + 1) f fd ps sp := by
  obtain ⟨oc, od, dV, kV, doc, pm, an, cdv, ct, osl, rfl, lk, hcd, _, _⟩ := Fd.ex
  refine ⟨len, fun A fs s H args us vs Q E hr e0 hbind r hsp => ?_⟩
  have old : ∀ b o, base.get? b = some o → s.heap.get? b = some o := fun b o e => (e0.bs b o e).1
  have KX : K.In s.heap := e0.mod.kin.keeps old
  have hl := len _ _ _ _ hsp
  refine codeAny_call_function hr.r.depth (KX _ _ lk) rfl S.co S.gen rfl (PySem.W.codeRec_of KX hcd) (hbind _ _ _ _ ?_)
  refine wpAny_newFunctionEnv_cells S.kind (fun ⟨n, v⟩ hy => ?_) fun env he s1 ic => ?_
  · have q := S.par n (List.of_mem_zip hy).1
    exact q.imp id fun q => ⟨q, PySem.W.cellsFrom_some _ _ _ (.inl q)⟩
  · subst he
    obtain ⟨t, ht, hq⟩ := hbody cdv A fs s H vs Q E (hr.deeper _) hsp
    have I : Inv (cxOf (L2.CX P w) P w K mg base N qual scope f cdv A fs s H E) [] (start N vs) H s1 := inv_start S hr.r.hd e0 hl r ic
    refine ⟨(e0.mod.nolimit.keeps old).keeps ic.toInCall.keep, codeAny_func (wpAny_mono (ht.run [] s1 _ H _ I hq) (fun fl s' hs => ?_) fun e s' hs => hs)⟩
    cases fl with
    | ret u =>
      obtain ⟨v, σ', H', J, rv, q⟩ := hs
      exact ⟨v, H', J.os, J.bare, J.base, J.hok, rv, q⟩
    | next =>
      obtain ⟨σ', H', J, q⟩ := hs
      exact ⟨.non, H', J.os, J.bare, J.base, J.hok, rfl, q⟩
    | brk => exact hs.elim fun _ z => z.elim fun _ z => z.2.elim
    | cont => exact hs.elim fun _ z => z.elim fun _ z => z.2.elim
theorem FnA.mono {P : Program} {w : World} {K : PySem.W.Frag} {mg : Str → Option Value} {base : Heap} {j k : Nat} {f : Addr} {fd : FuncData} {ps : List Str} {sp : Sp} (G : FnA P w K mg base j f fd ps sp) (h : j ≤ k) : FnA P w K mg base k f fd ps sp := ⟨G.len, fun A fs s H args us vs Q E hr => G.run A fs s H args us vs Q E (hr.mono h)⟩
theorem FnA.pos {P : Program} {w : World} {K : PySem.W.Frag} {mg : Str → Option Value} {base : Heap} {k : Nat} {f : Addr} {fd : FuncData} {ps : List Str} {sp : Sp} {dfs : List V} {ds : List Value} (G : FnA P w K mg base k f fd ps sp) (hb : Binds K fd ps ds) (hd : Vals dfs ds) :
    FnG P w K mg base k f (fun vs H Q E => sp (vs ++ dfs) H Q E) := fun A fs s H us vs Q E hr e0 r hsp => by
  have r2 : Vals (vs ++ dfs) (us ++ ds) := r.append hd
  exact G.run A fs s H ⟨us, []⟩ (us ++ ds) (vs ++ dfs) Q E hr e0 (hb s us (e0.mod.kin.keeps fun b o e => (e0.bs b o e).1) (r2.length ▸ G.len _ _ _ _ hsp)) r2 hsp
/-- a body, as a def -/
def fnM (n np : Nat) (m : SM) : FM := fun ds p => if ds.length = np then (match m (ds.map Sl.im ++ List.replicate (n - np) .emp) p with
  | some (.ret d, p') => some (.val d, p')
  | some (.nx _, p') => some (.val .non, p')
  | some (.exc C fs _, p') => some (.exc C fs, p')
  | _ => none) else none
theorem FR.start {K : PySem.W.Frag} {S : Addr → Prop} {pa : Addr} {H : Hp} {vs : List V} {ds : List D} {p : Pn} {N : List Str} (dm : Dom S H) (hs : S pa) (r : RepL K pa (hide S H) vs ds) (hp : ∃ ws, H pa = some (.lst ws) ∧ RepL K pa (hide S H) ws p) :
    FR ⟨K, S, pa, H⟩ (L2.start N vs) H (ds.map Sl.im ++ List.replicate (N.length - ds.length) .emp) p := by
  have hl := r.length
  have no : ∀ {i : Nat} {s : Sl}, (ds.map Sl.im ++ List.replicate (N.length - ds.length) .emp)[i]? = some s → (∃ d, s = .im d ∧ ds[i]? = some d) ∨ s = .emp := fun {i s} h => by
    by_cases q : i < ds.length
    · rw [List.getElem?_append_left (by simpa using q), List.getElem?_map, List.getElem?_eq_getElem q] at h
      cases h
      exact .inl ⟨_, rfl, List.getElem?_eq_getElem q⟩
    · rw [List.getElem?_append_right (by simpa using q), List.getElem?_replicate] at h
      split at h
      · cases h
        exact .inr rfl
      · cases h
  have nOw : ∀ a, ¬ Ow (L2.start N vs) (ds.map Sl.im ++ List.replicate (N.length - ds.length) .emp) a := fun a ⟨i, _, z⟩ => by
    rcases z with ⟨xs, z⟩ | ⟨C, fs, z⟩
    · rcases no z with ⟨d, e, _⟩ | e <;> cases e
    · rcases no z with ⟨d, e, _⟩ | e <;> cases e
  have hh : Same (hide S H) (hd ⟨K, S, pa, H⟩ (L2.start N vs) (ds.map Sl.im ++ List.replicate (N.length - ds.length) .emp) H) := hide_anti fun a z => z.elim id fun z => absurd z (nOw a)
  refine ⟨?_, fun b o _ h => h, dm, hs, fun i d z => ?_, fun i xs z => ?_, fun i C fs z => ?_, fun i j a _ _ z _ => ?_, ?_⟩
  · unfold L2.start
    simp [hl]
  · rcases no z with ⟨d', e, hi⟩ | e
    · cases e
      obtain ⟨v, hv, rv⟩ := r.get hi
      refine ⟨v, ?_, rv.mono hh⟩
      have lt : i < vs.length := (List.getElem?_eq_some_iff.mp hv).1
      unfold L2.start
      rw [List.getElem?_append_left (by simpa using lt), List.getElem?_map, hv]
      rfl
    · cases e
  · rcases no z with ⟨d, e, _⟩ | e <;> cases e
  · rcases no z with ⟨d, e, _⟩ | e <;> cases e
  · rcases z with ⟨xs, z⟩ | ⟨C, fs, z⟩
    · rcases no z with ⟨d, e, _⟩ | e <;> cases e
    · rcases no z with ⟨d, e, _⟩ | e <;> cases e
  · obtain ⟨ws, h1, h2⟩ := hp
    exact ⟨ws, h1, h2.mono hh⟩
/-- THE RULE: a def by its body's meaning -/
theorem fn_d {P : Program} {w : World} {K : PySem.W.Frag} {mg : Str → Option Value} {base : Heap} {x qual : Str} {params : Arguments} {body : List Stmt} {scope : Scope} {dvs : List V} {kws : List (Str × V)} {f : Addr} {fd : FuncData} {N ps : List Str} {k : Nat} {m : SM}
    (Fd : FunD K x qual params body scope dvs kws f fd) (S : FnScope N ps scope)
    (hbody : ∀ (cdv : Value) (A : Around) (fs : List Env) (s : Shared) (H : Hp) (E : XK), RoomG k (A.deeper (envOfC qual scope s.heap.objs.size f cdv)) → ∀ F : FX, F.K = K →
      PSs (cxOf (L2.CX P w) P w K mg base N qual scope f cdv A fs s H E) body (tSt F (fun cls d _ H' => E cls d H') m)) : FnA P w K mg base (k + 1) f fd ps (spD K (fnM N.length ps.length m)) := by
  refine fn_a Fd S (fun vs H Q E h => ?_) fun cdv A fs s H vs Q E hr h => ?_
  · obtain ⟨_, pa, ds, p, out, p', _, _, r, _, e, _⟩ := h
    unfold fnM at e
    split at e
    · rename_i hl
      rw [← hl, r.length]
    · cases e
  · obtain ⟨S', pa, ds, p, out, p', dm, hs, r, hp, e, kk⟩ := h
    refine ⟨_, hbody cdv A fs s H E hr ⟨K, S', pa, H⟩ rfl, ?_⟩
    unfold fnM at e
    split at e
    · rename_i hl
      have fr : FR ⟨K, S', pa, H⟩ (L2.start N vs) H (ds.map Sl.im ++ List.replicate (N.length - ps.length) .emp) p := hl ▸ FR.start (N := N) dm hs r hp
      cases q : m (ds.map Sl.im ++ List.replicate (N.length - ps.length) .emp) p with
      | none =>
        rw [q] at e
        cases e
      | some z =>
        obtain ⟨fl, p1⟩ := z
        rw [q] at e
        refine ⟨_, p, fl, p1, fr, q, ?_⟩
        cases fl with
        | ret d =>
          cases e
          exact fun v H' rr => kk v H' rr.base rr.pen rr.rep
        | nx env' =>
          cases e
          exact fun σ' H' f' => kk .non H' (f'.ret .non).base (f'.ret .non).pen .non
        | exc C fs env' =>
          cases e
          refine fun d σ' H' f' xr => kk d H' (f'.ret .non).base (f'.ret .non).pen (xr.mono hide_S)
        | brk env' => cases e
        | cnt env' => cases e
    · cases e
/-- by positional arguments, the defaults behind them -/
theorem FnA.d {P : Program} {w : World} {K : PySem.W.Frag} {mg : Str → Option Value} {base : Heap} {k : Nat} {f : Addr} {fd : FuncData} {ps : List Str} {sem : FM} {dfs : List V} {ds : List Value} {dds : List D} (G : FnA P w K mg base k f fd ps (spD K sem)) (hb : Binds K fd ps ds) (hd : Vals dfs ds) (hr : ∀ pa H, RepL K pa H dfs dds) :
    FnD P w K mg base k f (fun xs => sem (xs ++ dds)) := (G.pos hb hd).imp fun vs H Q E ⟨S, pa, xs, p, out, p', h1, h2, h3, h4, h5, h6⟩ => ⟨S, pa, xs ++ dds, p, out, p', h1, h2, h3.append (hr _ _), h4, h5, h6⟩
theorem FnA.d0 {P : Program} {w : World} {K : PySem.W.Frag} {mg : Str → Option Value} {base : Heap} {k : Nat} {f : Addr} {fd : FuncData} {ps : List Str} {sem : FM} (G : FnA P w K mg base k f fd ps (spD K sem)) (hb : Binds K fd ps []) : FnD P w K mg base k f sem := (G.pos hb .nil).imp fun vs H Q E h => by rw [List.append_nil]; exact h
section
variable {X : Cx} {F : FX} {W : WX} {e : Expr} {es : List Expr} {ms : AM} {pos : Pos} {k : Nat} {f : Addr} {sem : FM}
theorem run_R {sp : Sp} (G : FnG X.prog X.w X.K X.mg X.base k f sp) (hr : RoomG k X.A) (tk : Takes X W) {pins : List (Addr × Obj)} {σ : L2.St} {H : Hp} {s : Shared} {Q : VK} {us : List Value} {vs : List V} (I : Inv X pins σ H s) (r : Vals vs us)
    (h : sp vs H Q (fun cls d H' => W cls d σ H')) : wpAny (model X.prog X.w) X.A (call (.ref f) us) (EP X pins σ Q) X.xe s := by
  refine wpAny_call (codeAny_mono (G X.A X.stack s H us vs Q _ hr I.env0 r h) fun r s' hq => ?_)
  cases r with
  | error e => exact passAt tk σ pins H s e s' I hq
  | ok fl =>
    cases fl with
    | ret u => exact I.after hq
    | _ => exact False.elim hq
/-- what a call asks of its promise -/
theorem spD_of (hK : F.K = X.K) {σ : L2.St} {H1 : Hp} {Q : VK} {env : En} {p1 : Pn} {ds : List D} {vs : List V} {out : Ou} {p' : Pn} (f1 : FR F σ H1 env p1) (r1 : RepL F.K F.pa (hd F σ env H1) vs ds) (e : sem ds p1 = some (out, p')) (ev : EV F W σ H1 env Q out p') :
    spD X.K sem vs H1 Q (fun cls d H' => W cls d σ H') := by
  rw [← hK]
  refine ⟨HS F σ env, F.pa, ds, p1, out, p', f1.dom, .inl f1.spa, r1, f1.pen, e, ?_⟩
  cases out with
  | val d => exact fun v H' kp hp r => ev v H' (f1.go kp hp) kp r
  | exc C fs => exact fun d H' kp hp r => ev d H' (f1.go kp hp) kp r
/-- f(e, ..) -/
theorem c_call {x : Str} {p : Pos} (G : FnD X.prog X.w X.K X.mg X.base k f sem) (hK : F.K = X.K) (hr : RoomG k X.A) (tk : Takes X W) (hg : Gl X x) (hm : X.mg x = some (.ref f)) (hk : PySem.W.keepIn X.K (.ref f) = true) (ha : PA X (e :: es) (tAr F W ms))
    (hdb : (x == ("__debug__" : Str)) = false := by decide) (he : starEach (e :: es) X.env = (false, eval e X.env) :: starEach es X.env := by rfl) (hpl : (backTo pos (starEach es X.env)).any (·.1) = false := by rfl) :
    PE X (.Call (.Name x p) (e :: es) [] pos) (tE F W (mArgs sem ms)) := ⟨fun pins s σ H Q I h => by
  refine wpAny_Call_Name_kw (ld_glob I hg hm ?_ hdb)
  have h2 : tAr F W ms σ H (fun vs H1 => spD X.K sem vs H1 Q (fun cls d H' => W cls d σ H')) := i_args h fun env p1 ds vs H1 out p' f1 r1 e1 ev1 => spD_of hK f1 r1 e1 ev1
  exact PySem.W.callWith_K (h₀ := X.base) I.ok.mod.kin hk (thn (ha.run pos pins s σ H _ I h2) fun us s1 ⟨vs, H1, I1, r, q⟩ => ⟨I1.kIn, run_R G hr tk I1 r q⟩) he hpl⟩
theorem c_call0 {x : Str} {p : Pos} (G : FnD X.prog X.w X.K X.mg X.base k f sem) (hK : F.K = X.K) (hr : RoomG k X.A) (tk : Takes X W) (hg : Gl X x) (hm : X.mg x = some (.ref f)) (hk : PySem.W.keepIn X.K (.ref f) = true)
    (hdb : (x == ("__debug__" : Str)) = false := by decide) : PE X (.Call (.Name x p) [] [] pos) (tE F W (mArgs sem aNil)) := ⟨fun pins s σ H Q I h => by
  refine wpAny_Call_Name_kw (ld_glob I hg hm ?_ hdb)
  obtain ⟨env, p1, out, p', f1, em, ev⟩ := h
  exact PySem.W.callWith_K0 I.kIn hk (run_R G hr tk (us := []) I .nil (spD_of (ds := []) hK f1 .nil em ev))⟩
theorem ck_nil : PK X [] (tAr F W aNil) := ⟨fun pos pins s σ H Q I ⟨env, p, out, p', f, em, ev⟩ => by
  cases em
  exact pk_nil.run pos pins s σ H Q I (ev [] H f Kp.refl .nil)⟩
theorem ck_cons {kws : List Keyword} {nm : Option Str} {kpos : Pos} {m : EM} (ha : PE X e (tE F W m)) (hr : PK X kws (tAr F W ms)) : PK X (⟨nm, e, kpos⟩ :: kws) (tAr F W (aCons m ms)) := ⟨fun pos pins s σ H Q I h => (pk_cons ha hr).run pos pins s σ H Q I (by
  obtain ⟨env, p, out, p', f, em, ev⟩ := h
  unfold aCons at em
  cases q : m env p with
  | none => rw [q] at em; cases em
  | some r =>
    obtain ⟨o, p1⟩ := r
    rw [q] at em
    refine ⟨env, p, o, p1, f, q, ?_⟩
    cases o with
    | exc C fs => cases em; exact ev
    | val d =>
      intro v H1 f1 s1 r1
      dsimp only at em
      cases q2 : ms env p1 with
      | none => rw [q2] at em; cases em
      | some r2 =>
        obtain ⟨o2, p2⟩ := r2
        rw [q2] at em
        refine ⟨env, p1, o2, p2, f1, q2, ?_⟩
        cases o2 with
        | exc C fs => cases em; exact fun d H2 f2 s2 r2 => ev d H2 f2 (s1.trans s2) r2
        | vals ds => cases em; exact fun vs H2 f2 s2 r2 => ev (v :: vs) H2 f2 (s1.trans s2) (.cons (r1.mono (f1.visK s2)) r2))⟩
/-- f(k = e, ..): all by keywords, put into the parameters' order by g -/
theorem c_callKw {x : Str} {p : Pos} {kws : List Keyword} {ks ps : List Str} {fd : FuncData} {g : List Value → List Value} {gV : List V → List V} {gD : List D → List D} (G : FnA X.prog X.w X.K X.mg X.base k f fd ps (spD X.K sem)) (hK : F.K = X.K) (hr : RoomG k X.A) (tk : Takes X W) (hg : Gl X x) (hm : X.mg x = some (.ref f)) (hk : PySem.W.keepIn X.K (.ref f) = true)
    (hb : ∀ (s : Shared) (ws : List Value), X.K.In s.heap → ws.length = ks.length → BindsTo s fd ⟨[], ks.zip ws⟩ (ps.zip (g ws))) (hgV : ∀ {vs us}, Vals vs us → Vals (gV vs) (g us)) (hgD : ∀ {pa H vs ds}, RepL X.K pa H vs ds → RepL X.K pa H (gV vs) (gD ds)) (hkw : PK X kws (tAr F W ms)) (hlen : ∀ env p ds p', ms env p = some (.vals ds, p') → ds.length = ks.length)
    (hall : (backToKw pos (keywordEach kws X.env)).all (·.1.isSome) = true := by rfl) (hks : (backToKw pos (keywordEach kws X.env)).filterMap (·.1) = ks := by rfl) (hdb : (x == ("__debug__" : Str)) = false := by decide)
    (hpl : ((backTo pos (starEach [] X.env)).any (·.1) || (backToKw pos (keywordEach kws X.env)).any (·.1.isNone)) = false := by rfl) :
    PE X (.Call (.Name x p) [] kws pos) (tE F W (mArgs (fun ds => sem (gD ds)) ms)) := ⟨fun pins s σ H Q I h => by
  refine wpAny_Call_Name_kw (ld_glob I hg hm ?_ hdb)
  have h2 : tAr F W ms σ H (fun vs H1 => vs.length = ks.length ∧ spD X.K sem (gV vs) H1 Q (fun cls d H' => W cls d σ H')) := by
    obtain ⟨env, p1, out, p', f1, em, ev⟩ := h
    unfold mArgs at em
    cases q : ms env p1 with
    | none => rw [q] at em; cases em
    | some r =>
      obtain ⟨o, p2⟩ := r
      rw [q] at em
      refine ⟨env, p1, o, p2, f1, q, ?_⟩
      cases o with
      | exc C fs => cases em; exact ev
      | vals ds => exact fun vs H1 f2 s2 r2 => ⟨r2.length.trans (hlen _ _ _ _ q), spD_of hK f2 (by rw [hK] at r2 ⊢; exact hgD r2) em (ev.weaken s2)⟩
  refine PySem.W.callWith_KW0 (h₀ := X.base) I.ok.mod.kin hk hall (thn (hkw.run pos pins s σ H _ I h2) fun ws s2 ⟨zs, H2, I2, rz, hl, q2⟩ => ⟨I2.kIn, ?_⟩) hpl
  rw [hks]
  refine wpAny_call (codeAny_mono (G.run X.A X.stack s2 H2 _ (g ws) (gV zs) Q _ hr I2.env0 (hb s2 ws I2.kIn (by rw [← rz.length]; exact hl)) (hgV rz) q2) fun r s' hq => ?_)
  cases r with
  | error e => exact passAt tk σ pins H2 s2 e s' I2 hq
  | ok fl =>
    cases fl with
    | ret u => exact I2.after hq
    | _ => exact False.elim hq⟩
end
end MS
set_option Elab.async false
set_option linter.all false
set_option maxRecDepth 100000
set_option autoImplicit false
set_option maxHeartbeats 4000000
/-! MS5: list comprehensions. -/
namespace MS
open PySem PySem.Spec PyProof.Rows L2
def lcL (g : D → En → Option En) (tt te : EM) : List D → En → Pn → Option (List D × Pn)
  | [], _, p => some ([], p)
  | d :: ds, env, p => match g d env with
    | some env1 => (match tt env1 p with
      | some (.val (.bl true), p1) => (match te env1 p1 with
        | some (.val y, p2) => (match lcL g tt te ds env p2 with
          | some (ys, p3) => some (y :: ys, p3)
          | none => none)
        | _ => none)
      | some (.val (.bl false), p1) => lcL g tt te ds env p1
      | _ => none)
    | none => none
def empB (env : En) (i : Nat) : Bool := match env[i]? with
  | some .emp => true
  | _ => false
def mLc (mi : AM) (is : List Nat) (g : D → En → Option En) (tt te : EM) : EM := fun env p => if is.all (empB env) = true then (match mi env p with
  | some (.vals xs, p1) => (match lcL g tt te xs env p1 with
    | some (ys, p2) => if ys.length ≤ 1000000 then some (.val (.lst ys), p2) else none
    | none => none)
  | some (.exc C fs, p1) => some (.exc C fs, p1)
  | none => none) else none
/-- a new address, hidden -/
def FX.tmp (F : FX) (a : Addr) : FX := { F with S := fun b => F.S b ∨ b = a }
section
variable {F : FX} {σ σ' : L2.St} {H H' : Hp} {env env' : En} {p p' : Pn} {a : Addr} {o : HO}
theorem FR.tmp (f : FR F σ H env p) (na : H a = none) : FR (F.tmp a) σ (upd H a o) env p := by
  have sm : Same H (upd H a o) := same_upd na
  have v1 : Same (hd F σ env H) (hd (F.tmp a) σ env (upd H a o)) := fun b u h => by
    obtain ⟨n, q⟩ := hide_some h
    show hide _ _ b = some u
    rw [hide_of]
    · exact sm b u q
    · rintro ((z | z) | z)
      · exact n (.inl z)
      · exact ne_of_none q na z
      · exact n (.inr z)
  refine ⟨f.len, fun b u n h => sm _ _ (f.base b u n h), fun b z => ?_, .inl f.spa, fun i d z => ?_, fun i xs z => ?_, fun i C fs z => ?_, f.inj, ?_⟩
  · rcases z with z | z
    · exact (f.sdom.same sm) b z
    · subst z
      exact ⟨o, upd_same⟩
  · obtain ⟨x, h1, h2⟩ := f.im i d z
    exact ⟨x, h1, h2.mono v1⟩
  · obtain ⟨b, vs, h1, h2, h3, h4, h5⟩ := f.own i xs z
    exact ⟨b, vs, h1, sm _ _ h2, h3.mono v1, h4, fun y => y.elim h5 (ne_of_none h2 na)⟩
  · obtain ⟨b, dx, vs, h1, h2, h3, h4, h5, h6⟩ := f.slf i C fs z
    exact ⟨b, dx, vs, h1, sm _ _ h2, h3, h4.mono v1, h5, fun y => y.elim h6 (ne_of_none h2 na)⟩
  · obtain ⟨vs, h1, h2⟩ := f.pen
    exact ⟨vs, sm _ _ h1, h2.mono v1⟩
/-- a hidden one is changed -/
theorem FR.updT (f : FR F σ H env p) (hS : F.S a) (n0 : F.H0 a = none) (np : a ≠ F.pa) : FR F σ (upd H a o) env p := by
  have v1 : Same (hd F σ env H) (hd F σ env (upd H a o)) := hide_same fun b u n h => by
    rw [upd_ne fun e => n (.inl (by rw [e]; exact hS))]
    exact h
  have st : ∀ b u, b ≠ a → H b = some u → upd H a o b = some u := fun b u n h => by rw [upd_ne n]; exact h
  refine ⟨f.len, fun b u n h => st b u (fun e => by rw [e, n0] at h; cases h) (f.base b u n h), fun b z => ?_, f.spa, fun i d z => ?_, fun i xs z => ?_, fun i C fs z => ?_, f.inj, ?_⟩
  · by_cases q : b = a
    · exact ⟨o, by rw [q, upd_same]⟩
    · obtain ⟨u, h⟩ := f.sdom b z
      exact ⟨u, st b u q h⟩
  · obtain ⟨x, h1, h2⟩ := f.im i d z
    exact ⟨x, h1, h2.mono v1⟩
  · obtain ⟨b, vs, h1, h2, h3, h4, h5⟩ := f.own i xs z
    exact ⟨b, vs, h1, st _ _ (fun e => h5 (e ▸ hS)) h2, h3.mono v1, h4, h5⟩
  · obtain ⟨b, dx, vs, h1, h2, h3, h4, h5, h6⟩ := f.slf i C fs z
    exact ⟨b, dx, vs, h1, st _ _ (fun e => h6 (e ▸ hS)) h2, h3, h4.mono v1, h5, h6⟩
  · obtain ⟨vs, h1, h2⟩ := f.pen
    exact ⟨vs, st _ _ (Ne.symm np) h1, h2.mono v1⟩
theorem wipe_out {σ : L2.St} {j : Nat} : ∀ {is : List Nat}, j ∉ is → (wipe σ is)[j]? = σ[j]?
  | [], _ => rfl
  | i :: is, h => by
    unfold wipe
    rw [List.getElem?_set_ne (fun e => h (by simp [e]))]
    exact wipe_out fun z => h (List.mem_cons_of_mem _ z)
theorem wipe_eq {is : List Nat} (h : Only is σ σ') : wipe σ' is = wipe σ is := by
  refine List.ext_getElem? fun j => ?_
  by_cases hj : j ∈ is
  · have key : ∀ (τ : L2.St) (is : List Nat), j ∈ is → (wipe τ is)[j]? = if j < τ.length then some none else none := fun τ is => by
      induction is with
      | nil => intro z; cases z
      | cons i is ih =>
        intro z
        unfold wipe
        by_cases e : i = j
        · subst e
          by_cases l : i < τ.length
          · rw [List.getElem?_set_self (by rw [wipe_length]; exact l), if_pos l]
          · rw [if_neg l, List.getElem?_eq_none (by rw [List.length_set, wipe_length]; omega)]
        · rw [List.getElem?_set_ne e]
          exact ih (by rcases List.mem_cons.mp z with z | z; exact absurd z.symm e; exact z)
    rw [key σ' is hj, key σ is hj, h.1]
  · rw [wipe_out hj, wipe_out hj, h.2 j hj]
theorem empB_some {i : Nat} (h : empB env i = true) : env[i]? = some .emp := by
  unfold empB at h
  split at h
  · assumption
  · cases h
theorem ow_only {is : List Nat} (he : ∀ i ∈ is, env[i]? = some .emp) (h1 : Only is σ σ') (h2 : OnlyE is env env') (z : Ow σ env a) : Ow σ' env' a := by
  obtain ⟨j, e, z⟩ := z
  have nj : j ∉ is := fun hj => by
    rw [he j hj] at z
    rcases z with ⟨_, z⟩ | ⟨_, _, z⟩ <;> cases z
  exact ⟨j, by rw [h1.2 j nj]; exact e, by rw [h2 j nj]; exact z⟩
theorem FR.wiped (f : FR F σ H env p) {is : List Nat} (he : ∀ i ∈ is, env[i]? = some .emp) : FR F (wipe σ is) H env p := by
  have out : ∀ {j : Nat} {s : Sl}, env[j]? = some s → s ≠ .emp → (wipe σ is)[j]? = σ[j]? := fun {j s} h n => wipe_out fun hj => by
    rw [he j hj] at h
    cases h
    exact n rfl
  have sl : ∀ {j : Nat}, ((∃ xs, env[j]? = some (.own xs)) ∨ ∃ C fs, env[j]? = some (.slf C fs)) → (wipe σ is)[j]? = σ[j]? := fun {j} z => by
    rcases z with ⟨xs, z⟩ | ⟨C, fs, z⟩
    · exact out z (fun e => by cases e)
    · exact out z (fun e => by cases e)
  have v1 : Same (hd F σ env H) (hd F (wipe σ is) env H) := hide_anti fun b z => z.elim .inl fun ⟨j, e, z⟩ => .inr ⟨j, by rw [← sl z]; exact e, z⟩
  refine ⟨by rw [wipe_length]; exact f.len, f.base, f.sdom, f.spa, fun i d z => ?_, fun i xs z => ?_, fun i C fs z => ?_, fun i j b e1 e2 z1 z2 => f.inj i j b (by rw [← sl z1]; exact e1) (by rw [← sl z2]; exact e2) z1 z2, ?_⟩
  · obtain ⟨x, h1, h2⟩ := f.im i d z
    exact ⟨x, by rw [out z (fun e => by cases e)]; exact h1, h2.mono v1⟩
  · obtain ⟨b, vs, h1, h2, h3, h4⟩ := f.own i xs z
    exact ⟨b, vs, by rw [sl (.inl ⟨xs, z⟩)]; exact h1, h2, h3.mono v1, h4⟩
  · obtain ⟨b, dx, vs, h1, h2, h3, h4, h5⟩ := f.slf i C fs z
    exact ⟨b, dx, vs, by rw [sl (.inr ⟨C, fs, z⟩)]; exact h1, h2, h3, h4.mono v1, h5⟩
  · obtain ⟨vs, h1, h2⟩ := f.pen
    exact ⟨vs, h1, h2.mono v1⟩
/-- back to the block's start -/
theorem FR.back (f : FR F σ H env p) {is : List Nat} (he : ∀ i ∈ is, env[i]? = some .emp) (o1 : Only is σ σ') (o2 : OnlyE is env env') (g : FR F σ' H' env' p') (kp : Kp F.pa H H') : FR F σ H' env p' := f.go kp (by
  obtain ⟨vs, h1, h2⟩ := g.pen
  exact ⟨vs, h1, h2.mono (hide_anti fun b z => z.elim .inl fun z => .inr (ow_only he o1 o2 z))⟩)
end
def W0 : WX := fun _ _ _ _ => False
def eU (K : PySem.W.Frag) (m : EM) : TE := fun σ H Q => ∃ F : FX, F.K = K ∧ tE F W0 m σ H Q
def tU (K : PySem.W.Frag) (m : EM) : TT := fun σ H Q => ∃ F : FX, F.K = K ∧ tT F W0 m σ H Q
section
variable {X : Cx} {F : FX} {W : WX} {pos : Pos} {tg : Expr} {is : List Nat}
theorem ts_nil : PTs X [] (tT F W0 (mC (.bl true))) := ⟨fun pins s σ H Q I ⟨env, p, out, p', f, e, k⟩ => by
  cases e
  obtain ⟨b, hb, k⟩ := k
  cases hb
  exact pts_nil.run pins s σ H Q I (k H f Kp.refl)⟩
theorem ts_one {c : Expr} {m : EM} (h : PT X c (tT F W0 m)) : PTs X [c] (tT F W0 m) := pts_one h
theorem i_lc {mi : AM} {g : D → En → Option En} {tt te : EM} (hK : F.K = X.K) {σ : L2.St} {H : Hp} {Q : VK} (h : tE F W (mLc mi is g tt te) σ H Q) : tLc (tI F W mi) (gU X is g) (tU X.K tt) (eU X.K te) is σ H Q := by
  obtain ⟨env, p, out, p', f, q, ev⟩ := h
  unfold mLc at q
  split at q
  · rename_i hall
    have he : ∀ i ∈ is, env[i]? = some .emp := fun i hi => empB_some (List.all_eq_true.mp hall i hi)
    cases z : mi env p with
    | none => rw [z] at q; cases q
    | some r =>
      obtain ⟨o, p1⟩ := r
      rw [z] at q
      refine ⟨env, p, o, p1, f, z, ?_⟩
      cases o with
      | exc C fs =>
        cases q
        exact ev
      | vals xs =>
        dsimp only at q
        intro J H1 f1 k1 it D0 nD
        cases y : lcL g tt te xs env p1 with
        | none => rw [y] at q; cases q
        | some r =>
          obtain ⟨ys, p2⟩ := r
          rw [y] at q
          dsimp only at q
          split at q
          · rename_i hlen
            cases q
            have nS : ¬ F.S D0 := fun z => by
              obtain ⟨o, h⟩ := f1.sdom D0 z
              rw [nD] at h
              cases h
            have nP : D0 ≠ F.pa := fun e => nS (e ▸ f1.spa)
            generalize hF2 : (F.lock (hd F σ env H1)).tmp D0 = F2
            have K2 : F2.K = F.K := by rw [← hF2]; rfl
            have P2 : F2.pa = F.pa := by rw [← hF2]; rfl
            have S2 : ∀ b, F2.S b ↔ F.S b ∨ b = D0 := fun b => by rw [← hF2]; exact Iff.rfl
            have n0 : F2.H0 D0 = none := by
              rw [← hF2]
              show (F.lock (hd F σ env H1)).H0 D0 = none
              have e1 : hd F σ env H1 D0 = none := by
                show hide _ _ D0 = none
                unfold hide
                split
                · rfl
                · exact nD
              rw [lock_none e1]
              exact f1.fresh nD
            have V0 : ∀ {σ' : L2.St} {H' : Hp} {env' : En} {p' : Pn}, FR F2 σ' H' env' p' → Same (hd F σ env H1) (hd F2 σ' env' H') := fun {σ' H' env' p'} g b o h => by
              have h0 : F2.H0 b = some o := by rw [← hF2]; exact lock_some h
              obtain ⟨n, q⟩ := hide_some h
              have nS : ¬ F.S b := fun z => n (.inl z)
              have nb : b ≠ D0 := ne_of_none q nD
              show hide _ _ b = some o
              rw [hide_of]
              · exact g.base b o (fun e => nS (by rw [e, P2]; exact f1.spa)) h0
              · rintro (z | ⟨i, e, z⟩)
                · exact ((S2 b).mp z).elim nS nb
                · rcases z with ⟨xs, z⟩ | ⟨C, fs, z⟩
                  · obtain ⟨a, vs, h1, _, _, h4, _⟩ := g.own i xs z
                    rw [e] at h1
                    cases h1
                    rw [h0] at h4
                    cases h4
                  · obtain ⟨a, dx, vs, h1, _, _, _, h4, _⟩ := g.slf i C fs z
                    rw [e] at h1
                    cases h1
                    rw [h0] at h4
                    cases h4
            have st : FR F2 (wipe σ is) (upd H1 D0 (.lst [])) env p1 := by
              rw [← hF2]
              exact (f1.lock.tmp nD).wiped he
            refine ⟨fun i m H => m = xs.length - i ∧ i ≤ xs.length ∧ ∃ p acc accD rest, FR F2 (wipe σ is) H env p ∧ H D0 = some (.lst acc) ∧ RepL F2.K F2.pa (hd F2 (wipe σ is) env H) acc accD ∧ lcL g tt te (xs.drop i) env p = some (rest, p') ∧ accD ++ rest = ys ∧ Kp F.pa H1 H,
              ⟨xs.length, by simp, Nat.zero_le _, p1, [], [], ys, st, upd_same, .nil, by rw [List.drop_zero]; exact y, rfl, (same_upd nD).kp⟩, ?_⟩
            rintro i m H2 ⟨rfl, hle, p3, acc, accD, rest, f2, hD, ra, hl, hy, kp⟩
            have sm2 : Same (hd F σ env H1) H2 := fun b o h => (hide_some (V0 f2 b o h)).2
            by_cases hlt : i < xs.length
            · have e : xs[i]? = some xs[i] := by simp [hlt]
              rw [drop_at e] at hl
              unfold lcL at hl
              split at hl
              · rename_i env1 hg1
                refine .inr ⟨it.go i H2 sm2 hlt, fun H' => ∃ p acc accD rest, FR F2 (wipe σ is) H' env p ∧ H' D0 = some (.lst acc) ∧ RepL F2.K F2.pa (hd F2 (wipe σ is) env H') acc accD ∧ lcL g tt te (xs.drop (i + 1)) env p = some (rest, p') ∧ accD ++ rest = ys ∧ Kp F.pa H1 H',
                  fun H' w => ⟨xs.length - (i + 1), by omega, rfl, hlt, w⟩, fun x H3 yl => ?_⟩
                obtain ⟨sm, rp⟩ := it.yld i H2 x H3 sm2 yl xs[i] e
                have f3 := f2.grow sm
                have rx : Rep F2.K F2.pa (hd F2 (wipe σ is) env H3) x xs[i] := by
                  rw [K2, P2]
                  exact rp _ f2.dom (V0 f2)
                refine ⟨F2, K2.trans hK, env, p3, xs[i], env1, f3, rx, hg1, fun σ4 f4 _ on one => ⟨?_, ?_⟩⟩
                · rw [wipe_eq on]
                  exact wipe_eq ⟨by rw [wipe_length], fun j n => wipe_out n⟩
                · have tail : ∀ {H5 : Hp} {p5 : Pn}, FR F2 σ4 H5 env1 p5 → Kp F2.pa H3 H5 → FR F2 (wipe σ is) H5 env p5 ∧ H5 D0 = some (.lst acc) ∧ RepL F2.K F2.pa (hd F2 (wipe σ is) env H5) acc accD ∧ Kp F.pa H1 H5 := fun {H5 p5} g5 k5 => by
                    have kk : Kp F2.pa H2 H5 := Kp.trans sm.kp k5
                    exact ⟨f3.back he on one g5 k5, kk _ _ (P2 ▸ nP) hD, ra.mono (f2.visK kk), kp.trans (P2 ▸ kk)⟩
                  cases zt : tt env1 p3 with
                  | none => rw [zt] at hl; cases hl
                  | some rt =>
                    obtain ⟨ot, pt⟩ := rt
                    rw [zt] at hl
                    cases ot with
                    | exc C fs => cases hl
                    | val dt =>
                      cases dt with
                      | bl kb =>
                        refine ⟨F2, K2.trans hK, env1, p3, _, pt, f4, zt, kb, rfl, fun H5 f5 k5 => ?_⟩
                        cases kb with
                        | false =>
                          rw [if_neg Bool.false_ne_true]
                          obtain ⟨t1, t2, t3, t4⟩ := tail f5 k5
                          exact ⟨pt, acc, accD, rest, t1, t2, t3, hl, hy, t4⟩
                        | true =>
                          rw [if_pos rfl]
                          dsimp only at hl
                          cases ze : te env1 pt with
                          | none => rw [ze] at hl; cases hl
                          | some re =>
                            obtain ⟨oe, pe⟩ := re
                            rw [ze] at hl
                            cases oe with
                            | exc C fs => cases hl
                            | val w =>
                              dsimp only at hl
                              cases zr : lcL g tt te (xs.drop (i + 1)) env pe with
                              | none => rw [zr] at hl; cases hl
                              | some rr =>
                                obtain ⟨ws, pw⟩ := rr
                                rw [zr] at hl
                                cases hl
                                refine ⟨F2, K2.trans hK, env1, pt, _, pe, f5, ze, fun vw H6 f6 k6 r6 => ?_⟩
                                obtain ⟨t1, t2, t3, t4⟩ := tail f6 (k5.trans k6)
                                have la : acc.length < 1000000 := by
                                  have e1 := t3.length
                                  have e2 : ys.length = accD.length + (ws.length + 1) := by rw [← hy]; simp
                                  omega
                                refine ⟨acc, t2, line_lt la, pe, acc ++ [vw], accD ++ [w], ws, t1.updT ((S2 D0).mpr (.inr rfl)) n0 (P2 ▸ nP), upd_same, ?_, zr, by rw [← hy]; simp, fun b o nb h => by
                                  rw [upd_ne (ne_of_none h nD)]
                                  exact t4 b o nb h⟩
                                have v2 : Same (hd F2 (wipe σ is) env H6) (hd F2 (wipe σ is) env (upd H6 D0 (.lst (acc ++ [vw])))) := hide_same fun b u n h => by
                                  rw [upd_ne fun e => n (.inl (by rw [e]; exact (S2 D0).mpr (.inr rfl)))]
                                  exact h
                                have v3 : Same (hd F2 σ4 env1 H6) (hd F2 (wipe σ is) env H6) := hide_anti fun b z => z.elim .inl fun z => .inr (ow_only he on one z)
                                exact (t3.append (.cons (r6.mono v3) .nil)).mono v2
                      | _ => cases hl
              · cases hl
            · have e : i = xs.length := by omega
              subst e
              rw [List.drop_length] at hl
              cases hl
              rw [List.append_nil] at hy
              subst hy
              have v3 : Same (hd F2 (wipe σ is) env H2) (hd F σ env H2) := hide_anti fun b z => z.elim (fun z => .inl ((S2 b).mpr (.inl z))) fun z => .inr (ow_only he ⟨by rw [wipe_length], fun j n => wipe_out n⟩ (fun _ _ => rfl) z)
              refine .inl ⟨it.stop _ H2 sm2 (Nat.le_refl _), ev _ H2 (f1.go kp ?_) (k1.trans kp) (.lst ?_ (by rw [← K2, ← P2]; exact ra.mono v3))⟩
              · obtain ⟨vs, h1, h2⟩ := f2.pen
                exact ⟨vs, P2 ▸ h1, by rw [← K2, ← P2]; exact h2.mono v3⟩
              · show hide _ _ D0 = some (.lst acc)
                rw [hide_of]
                · exact hD
                · intro z
                  obtain ⟨o, h⟩ := f1.dom D0 z
                  rw [nD] at h
                  cases h
          · cases q
  · cases q
/-- [e for t in xs if c] -/
theorem c_lc {elt iter : Expr} {ifs : List Expr} {scope : Scope} {own : List (Str × Nat)} {mi : AM} {g : D → En → Option En} {tt te : EM} (hK : F.K = X.K) (hc : X.calm = true) (hN : X.N.Nodup) (hi : PI X tg iter (tI F W mi)) (ok : BlkOk X.N X.env.scope scope own) (his : own.map (·.2) = is)
    (hg : ∀ (s : Shared) (H : Hp) (C : Addr) (cl : List (Str × Addr)) (fp : List Addr) (F' : FX), F'.K = X.K → PG (X.blk s H scope (compEnvC scope cl C X.env) fp) tg (tG F' is g))
    (ht : ∀ (s : Shared) (H : Hp) (C : Addr) (cl : List (Str × Addr)) (fp : List Addr) (F' : FX), F'.K = X.K → PTs (X.blk s H scope (compEnvC scope cl C X.env) fp) ifs (tT F' W0 tt))
    (he : ∀ (s : Shared) (H : Hp) (C : Addr) (cl : List (Str × Addr)) (fp : List Addr) (F' : FX), F'.K = X.K → PE (X.blk s H scope (compEnvC scope cl C X.env) fp) elt (tE F' W0 te)) (hs : ∀ x, foldedSetIterable iter X.env x = pure x := by intro _; rfl) :
    PE X (.ListComp elt [⟨tg, iter, ifs, 0⟩] scope pos) (tE F W (mLc mi is g tt te)) := by
  subst his
  exact (pe_lc hc hN hi ok (fun s H C cl fp => g_all (X := X.blk s H scope (compEnvC scope cl C X.env) fp) (hg s H C cl fp)) (fun s H C cl fp => ⟨fun pins s1 σ H1 Q I ⟨F', hK', z⟩ => (ht s H C cl fp F' hK').run pins s1 σ H1 Q I z⟩) (fun s H C cl fp => ⟨fun pins s1 σ H1 Q I ⟨F', hK', z⟩ => (he s H C cl fp F' hK').run pins s1 σ H1 Q I z⟩) hs).imp fun σ H Q h => i_lc hK h
end
end MS
set_option Elab.async false
set_option linter.all false
set_option maxRecDepth 100000
set_option autoImplicit false
set_option maxHeartbeats 4000000
/-! MS6: subscripts, the pen, built-in functions, isinstance, repr. -/
namespace MS
open PySem PySem.Spec PyProof.Rows L2
/-! ### subscripts -/
def ixD (p : Pn) : D → D → Option D
  | .pen, .int i => atI p i
  | .lst xs, .int i => atI xs i
  | .tup xs, .int i => atI xs i
  | .str x, .int i => if x.length ≤ 1000000 then (atI x.cps.toList i).map fun c => .str ⟨#[c]⟩ else none
  | _, _ => none
def mIx (a b : EM) : EM := fun env p => bnd (a env p) fun x p1 => bnd (b env p1) fun y p2 => okD (ixD p2 x y) p2
theorem atI_rep {K : PySem.W.Frag} {pa : Addr} {H : Hp} {vs : List V} {ds : List D} {i : Int} {d : D} (r : RepL K pa H vs ds) (h : atI ds i = some d) : ∃ v, atI vs i = some v ∧ Rep K pa H v d := by
  unfold atI at h ⊢
  rw [r.length]
  cases e : ixN ds.length i with
  | none => rw [e] at h; cases h
  | some j =>
    rw [e] at h
    obtain ⟨v, h1, h2⟩ := r.get h
    exact ⟨v, h1, h2⟩
section
variable {X : Cx} {F : FX} {W : WX} {a b : Expr} {ta tb : EM} {pos : Pos} {k : Nat}
theorem c_ix (hK : F.K = X.K) (ha : PE X a (tE F W ta)) (hb : PE X b (tE F W tb)) (hs : PlainIx b := by intro _ _; rfl) : PE X (.Subscript a b pos) (tE F W (mIx ta tb)) := (pe_ix ix_seq ha hb hs).imp fun σ H Q ⟨env, p, out, p', f, em, ev⟩ => by
  refine tE_bnd (k := fun x env p1 => bnd (tb env p1) fun y p2 => okD (ixD p2 x y) p2) f em ev fun x p1 v H1 _ f1 _ r1 e1 ev1 => ?_
  refine tE_bnd (k := fun y env p2 => okD (ixD p2 x y) p2) f1 e1 ev1 fun y p2 u H2 _ f2 s2 r2 e2 ev2 => ?_
  obtain ⟨d, e3, rfl, rfl⟩ := okD_eq e2
  have r1' := r1.mono (f1.visK s2)
  cases r2 with
  | int i =>
    cases r1' with
    | lst h r =>
      obtain ⟨w, h1, h2⟩ := atI_rep r e3
      exact .inl ⟨_, _, i, w, rfl, rfl, .inl (.inl (hide_le _ _ h)), h1, ev2 w H2 f2 Kp.refl h2⟩
    | tup h r =>
      obtain ⟨w, h1, h2⟩ := atI_rep r e3
      exact .inr (.inl ⟨_, _, i, w, rfl, rfl, hK ▸ sqt_same hide_le h, h1, ev2 w H2 f2 Kp.refl h2⟩)
    | pen =>
      obtain ⟨vs, h, r⟩ := f2.pen
      obtain ⟨w, h1, h2⟩ := atI_rep r e3
      exact .inl ⟨_, _, i, w, rfl, rfl, .inl (.inl h), h1, ev2 w H2 f2 Kp.refl h2⟩
    | str x =>
      unfold ixD at e3
      dsimp only at e3
      split at e3
      · rw [Option.map_eq_some_iff] at e3
        obtain ⟨c, h1, rfl⟩ := e3
        exact .inr (.inr ⟨x, i, c, rfl, rfl, line_of ‹_›, h1, ev2 _ H2 f2 Kp.refl (.str _)⟩)
      · cases e3
    | _ => cases e3
  | _ => cases r1' <;> cases e3
theorem FR.setPen {σ : L2.St} {H : Hp} {env : En} {p : Pn} {vs : List V} {v : V} {d : D} {j : Nat} (f : FR F σ H env p) (h : H F.pa = some (.lst vs)) (r : RepL F.K F.pa (hd F σ env H) vs p) (rv : Rep F.K F.pa (hd F σ env H) v d) :
    FR F σ (upd H F.pa (.lst (vs.set j v))) env (p.set j d) := by
  have kp : Kp F.pa H (upd H F.pa (.lst (vs.set j v))) := fun b o n h => by rw [upd_ne n]; exact h
  exact f.go kp ⟨_, upd_same, (r.set rv j).mono (f.visK kp)⟩
/-- pen[k] = e, the pen in slot i -/
def sPen (i : Nat) (k : Int) (m : EM) : SM := eS m fun d env p => match env[i]? with
  | some (.im .pen) => (match ixN p.length k with
    | some j => some (.nx env, p.set j d)
    | none => none)
  | _ => none
theorem s_pen {st : Stmt} {i : Nat} {j : Int} {me : EM} (h : PS X st (tAsg (tE F W me) (gSub (tVar i) (tC (.int j)) rSetL))) : PS X st (tSt F W (sPen i j me)) := h.imp fun E σ H h => i_eS h fun env p d p1 v H1 fl p' f1 r1 _ q k => by
  split at q
  · rename_i hi
    split at q
    · rename_i n hn
      cases q
      obtain ⟨w, e1, rp⟩ := f1.im i _ hi
      cases rp
      obtain ⟨vs, hp, rr⟩ := f1.pen
      exact ⟨_, e1, F.pa, vs, j, n, rfl, rfl, hp, by rw [rr.length]; exact hn, k σ _ (f1.setPen hp rr r1)⟩
    · cases q
  · cases q
end
/-! ### built-in functions -/
def lenD : List D → Option D
  | [.str x] => if x.length ≤ 1000000 then some (.int x.length) else none
  | [.lst xs] => some (.int xs.length)
  | [.tup xs] => some (.int xs.length)
  | _ => none
def intD : List D → Option D
  | [.int i] => some (.int i)
  | [.bl b] => some (.int (if b then 1 else 0))
  | _ => none
def boolD : List D → Option D
  | [.int i] => some (.bl (i != 0))
  | [.bl b] => some (.bl b)
  | _ => none
def absD : List D → Option D
  | [.int i] => some (.int (if i < 0 then -i else i))
  | _ => none
def listD : List D → Option D
  | [.lst xs] => some (.lst xs)
  | [.tup xs] => some (.lst xs)
  | _ => none
def tupleD : List D → Option D
  | [.lst xs] => some (.tup xs)
  | [.tup xs] => some (.tup xs)
  | _ => none
section
variable {X : Cx} {K : PySem.W.Frag}
theorem vis_upd {S : Addr → Prop} {H : Hp} {p : Addr} {o : HO} (np : H p = none) : Same (hide S H) (hide S (upd H p o)) := hide_same fun a u _ h => same_upd np a u h
theorem rc_len (hK : K = X.K) : RCD K (fun xs H Q => ∃ x n, xs = [x] ∧ LenV X.K x H n ∧ Q (.int n) H) lenD := fun pa S H xs ds d Q dm r e k => by
  cases r with
  | nil => cases e
  | cons h r =>
    cases r with
    | nil =>
      cases h with
      | str x =>
        unfold lenD at e
        dsimp only at e
        split at e
        · cases e
          exact ⟨_, x.length, rfl, ⟨line_of ‹_›, rfl⟩, k _ H (Same.refl _) (.int _)⟩
        · cases e
      | lst h r =>
        cases e
        exact ⟨_, _, rfl, .inl ⟨_, .inl (.inl (hide_le _ _ h)), r.length.symm⟩, k _ H (Same.refl _) (.int _)⟩
      | tup h r =>
        cases e
        exact ⟨_, _, rfl, .inr ⟨_, hK ▸ sqt_same hide_le h, r.length.symm⟩, k _ H (Same.refl _) (.int _)⟩
      | _ => cases e
    | cons _ _ => cases h <;> cases e
theorem rc_int : RCD K (fun xs H Q => (∃ i, xs = [.int i] ∧ Q (.int i) H) ∨ ∃ k, xs = [.bl k] ∧ Q (.int (if k then 1 else 0)) H) intD := fun pa S H xs ds d Q dm r e k => by
  cases r with
  | nil => cases e
  | cons h r =>
    cases r with
    | nil =>
      cases h with
      | int i =>
        cases e
        exact .inl ⟨i, rfl, k _ H (Same.refl _) (.int _)⟩
      | bl b =>
        cases e
        exact .inr ⟨b, rfl, k _ H (Same.refl _) (.int _)⟩
      | _ => cases e
    | cons _ _ => cases h <;> cases e
theorem rc_bool : RCD K (fun xs H Q => (∃ i, xs = [.int i] ∧ Q (.bl (i != 0)) H) ∨ ∃ k, xs = [.bl k] ∧ Q (.bl k) H) boolD := fun pa S H xs ds d Q dm r e k => by
  cases r with
  | nil => cases e
  | cons h r =>
    cases r with
    | nil =>
      cases h with
      | int i =>
        cases e
        exact .inl ⟨i, rfl, k _ H (Same.refl _) (.bl _)⟩
      | bl b =>
        cases e
        exact .inr ⟨b, rfl, k _ H (Same.refl _) (.bl _)⟩
      | _ => cases e
    | cons _ _ => cases h <;> cases e
theorem rc_abs : RCD K (fun xs H Q => ∃ i, xs = [.int i] ∧ Q (.int (if i < 0 then -i else i)) H) absD := fun pa S H xs ds d Q dm r e k => by
  cases r with
  | nil => cases e
  | cons h r =>
    cases r with
    | nil =>
      cases h with
      | int i =>
        cases e
        exact ⟨i, rfl, k _ H (Same.refl _) (.int _)⟩
      | _ => cases e
    | cons _ _ => cases h <;> cases e
theorem rc_list (hK : K = X.K) : RCD K (fun xs H Q => ∃ p ys, xs = [.ref p] ∧ (SqL X.K H p ys ∨ SqT X.K H p ys) ∧ ∀ l, H l = none → Q (.ref l) (upd H l (.lst ys))) listD := fun pa S H xs ds d Q dm r e k => by
  cases r with
  | nil => cases e
  | cons h r =>
    cases r with
    | nil =>
      cases h with
      | lst h r =>
        cases e
        exact ⟨_, _, rfl, .inl (.inl (.inl (hide_le _ _ h))), fun l nl => k _ _ (same_upd nl) (.lst (hide_new dm nl) (r.mono (vis_upd nl)))⟩
      | tup h r =>
        cases e
        exact ⟨_, _, rfl, .inr (hK ▸ sqt_same hide_le h), fun l nl => k _ _ (same_upd nl) (.lst (hide_new dm nl) (r.mono (vis_upd nl)))⟩
      | _ => cases e
    | cons _ _ => cases h <;> cases e
theorem rc_tuple (hK : K = X.K) : RCD K (fun xs H Q => ∃ p ys, xs = [.ref p] ∧ ((SqL X.K H p ys ∧ ∀ l, H l = none → Q (.ref l) (upd H l (.tup ys))) ∨ (SqT X.K H p ys ∧ Q (.ref p) H))) tupleD := fun pa S H xs ds d Q dm r e k => by
  cases r with
  | nil => cases e
  | cons h r =>
    cases r with
    | nil =>
      cases h with
      | lst h r =>
        cases e
        exact ⟨_, _, rfl, .inl ⟨.inl (.inl (hide_le _ _ h)), fun l nl => k _ _ (same_upd nl) (.tup (.inl (.inl (hide_new dm nl))) (r.mono (vis_upd nl)))⟩⟩
      | tup h r =>
        cases e
        exact ⟨_, _, rfl, .inr ⟨hK ▸ sqt_same hide_le h, k _ H (Same.refl _) (.tup h r)⟩⟩
      | _ => cases e
    | cons _ _ => cases h <;> cases e
end
section
variable {X : Cx} {F : FX} {W : WX} {e : Expr} {es : List Expr} {ms : AM} {p pos : Pos} {k : Nat}
theorem c_len (hK : F.K = X.K) (hg : Gl X "len") (hm : X.mg "len" = none) (ha : PA X [e] (tAr F W ms)) (he : starEach [e] X.env = (false, eval e X.env) :: starEach [] X.env := by rfl) : PE X (.Call (.Name "len" p) [e] [] pos) (tE F W (mB lenD ms)) := c_callB call_len (rc_len hK) hg hm PySem.boot_len ha (he := he)
theorem c_abs (hg : Gl X "abs") (hm : X.mg "abs" = none) (ha : PA X [e] (tAr F W ms)) (he : starEach [e] X.env = (false, eval e X.env) :: starEach [] X.env := by rfl) : PE X (.Call (.Name "abs" p) [e] [] pos) (tE F W (mB absD ms)) := c_callB call_abs rc_abs hg hm (by decide +kernel) ha (he := he)
theorem c_int1 (hg : Gl X "int") (hm : X.mg "int" = none) (ha : PA X [e] (tAr F W ms)) (he : starEach [e] X.env = (false, eval e X.env) :: starEach [] X.env := by rfl) : PE X (.Call (.Name "int" p) [e] [] pos) (tE F W (mB intD ms)) := c_callTy call_int1 rc_int hg hm (by decide +kernel) ha (he := he)
theorem c_bool1 (hg : Gl X "bool") (hm : X.mg "bool" = none) (ha : PA X [e] (tAr F W ms)) (he : starEach [e] X.env = (false, eval e X.env) :: starEach [] X.env := by rfl) : PE X (.Call (.Name "bool" p) [e] [] pos) (tE F W (mB boolD ms)) := c_callTy call_bool1 rc_bool hg hm (by decide +kernel) ha (he := he)
theorem c_list1 (hK : F.K = X.K) (hg : Gl X "list") (hm : X.mg "list" = none) (ha : PA X [e] (tAr F W ms)) (he : starEach [e] X.env = (false, eval e X.env) :: starEach [] X.env := by rfl) : PE X (.Call (.Name "list" p) [e] [] pos) (tE F W (mB listD ms)) := c_callTy call_list_of (rc_list hK) hg hm (by decide +kernel) ha (he := he)
theorem c_tuple1 (hK : F.K = X.K) (hg : Gl X "tuple") (hm : X.mg "tuple" = none) (ha : PA X [e] (tAr F W ms)) (he : starEach [e] X.env = (false, eval e X.env) :: starEach [] X.env := by rfl) : PE X (.Call (.Name "tuple" p) [e] [] pos) (tE F W (mB tupleD ms)) := c_callTy call_tuple_of (rc_tuple hK) hg hm (by decide +kernel) ha (he := he)
end
/-! ### repr of plain data -/
def shows (q : PyData) : Bool := q.showable && (!q.hasDict && (decide (q.shown.length ≤ sizeLine) && decide (q.depth ≤ 50)))
def reprD : List D → Option D
  | [d] => (match toPy d with
    | some q => if shows q = true then some (.str q.shown) else none
    | none => none)
  | _ => none
theorem call_reprP {X : Cx} {k : Nat} (hr : RoomG k X.A) : CallR X (.builtin "repr") (fun xs H Q => ∃ x q, xs = [x] ∧ Dp X.K H x q ∧ shows q = true ∧ Q (.str q.shown) H) := fun pins s σ H xs us Q I r ⟨x, q, ex, dp, sh, k⟩ => by
  subst ex
  obtain ⟨u, rfl, ru⟩ := r.one
  unfold shows at sh
  simp only [Bool.and_eq_true, decide_eq_true_eq, Bool.not_eq_true'] at sh
  obtain ⟨h1, h2, h3, h4⟩ := sh
  obtain ⟨as, rd⟩ := Dp.reads I q x u dp ru
  have un := hr.r.units
  cases rd with
  | none => exact PySem.P.repr_of_none ⟨.str _, H, I.tok _, ⟨_, rfl⟩, k⟩
  | bool b => exact PySem.P.repr_of_bool ⟨.str _, H, I.tok _, ⟨_, rfl⟩, k⟩
  | int i t => exact PySem.P.repr_of_int (of_decide_eq_true h1) ⟨.str _, H, I.tok _, ⟨_, rfl⟩, k⟩
  | str x t => exact PySem.P.repr_of_str ⟨.str _, H, I.tok _, ⟨_, rfl⟩, k⟩ h3
  | list a b c d => exact repr_of_reads' (Reads.list a b c d) h1 (fun z => by rw [h2] at z; cases z) hr.g (by omega) (fun _ _ z => z) (fun h' u tk hk => ⟨.str _, H, I.kept hk, ⟨_, rfl⟩, k⟩) h3
  | tuple a b c d => exact repr_of_reads' (Reads.tuple a b c d) h1 (fun z => by rw [h2] at z; cases z) hr.g (by omega) (fun _ _ z => z) (fun h' u tk hk => ⟨.str _, H, I.kept hk, ⟨_, rfl⟩, k⟩) h3
  | dict => cases h2
theorem c_repr {X : Cx} {F : FX} {W : WX} {e : Expr} {ms : AM} {p pos : Pos} {k : Nat} (hr : RoomG k X.A) (hK : F.K = X.K) (hg : Gl X "repr") (hm : X.mg "repr" = none) (ha : PA X [e] (tAr F W ms)) (he : starEach [e] X.env = (false, eval e X.env) :: starEach [] X.env := by rfl) :
    PE X (.Call (.Name "repr" p) [e] [] pos) (tE F W (mB reprD ms)) := c_callB (call_reprP hr) (fun pa S H xs ds d Q dm r e k => by
  cases r with
  | nil => cases e
  | cons h r =>
    cases r with
    | nil =>
      unfold reprD at e
      dsimp only at e
      split at e
      · rename_i q hq
        split at e
        · cases e
          exact ⟨_, q, rfl, hK ▸ (h.dp hide_le hq).1, ‹_›, k _ H (Same.refl _) (.str _)⟩
        · cases e
      · cases e
    | cons _ _ => cases e) hg hm (by decide +kernel) ha (he := he)
end MS
set_option Elab.async false
set_option linter.all false
set_option maxRecDepth 100000
set_option autoImplicit false
set_option maxHeartbeats 4000000
/-! MS7: classes: isinstance; exceptions: made, raised, caught, held as values, asked. -/
namespace MS
open PySem PySem.Spec PyProof.Rows L2
abbrev gaS (K : PySem.W.Frag) (c : String) : Addr := He.ga K (Str.ofString c)
/-- what the written part says of an exception's class -/
structure XC (K : PySem.W.Frag) (C : Addr) : Prop where
  oex : OexC K C
  hcl : (PySem.W.clsIn K C).isSome = true
  ga : PySem.W.findIn K (.ref C) "__getattribute__" = some (some (.builtin "BaseException.__getattribute__"))
  gg : PySem.W.findIn K (.ref C) "__getattr__" = some none
  hdt : PySem.W.hasDictIn K C = true
  ha : PySem.W.findIn K (.ref C) "__class__" = some (some (.builtin "object.__class__"))
  hn : PySem.W.specialIn K (.builtin "object.__class__") "__get__" = some (some (.builtin "getset_descriptor.__get__"))
  htk : PySem.W.takesIn K (.builtin "object.__class__") = some true
  hm : PySem.W.mroIn K C (.type "object") = some true
def shpB (K : PySem.W.Frag) (C : Addr) : Bool := match K.lookup C with
  | some ⟨.type t, _, .cls cd, sl⟩ => decide (t = "type") && (match cd.mro, sl.toList with
    | .ref C' :: bm, [_, _, _, _, some (.builtin n), _] => C' == C && (n == "ValueError.__new__" && (!cd.hasDel && (cd.hasDict && PySem.HandSPX.refsVE bm)))
    | _, _ => false)
  | _ => false
def xcB (K : PySem.W.Frag) (C : Addr) : Bool :=
  shpB K C && (decide (PySem.W.findIn K (.ref C) "__setattr__" = some (some (.builtin "object.__setattr__"))) && (decide (PySem.W.subIn K (.ref C) (.type "BaseException") = some true) && (decide (PySem.W.typeIn K (.ref C) = some (.type "type")) && (PySem.W.keepIn K (.ref C) &&
  ((PySem.W.clsIn K C).isSome && (decide (PySem.W.findIn K (.ref C) "__getattribute__" = some (some (.builtin "BaseException.__getattribute__"))) && (decide (PySem.W.findIn K (.ref C) "__getattr__" = some none) && (PySem.W.hasDictIn K C &&
  (decide (PySem.W.findIn K (.ref C) "__class__" = some (some (.builtin "object.__class__"))) && (decide (PySem.W.specialIn K (.builtin "object.__class__") "__get__" = some (some (.builtin "getset_descriptor.__get__"))) &&
  (decide (PySem.W.takesIn K (.builtin "object.__class__") = some true) && decide (PySem.W.mroIn K C (.type "object") = some true))))))))))))
theorem shpB_ok {K : PySem.W.Frag} {C : Addr} (q : shpB K C = true) : ∃ nm q N bs bm sn sub ab col dd k0 k1 k2 k3 k5, K.lookup C = some (excClassObj nm q C N bs bm true sn sub ab col dd k0 k1 k2 k3 k5 "ValueError.__new__") ∧ PySem.HandSPX.refsVE bm = true := by
  unfold shpB at q
  split at q
  · rename_i t dd cd sl ho
    rw [Bool.and_eq_true] at q
    obtain ⟨ht, q⟩ := q
    have ht := of_decide_eq_true ht
    subst ht
    split at q
    · rename_i C' bm k0 k1 k2 k3 n k5 hm hs
      simp only [Bool.and_eq_true, beq_iff_eq, Bool.not_eq_true'] at q
      obtain ⟨rfl, rfl, h1, h2, h3⟩ := q
      obtain ⟨nm, bs, mro, ns, qn, hdc, sn, sub, ab, col, dl⟩ := cd
      dsimp only at hm h1 h2
      subst hm h1 h2
      obtain ⟨l⟩ := sl
      dsimp only at hs
      subst hs
      exact ⟨nm, qn, ns, bs, bm, sn, sub, ab, col, dd, k0, k1, k2, k3, k5, ho, h3⟩
    · cases q
  · cases q
theorem xcB_ok {K : PySem.W.Frag} {C : Addr} (q : xcB K C = true) : XC K C := by
  unfold xcB at q
  simp only [Bool.and_eq_true, decide_eq_true_eq] at q
  obtain ⟨h1, h2, h3, h4, h5, h6, h7, h8, h9, h10, h11, h12, h13⟩ := q
  exact ⟨⟨shpB_ok h1, h2, h3, h4, h5⟩, h6, h7, h8, h9, h10, h11, h12, h13⟩
/-- .. of an own class of plain instances -/
structure OC (K : PySem.W.Frag) (C : Addr) : Prop where
  cl : Cls K C
  ha : PySem.W.findIn K (.ref C) "__class__" = some (some (.builtin "object.__class__"))
  hn : PySem.W.specialIn K (.builtin "object.__class__") "__get__" = some (some (.builtin "getset_descriptor.__get__"))
  htk : PySem.W.takesIn K (.builtin "object.__class__") = some true
  hm : PySem.W.mroIn K C (.type "object") = some true
def ocB (K : PySem.W.Frag) (C : Addr) : Bool := PySem.W.plainGet K C Str.empty && (PySem.W.hasDictIn K C && (PySem.W.plainOver K C && (decide (PySem.W.findIn K (.ref C) "__setattr__" = some (some (.builtin "object.__setattr__"))) &&
  (decide (PySem.W.findIn K (.ref C) "__class__" = some (some (.builtin "object.__class__"))) && (decide (PySem.W.specialIn K (.builtin "object.__class__") "__get__" = some (some (.builtin "getset_descriptor.__get__"))) &&
  (decide (PySem.W.takesIn K (.builtin "object.__class__") = some true) && decide (PySem.W.mroIn K C (.type "object") = some true)))))))
theorem ocB_ok {K : PySem.W.Frag} {C : Addr} (q : ocB K C = true) : OC K C := by
  unfold ocB at q
  simp only [Bool.and_eq_true, decide_eq_true_eq] at q
  obtain ⟨h1, h2, h3, h4, h5, h6, h7, h8⟩ := q
  exact ⟨⟨h1, h2, h3, h4⟩, h5, h6, h7, h8⟩
/-- the table of the classes: of plain instances, of exceptions, those that isinstance asks for, which stands below which -/
structure CT where
  os : List String
  es : List String
  tg : List String
  sub : String → String → Bool
def tys : List String := ["NoneType", "bool", "int", "str", "list", "tuple", "dict"]
structure CTok (K : PySem.W.Frag) (T : CT) : Prop where
  obj : ∀ c ∈ T.os, OC K (gaS K c)
  exc : ∀ c ∈ T.es, XC K (gaS K c)
  oo : ∀ c ∈ T.os ++ T.es, ∀ C ∈ T.tg, PySem.W.kitOne K (.ref (gaS K c)) (.ref (gaS K C)) = some (T.sub c C)
  ot : ∀ c ∈ T.os ++ T.es, ∀ t ∈ tys, PySem.W.kitOne K (.ref (gaS K c)) (.type t) = some false
  bo : ∀ t ∈ tys, ∀ C ∈ T.tg, PySem.W.kitOne K (.type t) (.ref (gaS K C)) = some false
def ctB (K : PySem.W.Frag) (T : CT) : Bool := (T.os.all fun c => ocB K (gaS K c)) && ((T.es.all fun c => xcB K (gaS K c)) && (((T.os ++ T.es).all fun c => T.tg.all fun C => decide (PySem.W.kitOne K (.ref (gaS K c)) (.ref (gaS K C)) = some (T.sub c C))) &&
  (((T.os ++ T.es).all fun c => tys.all fun t => decide (PySem.W.kitOne K (.ref (gaS K c)) (.type t) = some false)) && (tys.all fun t => T.tg.all fun C => decide (PySem.W.kitOne K (.type t) (.ref (gaS K C)) = some false)))))
theorem ctB_ok {K : PySem.W.Frag} {T : CT} (q : ctB K T = true) : CTok K T := by
  unfold ctB at q
  simp only [Bool.and_eq_true, List.all_eq_true, decide_eq_true_eq] at q
  obtain ⟨h1, h2, h3, h4, h5⟩ := q
  exact ⟨fun c hc => ocB_ok (h1 c hc), fun c hc => xcB_ok (h2 c hc), h3, h4, h5⟩
def tyOf : D → Option String
  | .non => some "NoneType"
  | .bl _ => some "bool"
  | .int _ => some "int"
  | .str _ => some "str"
  | .lst _ => some "list"
  | .tup _ => some "tuple"
  | .dic _ => some "dict"
  | _ => none
def isaD (T : CT) : List D → Option D
  | [x, .ty t] => if t ∈ tys then (match tyOf x with
    | some n => (L2.kitB n t).map .bl
    | none => (match x with
      | .obj c _ => if c ∈ T.os then some (.bl false) else none
      | .exc c _ => if c ∈ T.es then some (.bl false) else none
      | _ => none)) else none
  | [x, .glo C] => if C ∈ T.tg then (match tyOf x with
    | some _ => some (.bl false)
    | none => (match x with
      | .obj c _ => if c ∈ T.os then some (.bl (T.sub c C)) else none
      | .exc c _ => if c ∈ T.es then some (.bl (T.sub c C)) else none
      | _ => none)) else none
  | _ => none
section
variable {X : Cx} {pins : List (Addr × Obj)} {σ : L2.St} {H : Hp} {s : Shared}
/-- a held exception, as the machine sees it -/
theorem ext_at (I : Inv X pins σ H s) {a C : Addr} {d : Option Addr} (h : H a = some (ExT a C d)) (hd : ∀ dd, d = some dd → ∃ fvs, H dd = some (.xd fvs)) :
    ∃ ox od, PySem.W.InstAt s.heap a ox C od ∧ (∀ dd fvs, d = some dd → H dd = some (.xd fvs) → ∃ o, od = some o ∧ ∀ f, ∃ mA : Str → Option Value, PySem.W.lookIn f o = some (mA f) ∧ RelO (fvs.lookup f) (mA f)) := by
  obtain ⟨⟨oe, vs, e1, ⟨e2, e3⟩, e4⟩, _⟩ := (show ObjOk X.prog X.w H s.heap a (ExT a C d) from I.hok a _ h)
  have no : PySem.W.notCls oe = true := by unfold PySem.W.notCls; rw [e4]
  cases d with
  | none => exact ⟨oe, none, ⟨e1, e2, no, by rw [e3]; trivial⟩, fun dd _ z => by cases z⟩
  | some dd =>
    obtain ⟨fvs, hf⟩ := hd dd rfl
    obtain ⟨mA, hns, hr⟩ := (show ObjOk X.prog X.w H s.heap dd (.xd fvs) from I.hok dd _ hf)
    obtain ⟨o, ho, hl⟩ := lookIn_ns hns
    refine ⟨oe, some o, ⟨e1, e2, no, by rw [e3]; exact ho⟩, fun d2 f2 z hz => ?_⟩
    cases z
    rw [hf] at hz
    cases hz
    exact ⟨o, rfl, fun f => ⟨mA, hl f, hr f⟩⟩
def rIsX (K : PySem.W.Frag) : List V → Hp → VK → Prop := fun xs H Q => ∃ (a C : Addr) (d : Option Addr) (c : V) (u : Value) (b : Bool), xs = [.ref a, c] ∧ ClsV c u ∧ H a = some (ExT a C d) ∧ (∀ dd, d = some dd → ∃ fvs, H dd = some (.xd fvs)) ∧ XC K C ∧ PySem.W.kitOne K (.ref C) u = some b ∧ Q (.bl b) H
theorem call_isX : CallR X (.builtin "isinstance") (fun xs H Q => rIsi X.K xs H Q ∨ rIsX X.K xs H Q) := fun pins s σ H xs us Q I r h => by
  rcases h with h | ⟨a, C, d, c, u, b, rfl, k, h, hd, T, e, q⟩
  · exact call_isi pins s σ H xs us Q I r h
  · obtain ⟨u1, u2, rfl, r1, r2⟩ := vals2 r
    have e2 := k.eq r2
    subst e2
    cases r1
    obtain ⟨ox, od, J, _⟩ := ext_at I h hd
    exact PySem.W.kia_one (PySem.W.kitx_exc T.hcl T.ga T.gg T.oex.exC T.ha T.hn T.htk T.hm) I.kIn J e (fun z => nomatch z) fun tk => ⟨.bl b, H, I.tok tk, rfl, q⟩
end
theorem rc_isa {X : Cx} {K : PySem.W.Frag} {T : CT} (hK : K = X.K) (ok : CTok K T) : RCD K (fun xs H Q => rIsi X.K xs H Q ∨ rIsX X.K xs H Q) (isaD T) := by
  subst hK
  intro pa S H xs ds d Q dm r e k
  have fin : ∀ b, d = .bl b → Q (.bl b) H := fun b z => k _ H (Same.refl _) (by rw [z]; exact .bl b)
  have main : ∀ {x c : V} {dx : D} {u : Value}, Rep X.K pa (hide S H) x dx → ClsV c u → (∀ n, tyOf dx = some n → n ∈ tys → ∃ b, PySem.W.kitOne X.K (.type n) u = some b ∧ d = .bl b) →
      (∀ cn fs, dx = .obj cn fs → cn ∈ T.os ∧ ∃ b, PySem.W.kitOne X.K (.ref (gaS X.K cn)) u = some b ∧ d = .bl b) → (∀ cn fs, dx = .exc cn fs → cn ∈ T.es ∧ ∃ b, PySem.W.kitOne X.K (.ref (gaS X.K cn)) u = some b ∧ d = .bl b) →
      (tyOf dx = none → (∃ cn fs, dx = .obj cn fs) ∨ ∃ cn fs, dx = .exc cn fs) → rIsi X.K [x, c] H Q ∨ rIsX X.K [x, c] H Q := fun {x c dx u} rx kc hb ho he hn => by
    cases rx with
    | non =>
      obtain ⟨b, h1, h2⟩ := hb _ rfl (by decide)
      exact .inl ⟨_, _, _, u, b, rfl, kc, .base .non, h1, fin b h2⟩
    | bl y =>
      obtain ⟨b, h1, h2⟩ := hb _ rfl (by decide)
      exact .inl ⟨_, _, _, u, b, rfl, kc, .base (.bl y), h1, fin b h2⟩
    | int y =>
      obtain ⟨b, h1, h2⟩ := hb _ rfl (by decide)
      exact .inl ⟨_, _, _, u, b, rfl, kc, .base (.int y), h1, fin b h2⟩
    | str y =>
      obtain ⟨b, h1, h2⟩ := hb _ rfl (by decide)
      exact .inl ⟨_, _, _, u, b, rfl, kc, .base (.str y), h1, fin b h2⟩
    | lst h _ =>
      obtain ⟨b, h1, h2⟩ := hb _ rfl (by decide)
      exact .inl ⟨_, _, _, u, b, rfl, kc, .base (.lst (hide_le _ _ h)), h1, fin b h2⟩
    | tup h _ =>
      obtain ⟨b, h1, h2⟩ := hb _ rfl (by decide)
      rcases h with (h | ⟨o, h⟩) | ⟨o, its, n, lk, cl, _⟩
      · exact .inl ⟨_, _, _, u, b, rfl, kc, .base (.tup (hide_le _ _ h)), h1, fin b h2⟩
      · exact .inl ⟨_, _, _, u, b, rfl, kc, .fTuple (hide_le _ _ h), h1, fin b h2⟩
      · exact .inl ⟨_, _, _, u, b, rfl, kc, .kTuple lk cl, h1, fin b h2⟩
    | dic h _ _ =>
      obtain ⟨b, h1, h2⟩ := hb _ rfl (by decide)
      exact .inl ⟨_, _, _, u, b, rfl, kc, .base (.dK (hide_le _ _ h)), h1, fin b h2⟩
    | obj h _ _ =>
      obtain ⟨hc, b, h1, h2⟩ := ho _ _ rfl
      have o := ok.obj _ hc
      exact .inl ⟨_, _, _, u, b, rfl, kc, .base (.ins (hide_le _ _ h) o.cl o.ha o.hn o.htk o.hm), h1, fin b h2⟩
    | exc0 h =>
      obtain ⟨hc, b, h1, h2⟩ := he _ _ rfl
      exact .inr ⟨_, _, none, _, u, b, rfl, kc, hide_le _ _ h, (fun dd z => by cases z), ok.exc _ hc, h1, fin b h2⟩
    | exc1 h h2' _ _ =>
      obtain ⟨hc, b, h1, h2⟩ := he _ _ rfl
      exact .inr ⟨_, _, _, _, u, b, rfl, kc, hide_le _ _ h, fun dd z => by cases z; exact ⟨_, hide_le _ _ h2'⟩, ok.exc _ hc, h1, fin b h2⟩
    | glo x => rcases hn rfl with ⟨_, _, z⟩ | ⟨_, _, z⟩ <;> cases z
    | ty x => rcases hn rfl with ⟨_, _, z⟩ | ⟨_, _, z⟩ <;> cases z
    | pen => rcases hn rfl with ⟨_, _, z⟩ | ⟨_, _, z⟩ <;> cases z
  unfold isaD at e
  split at e
  · rename_i dx t
    cases r with
    | cons rx r =>
      cases r with
      | cons rc r =>
        cases r
        cases rc
        split at e
        · rename_i ht
          refine main rx (.ty t) (fun n hn _ => ?_) (fun cn fs hx => ?_) (fun cn fs hx => ?_) (fun hn => ?_)
          · rw [hn] at e
            rw [Option.map_eq_some_iff] at e
            obtain ⟨b, h1, h2⟩ := e
            exact ⟨b, kit_ty h1, h2.symm⟩
          · subst hx
            simp only [tyOf] at e
            split at e
            · cases e
              exact ⟨‹_›, false, ok.ot _ (List.mem_append_left _ ‹_›) t ht, rfl⟩
            · cases e
          · subst hx
            simp only [tyOf] at e
            split at e
            · cases e
              exact ⟨‹_›, false, ok.ot _ (List.mem_append_right _ ‹_›) t ht, rfl⟩
            · cases e
          · rw [hn] at e
            cases dx <;> first | exact .inl ⟨_, _, rfl⟩ | exact .inr ⟨_, _, rfl⟩ | cases e | cases hn
        · cases e
  · rename_i dx C
    cases r with
    | cons rx r =>
      cases r with
      | cons rc r =>
        cases r
        cases rc
        split at e
        · rename_i ht
          refine main rx (.own _) (fun n hn hm => ?_) (fun cn fs hx => ?_) (fun cn fs hx => ?_) (fun hn => ?_)
          · rw [hn] at e
            cases e
            exact ⟨false, ok.bo n hm C ht, rfl⟩
          · subst hx
            simp only [tyOf] at e
            split at e
            · cases e
              exact ⟨‹_›, _, ok.oo _ (List.mem_append_left _ ‹_›) C ht, rfl⟩
            · cases e
          · subst hx
            simp only [tyOf] at e
            split at e
            · cases e
              exact ⟨‹_›, _, ok.oo _ (List.mem_append_right _ ‹_›) C ht, rfl⟩
            · cases e
          · rw [hn] at e
            cases dx <;> first | exact .inl ⟨_, _, rfl⟩ | exact .inr ⟨_, _, rfl⟩ | cases e | cases hn
        · cases e
  · cases e
section
variable {X : Cx} {F : FX} {W : WX} {a b : Expr} {ms : AM} {p pos : Pos} {T : CT}
theorem c_isa (hK : F.K = X.K) (ok : CTok X.K T) (hg : Gl X "isinstance") (hm : X.mg "isinstance" = none) (ha : PA X [a, b] (tAr F W ms)) (he : starEach [a, b] X.env = (false, eval a X.env) :: starEach [b] X.env := by rfl) (hpl : (backTo pos (starEach [b] X.env)).any (·.1) = false := by rfl) :
    PE X (.Call (.Name "isinstance" p) [a, b] [] pos) (tE F W (mB (isaD T) ms)) := c_callB call_isX (rc_isa hK (hK ▸ ok)) hg hm (by decide +kernel) ha (he := he) (hpl := hpl)
theorem c_glo {x : Str} {c : String} (hx : Str.ofString c = x) (hg : Gl X x) (hK : F.K = X.K) (hm : X.mg x = some (.ref (gaS X.K c))) (hd : (x == ("__debug__" : Str)) = false := by decide) : PE X (.Name x pos) (tE F W (mC (.glo c))) := c_const (pe_glob hg hm (v := .ref (gaS X.K c)) rfl hd) fun _ _ => hK ▸ .glo c
theorem c_ty {x : Str} {n : String} (hg : Gl X x) (hm : X.mg x = none) (hv : bootBuiltins x = some (.type n)) (hn : x ≠ "__name__" := by decide) (hd : (x == ("__debug__" : Str)) = false := by decide) : PE X (.Name x pos) (tE F W (mC (.ty n))) := c_const (pe_bltn hg hm hv (v := .ty n) rfl hn hd) fun _ _ => .ty n
theorem c_gint {x : Str} {i : Int} {t : Tok} (hg : Gl X x) (hm : X.mg x = some (.int i t)) (hd : (x == ("__debug__" : Str)) = false := by decide) : PE X (.Name x pos) (tE F W (mC (.int i))) := c_const (pe_glob hg hm (v := .int i) ⟨t, rfl⟩ hd) fun _ _ => .int i
theorem c_gstr {x z : Str} {t : Tok} (hg : Gl X x) (hm : X.mg x = some (.str z t)) (hd : (x == ("__debug__" : Str)) = false := by decide) : PE X (.Name x pos) (tE F W (mC (.str z))) := c_const (pe_glob hg hm (v := .str z) ⟨t, rfl⟩ hd) fun _ _ => .str z
theorem look_rep {K : PySem.W.Frag} {pa : Addr} {H : Hp} {f : String} {d : D} : ∀ {fs : List (String × D)} {fvs : List (Str × V)}, fvs.map (·.1) = fs.map (fun q => Str.ofString q.1) → RepL K pa H (fvs.map (·.2)) (fs.map (·.2)) → fs.lookup f = some d → (∀ q ∈ fs, Str.ofString q.1 = Str.ofString f → q.1 = f) → ∃ v, fvs.lookup (Str.ofString f) = some v ∧ Rep K pa H v d
  | [], _, _, _, h, _ => by cases h
  | (n, d0) :: fs, [], e, _, _, _ => by cases e
  | (n, d0) :: fs, (m, v0) :: fvs, e, r, h, inj => by
    have e' : m :: fvs.map (·.1) = Str.ofString n :: fs.map (fun q => Str.ofString q.1) := e
    injection e' with e1 e2
    cases r with
    | cons r1 rr =>
      by_cases q : f = n
      · subst q
        rw [List.lookup_cons_self] at h
        cases h
        exact ⟨v0, by rw [e1, List.lookup_cons_self], r1⟩
      · have q1 : (f == n) = false := by simpa using q
        have h2 : fs.lookup f = some d := by simpa [List.lookup, q1] using h
        obtain ⟨v, h3, h4⟩ := look_rep e2 rr h2 fun p hp => inj p (List.mem_cons_of_mem _ hp)
        have q2 : (Str.ofString f == m) = false := by
          rw [e1]
          have : Str.ofString f ≠ Str.ofString n := fun z => q (inj (n, d0) List.mem_cons_self z.symm).symm
          simpa using this
        exact ⟨v, by simpa [List.lookup, q2] using h3, h4⟩
/-- an attribute's name among names: told apart also as codes -/
def injB (f : String) (fs : List (String × D)) : Bool := fs.all fun q => decide (Str.ofString q.1 = Str.ofString f → q.1 = f)
/-- e.f of a held exception -/
def xfM (T : CT) (f : String) : D → Option D
  | .exc c fs => if c ∈ T.es then (if injB f fs = true then fs.lookup f else none) else none
  | _ => none
theorem c_xf {f : String} {m : EM} (hK : F.K = X.K) (ok : CTok X.K T) (hno : ∀ c ∈ T.es, PySem.W.findIn X.K (.ref (gaS X.K c)) (Str.ofString f) = some none) (ha : PE X a (tE F W m)) (hb : attributeBase a (Str.ofString f) X.env (eval a X.env) = eval a X.env := by rfl) :
    PE X (.Attribute a (Str.ofString f) pos) (tE F W (m1 (xfM T f) m)) := ⟨fun pins s σ H Q I h => by
  refine attr_of hb ?_
  have h2 := i_op1 (r := fun x H Q => ∃ (a : Addr) (c : String) (dd : Addr) (fvs : List (Str × V)) (v : V), x = .ref a ∧ c ∈ T.es ∧ H a = some (ExT a (gaS X.K c) (some dd)) ∧ H dd = some (.xd fvs) ∧ fvs.lookup (Str.ofString f) = some v ∧ Q v H) (fun pa S H x a d Q dm r e k => by
    cases r with
    | exc0 h =>
      unfold xfM at e
      dsimp only at e
      split at e
      · split at e
        · cases e
        · cases e
      · cases e
    | exc1 h h2 n r =>
      unfold xfM at e
      dsimp only at e
      split at e
      · rename_i hc
        split at e
        · rename_i hi
          obtain ⟨v, h3, h4⟩ := look_rep n r e fun q hq => of_decide_eq_true (List.all_eq_true.mp hi q hq)
          exact ⟨_, _, _, _, v, rfl, hc, by rw [← hK]; exact hide_le _ _ h, hide_le _ _ h2, h3, k v H (Same.refl _) h4⟩
        · cases e
      · cases e
    | _ => cases e) h
  refine thn (ha.run pins s σ H _ I h2) fun u s1 ⟨x, H1, I1, rx, a1, c, dd, fvs, v, ex, hc, hA, hd, hl, q⟩ => ?_
  subst ex
  cases rx
  obtain ⟨ox, od, J, kk⟩ := ext_at I1 hA (fun d2 z => by cases z; exact ⟨_, hd⟩)
  obtain ⟨o, rfl, lk⟩ := kk dd fvs rfl hd
  obtain ⟨mA, l1, l2⟩ := lk (Str.ofString f)
  rw [hl] at l2
  obtain ⟨w, hw, rw'⟩ := RelO.some_of l2
  have xc := ok.exc c hc
  exact HandSPX.exc_get I1.kIn J xc.ga xc.gg xc.oex.exC (PySem.W.findObj_own xc.hdt (hno c hc) rfl (by rw [l1, hw])) (handed_of rw') ⟨v, H1, I1.tok _, rw', q⟩⟩
end
/-! ### an own exception with fields, made -/
/-- the promise of __init__: the fields are stored -/
def spXI (C : Addr) (fl : List Str) : Sp := fun vs H Q _ => ∃ (a : Addr) (ws : List V), vs = .ref a :: ws ∧ ws.length = fl.length ∧ H a = some (exo a C none) ∧ ∀ dx, H dx = none → dx ≠ a → Q .non (upd (upd H dx (exd dx ((fl.zip ws).reverse))) a (exo a C (some dx)))
def sRaise (c : String) (fl : List String) (ms : AM) : SM := aS ms fun ds env p => if ds.length = fl.length then (if fl.length ≤ 10 then some (.exc c ((fl.zip ds).reverse) env, p) else none) else none
theorem zip_fst {α β : Type} : ∀ {l : List α} {m : List β}, m.length = l.length → (l.zip m).map (·.1) = l
  | [], [], _ => rfl
  | [], _ :: _, h => by cases h
  | _ :: _, [], h => by cases h
  | a :: l, b :: m, h => by
    show a :: (l.zip m).map (·.1) = a :: l
    rw [zip_fst (Nat.succ.inj h)]
theorem zip_snd {α β : Type} : ∀ {l : List α} {m : List β}, m.length = l.length → (l.zip m).map (·.2) = m
  | [], [], _ => rfl
  | [], _ :: _, h => by cases h
  | _ :: _, [], h => by cases h
  | a :: l, b :: m, h => by
    show b :: (l.zip m).map (·.2) = b :: m
    rw [zip_snd (Nat.succ.inj h)]
theorem RepL.reverse {K : PySem.W.Frag} {pa : Addr} {H : Hp} : ∀ {vs : List V} {ds : List D}, RepL K pa H vs ds → RepL K pa H vs.reverse ds.reverse
  | _, _, .nil => .nil
  | _, _, .cons h r => by
    rw [List.reverse_cons, List.reverse_cons]
    exact (RepL.reverse r).append (.cons h .nil)
section
variable {X : Cx} {F : FX} {W : WX} {e : Expr} {es : List Expr} {ms : AM} {p pos pos2 : Pos}
theorem s_raise {c : String} {fl : List String} {x : Str} {fI : Addr} {k : Nat} {fd : FuncData} {ps : List Str} (hc : X.calm = true) (hK : F.K = X.K) (tk : Takes X W) (xc : XC X.K (gaS X.K c)) (iC : PySem.W.findIn X.K (.ref (gaS X.K c)) "__init__" = some (some (.ref fI))) (tI : PySem.W.typeIn X.K (.ref fI) = some (.type "function"))
    (F1 : FnOk X.prog X.w X.K X.mg X.base CX0 k fI fd ps (spXI (gaS X.K c) (fl.map Str.ofString))) (hr : Room (k + 1) X.A) (hb : Binds X.K fd ps []) (hg : Gl X x) (hm : X.mg x = some (.ref (gaS X.K c))) (ha : PA X (e :: es) (tAr F W ms))
    (hdb : (x == ("__debug__" : Str)) = false := by decide) (he : starEach (e :: es) X.env = (false, eval e X.env) :: starEach es X.env := by rfl) (hpl : (backTo pos (starEach es X.env)).any (·.1) = false := by rfl) :
    PS X (.Raise (some (.Call (.Name x p) (e :: es) [] pos)) none pos2) (tSt F W (sRaise c fl ms)) := (ps_raise hc tk (pmk_oex xc.oex iC tI F1 hr hb .nil pass0 hg hm ha hdb he hpl)).imp fun E σ H h => i_aS h fun env pp ds p1 vs H1 fl1 p' f1 r1 _ q k => by
  split at q
  · rename_i hl
    split at q
    · rename_i h10
      cases q
      have hvl : vs.length = (fl.map Str.ofString).length := by rw [r1.length, hl, List.length_map]
      refine ⟨by rw [r1.length, hl]; omega, fun a na => ⟨a, vs ++ [], rfl, by rw [List.append_nil]; exact hvl, upd_same, fun dx nd ne => ⟨rfl, dx, _, upd_same, by rw [upd_ne ne, upd_same], ?_, ?_⟩⟩⟩
      · rw [upd_ne ne] at nd
        exact nd
      · rw [List.append_nil]
        rw [upd_ne ne] at nd
        have e : upd (del (upd (upd (upd H1 a (exo a (gaS X.K c) none)) dx (exd dx (((fl.map Str.ofString).zip vs).reverse))) a (exo a (gaS X.K c) (some dx))) a) dx (.xd (((fl.map Str.ofString).zip vs).reverse)) = upd H1 dx (.xd (((fl.map Str.ofString).zip vs).reverse)) := by
          funext b
          by_cases q : b = dx
          · rw [q, upd_same, upd_same]
          · rw [upd_ne q, upd_ne q]
            unfold del
            split
            · rename_i z
              rw [z, na]
            · rename_i z
              rw [upd_ne z, upd_ne q, upd_ne z]
        rw [e, ← hK]
        have sm : Same H1 (upd H1 dx (.xd (((fl.map Str.ofString).zip vs).reverse))) := same_upd nd
        refine k (some dx) σ _ (f1.grow sm) ⟨_, hide_new f1.dom nd, ?_, ?_⟩
        · have e2 : (fl.zip ds).map (fun q => Str.ofString q.1) = fl.map Str.ofString := by
            rw [show (fun q : String × D => Str.ofString q.1) = Str.ofString ∘ Prod.fst from rfl, ← List.map_map]
            exact congrArg _ (zip_fst hl)
          rw [List.map_reverse, zip_fst hvl, List.map_reverse, e2]
        · rw [List.map_reverse, zip_snd hvl, List.map_reverse, zip_snd hl]
          exact (r1.mono (f1.vis sm)).reverse
    · cases q
  · cases q
end
end MS
set_option Elab.async false
set_option linter.all false
set_option maxRecDepth 100000
set_option autoImplicit false
set_option maxHeartbeats 4000000
/-! MS8: try: .. except C as n: y = n (the error is held behind the suite). -/
namespace MS
open PySem PySem.Spec PyProof.Rows L2
/-- a pinned exception is tracked -/
theorem track {X : Cx} {pins : List (Addr × Obj)} {σ : L2.St} {H : Hp} {s : Shared} {a C : Addr} {d : Option Addr} {oe : Obj} {vs : Array Value} (I : Inv X ((a, oe) :: pins) σ H s) (hz : Zc (.ref C) d oe) (hv : oe.data = .fields vs) (hn : X.s_0.heap.get? a = none)
    (hp : ∀ q ∈ X.pn ++ pins, q.1 ≠ a) : Inv X pins σ (upd H a (ExT a C d)) s := by
  obtain ⟨e1, na, nl, _, _⟩ := I.pin (a, oe) (List.mem_append_right _ List.mem_cons_self)
  have ne0 : ∀ {b : Addr} {o : Obj}, X.s_0.heap.get? b = some o → b ≠ a := fun {b o} e z => by rw [z, hn] at e; cases e
  have ne1 : ∀ {b : Addr} {o : HO}, H b = some o → b ≠ a := fun {b o} e => ne_of_none e na
  have nec : ∀ x c, X.env.cells.lookup x = some c → c ≠ a := fun x c e z => by
    obtain ⟨v, o, q1, q2⟩ := I.cell x c e
    rw [z, e1] at q1
    cases q1
    rw [hv] at q2
    cases q2
  refine ⟨I.ok, I.os, I.bare, ⟨I.base.keep, I.base.slot, fun b o e n hx => ?_, I.base.there, fun b xs q => ?_, fun b o u q => ?_, fun b ps q => ?_⟩, I.loc, I.cell, ?_, fun x c e => ?_, fun q hq => ?_, fun b o e => ?_, I.len⟩
  · rw [upd_ne (ne0 e)]
    exact I.base.free b o e n hx
  · have z := I.base.tups b xs q
    rw [upd_ne (ne1 z)]
    exact z
  · have z := I.base.frzs b o u q
    rw [upd_ne (ne1 z)]
    exact z
  · obtain ⟨more, z⟩ := I.base.tbls b ps q
    exact ⟨more, by rw [upd_ne (ne1 z)]; exact z⟩
  · rw [upd_ne (Ne.symm nl)]
    exact I.free
  · rw [upd_ne (nec x c e)]
    exact I.freeC x c e
  · have z := I.pin q (by
      rcases List.mem_append.mp hq with y | y
      · exact List.mem_append_left _ y
      · exact List.mem_append_right _ (List.mem_cons_of_mem _ y))
    exact ⟨z.1, by rw [upd_ne (hp q hq)]; exact z.2.1, z.2.2⟩
  · by_cases q : b = a
    · rw [q, upd_same] at e
      cases e
      rw [q]
      exact ⟨⟨oe, vs, e1, hz, hv⟩, ⟨oe, e1⟩, fun h1 h2 ⟨o1, v1, g1, g2, g3⟩ k => ⟨o1, v1, k _ g1, g2, g3⟩⟩
    · rw [upd_ne q] at e
      exact (I.hok b o e).stay (fun _ _ _ z => z) (fun c z => by rw [upd_ne (ne1 z)]; exact z) fun c xs z => by rw [upd_ne (ne1 z)]; exact z
/-- what is wished of an exception of the body: n in slot i, y in slot j -/
def wHold (K : PySem.W.Frag) (c : Value) (i j : Nat) (Wout : WX) (E : Ends) : WX := fun cls d σ H => ∃ b, PySem.W.exmOne K cls c = some b ∧
  (b = true → ∃ C, cls = .ref C ∧ ∀ a, H a = none → E.nx (((σ.set i (some (.ref a))).set j (some (.ref a))).set i none) (upd H a (ExT a C d))) ∧ (b = false → Wout cls d σ H)
section
variable {X : Cx} {x n y : Str} {c : Value} {i j : Nat} {body : List Stmt} {np py pn pz pos pos' : Pos} {tb : WX → TS} {Wout : WX}
theorem ps_tryHold (hst : X.stack = X.env :: X.outer) (hfm : X.env.frame = some X.env.locals) (hex : X.ex = []) (hN : X.N.Nodup) (hi : X.N[i]? = some n) (hln : X.env.kindOf n = some .local) (hij : i ≠ j) (hj : X.N[j]? = some y) (hy : Loc X.env.scope y) (hnm : Names X x c) (tk : Takes X Wout)
    (hb : ∀ (W : WX) (pn : List (Addr × Obj)) (xe : Value → Shared → Prop), Takes (X.tr pn xe) W → PassesOwn (model X.prog X.w) X.A X.env xe → PSs (X.tr pn xe) body (tb W))
    (hyf : X.fn y = true ∨ X.env.scope.names.lookup y = some .local := by first | exact .inl rfl | exact .inr rfl | assumption)
    (hsw : swapsWith (.Name n pn) (some (.Name y py)) pz.line X.env = pure false := by rfl) (hd1 : (n == ("__debug__" : Str)) = false := by decide) (hd2 : (n == ("__classdict__" : Str)) = false := by decide) :
    L2.PS X (.Try body [.ExceptHandler (some (.Name x np)) (some n) [.Assign [.Name y py] (.Name n pn) pz] pos'] [] [] pos) (fun E σ H => tb (wHold X.K c i j Wout E) E σ H) := ⟨fun pins s σ H E I h => by
  have ok := I.ok
  have frames : X.A.frames = some (X.env :: X.outer) := by rw [ok.frames, hst]
  have back : ∀ {f : Flow} {s1 : Shared}, SP (X.tr (X.pn ++ pins) (fun e s₁ => wpAny (model X.prog X.w) X.A (noteFrame e X.env) (fun _ s₂ => wpAny (model X.prog X.w) X.A (setFlight e none) (fun _ s₃ =>
      wpAny (model X.prog X.w) X.A (handleBy e X.env [.ExceptHandler (some (.Name x np)) (some n) [.Assign [.Name y py] (.Name n pn) pz] pos']) (SP X pins E) X.xe s₃) X.xe s₂) X.xe s₁)) [] E f s1 → SP X pins E f s1 := fun {f s1} z => by
    cases f with
    | next => obtain ⟨σ', H', J, q⟩ := z; exact ⟨σ', H', J.ofTry ok, q⟩
    | brk => obtain ⟨σ', H', J, q⟩ := z; exact ⟨σ', H', J.ofTry ok, q⟩
    | cont => obtain ⟨σ', H', J, q⟩ := z; exact ⟨σ', H', J.ofTry ok, q⟩
    | ret u => obtain ⟨v, σ', H', J, r, q⟩ := z; exact ⟨v, σ', H', J.ofTry ok, r, q⟩
  refine wpAny_Try_except (wpAny_mono ((hb (wHold X.K c i j Wout E) (X.pn ++ pins) _ (fun u s' air => ?_) PassesOwn.looking).run [] s σ H E (I.toTry _) h) (fun f s1 z => ?_) fun _ _ z => z)
  · obtain ⟨a, B, sI, pins', σ1, H1, cls, d, rfl, J0, nb, up, sky, na, os, ag, b, hm, yes, no⟩ := air
    have J : Inv X pins σ1 H1 sI := J0.ofTry ok
    show wpAny (model X.prog X.w) X.A (noteFrame (.ref a) X.env) _ _ _
    refine Sky.land Zc.steady frames hfm (by rw [← hst]; exact sky) fun h3 fl3 up3 => ?_
    have J3 : Inv X pins σ1 H1 { s' with heap := h3 } := J.landed nb fl3.1 (up.trans up3) os ag
    obtain ⟨oe3, vs3, he3, hz3, hd3⟩ := fl3.there
    have nfr : a ∉ frs (X.env :: X.outer) := fun hm => by
      obtain ⟨_, o', e', hnf⟩ := fl3.2.2.1.mem hm
      rw [he3] at e'
      cases e'
      exact hnf _ hd3
    have nL : a ≠ X.env.locals := fun z => nfr (List.mem_filterMap.mpr ⟨X.env, List.mem_cons_self, by rw [hfm, z]⟩)
    have nF : a ∉ X.fs := fun hm => by
      obtain ⟨e, he, q⟩ := List.mem_filterMap.mp hm
      exact nfr (List.mem_filterMap.mpr ⟨e, List.mem_cons_of_mem _ he, q⟩)
    have nI : ∀ o, sI.heap.get? a ≠ some o := fun o e => by
      have z := nb a o e (by rw [hst]; exact nfr)
      rw [fl3.2.1] at z
      cases z
    have n0 : X.s_0.heap.get? a = none := by
      cases q : X.s_0.heap.get? a with
      | none => rfl
      | some o =>
        obtain ⟨o', z⟩ := J.base.there a o q (by rw [hex]; simp)
        exact absurd z (nI o')
    have npin : ∀ q ∈ X.pn ++ pins, q.1 ≠ a := fun q hq z => nI q.2 (z ▸ (J.pin q hq).1)
    have S3 := J3.suite he3 hd3 na nL nF
    refine wpAny_handleBy_cons (codeAny_handlers_test ?_) (by intro q; cases q)
    have LM := PySem.W.exm_one (M := model X.prog X.w) J3.kIn (fun A Q E s k q => wpAny_typeOf_ref (k _ _ he3) (by rw [hz3.1]; exact q)) hm
    have tst : ∀ {Q : Value → Shared → Prop} {E : Value → Shared → Prop}, Q c { s' with heap := h3 } → wpAny (model X.prog X.w) (X.A.mark (some (.ref a))) (eval (.Name x np) X.env) Q E { s' with heap := h3 } := fun {Q E} q => by
      rcases hnm with ⟨hg, hdb, hm | ⟨hm, hv, hnn⟩⟩
      · exact ld_glob (X := X.suite a ((a, oe3) :: (X.pn ++ pins))) S3 hg hm q hdb
      · exact ld_blt (X := X.suite a ((a, oe3) :: (X.pn ++ pins))) S3 hg hm hv q hnn hdb
    refine tst (LM.here ?_)
    cases b with
    | true =>
      obtain ⟨C, rfl, go⟩ := yes rfl
      refine codeAny_handlers_suite_as (HandSPX.lands_againZ fl3 fun h4 fl4 up4 => ?_)
      have J4 : Inv X pins σ1 H1 { s' with heap := h4 } := J.landed nb fl4.1 ((up.trans up3).trans up4) os ag
      obtain ⟨oe4, vs4, he4, hz4, hd4⟩ := fl4.there
      have S4 := J4.suite he4 hd4 na nL nF
      refine store_ok (X := X.suite a ((a, oe4) :: (X.pn ++ pins))) (v := .ref a) S4 hN hi (.inl hln) rfl (fun s5 S5 => ?_) (.inr hln)
      have suite : PSs (X.suite a ((a, oe4) :: (X.pn ++ pins))) [.Assign [.Name y py] (.Name n pn) pz] (tAsg (tVar i) (gName j)) := pss_one (ps_set hN hj hy (pe_var hi (.inl hln) hd1 hd2) hsw hyf)
      refine wpAny_mono (suite.run [] s5 _ H1 { nx := fun σ6 H6 => σ6 = (σ1.set i (some (.ref a))).set j (some (.ref a)) ∧ H6 = H1, rt := fun _ _ => False } S5 ⟨.ref a, ?_, rfl, rfl⟩) (fun f s6 z => ?_) (fun _ _ z => False.elim z)
      · exact List.getElem?_set_self (by rw [J.len]; exact (List.getElem?_eq_some_iff.mp hi).1)
      · cases f with
        | next =>
          obtain ⟨σ6, H6, S6, rfl, rfl⟩ := z
          have J6 : Inv X ((a, oe4) :: pins) ((σ1.set i (some (.ref a))).set j (some (.ref a))) H6 s6 :=
            ⟨ok, S6.os, S6.bare, S6.base, S6.loc, S6.cell, S6.free, S6.freeC, fun q hq => S6.pin q (List.mem_append_left _ (by
              rcases List.mem_append.mp hq with z | z
              · exact List.mem_cons_of_mem _ (List.mem_append_left _ z)
              · rcases List.mem_cons.mp z with z | z
                · rw [z]; exact List.mem_cons_self
                · exact List.mem_cons_of_mem _ (List.mem_append_right _ z))), S6.hok, S6.len⟩
          exact gone_ok J6 hN hi hln fun s7 J7 => ⟨_, _, track J7 hz4 hd4 n0 npin, go a na⟩
        | brk => exact z.elim fun _ z => z.elim fun _ z => z.2.elim
        | cont => exact z.elim fun _ z => z.elim fun _ z => z.2.elim
        | ret u => exact z.elim fun _ z => z.elim fun _ z => z.elim fun _ z => z.2.2.elim
    | false =>
      show wpAny _ X.A (handleBy (.ref a) X.env []) _ _ _
      refine wpAny_handleBy_nil ?_
      obtain ⟨k1, k2, k3, oe, vs, T, oT, ts', he, hz, hd, h1, hr⟩ := id fl3
      unfold PySem.passOn
      refine wpAny_bind (wpAny_field he hd h1 ?_)
      rw [if_neg (show ¬ ((Value.ref T == Value.none) = true) from by simp)]
      have fin : wpAny (model X.prog X.w) X.A (setFlight (.ref a) X.env.frame) (fun _ s4 => wpAny (model X.prog X.w) X.A (throw (.ref a) : Sem Flow) (SP X pins E) X.xe s4) X.xe { s' with heap := h3 } := by
        rw [hfm]
        exact HandSPX.setFlight_upZ fl3 fun h4 hh4 up4 => wpAny_throw (tk _ _ ⟨a, B, sI, pins, σ1, H1, cls, d, rfl, J, nb, (up.trans up3).trans up4, .inr (.inr (by rw [hst]; exact hh4)), na, os, ag, no rfl⟩)
      first
        | exact wpAny_bind (wpAny_pure (wpAny_bind fin))
        | exact wpAny_bind fin
  · have z' := back z
    cases f with
    | next => exact wpAny_execs_nil z'
    | brk => exact z'
    | cont => exact z'
    | ret u => exact z'⟩
end
/-! ### at the level of data -/
/-- cs: the classes that are caught; os: those that go on -/
def sTry (cs os : List String) (i j : Nat) (b : SM) : SM := fun env p => match b env p with
  | some (.exc C fs env', p1) => if C ∈ cs then (if empB env' i = true then some (.nx (env'.set j (.im (.exc C fs))), p1) else none) else if C ∈ os then some (.exc C fs env', p1) else none
  | r => r
section
variable {X : Cx} {F : FX} {W : WX} {x n y : Str} {c : Value} {i j : Nat} {body : List Stmt} {np py pn pz pos pos' : Pos} {b : SM} {cs os : List String}
theorem s_try (hK : F.K = X.K) (hst : X.stack = X.env :: X.outer) (hfm : X.env.frame = some X.env.locals) (hex : X.ex = []) (hN : X.N.Nodup) (hi : X.N[i]? = some n) (hln : X.env.kindOf n = some .local) (hij : i ≠ j) (hj : X.N[j]? = some y) (hy : Loc X.env.scope y) (hnm : Names X x c) (tk : Takes X W)
    (hcs : ∀ C ∈ cs, PySem.W.exmOne X.K (.ref (gaS X.K C)) c = some true) (hos : ∀ C ∈ os, PySem.W.exmOne X.K (.ref (gaS X.K C)) c = some false)
    (hb : ∀ (W : WX) (pn : List (Addr × Obj)) (xe : Value → Shared → Prop), Takes (X.tr pn xe) W → PassesOwn (model X.prog X.w) X.A X.env xe → PSs (X.tr pn xe) body (tSt F W b))
    (hyf : X.fn y = true ∨ X.env.scope.names.lookup y = some .local := by first | exact .inl rfl | exact .inr rfl | assumption)
    (hsw : swapsWith (.Name n pn) (some (.Name y py)) pz.line X.env = pure false := by rfl) (hd1 : (n == ("__debug__" : Str)) = false := by decide) (hd2 : (n == ("__classdict__" : Str)) = false := by decide) :
    L2.PS X (.Try body [.ExceptHandler (some (.Name x np)) (some n) [.Assign [.Name y py] (.Name n pn) pz] pos'] [] [] pos) (tSt F W (sTry cs os i j b)) := (ps_tryHold hst hfm hex hN hi hln hij hj hy hnm tk hb hyf hsw hd1 hd2).imp fun E σ H ⟨env, p, fl, p', f, q, k⟩ => by
  unfold sTry at q
  cases z : b env p with
  | none => rw [z] at q; cases q
  | some r =>
    obtain ⟨g, p1⟩ := r
    rw [z] at q
    refine ⟨env, p, g, p1, f, z, ?_⟩
    cases g with
    | nx env' => cases q; exact k
    | ret d => cases q; exact k
    | brk env' => cases q; exact k
    | cnt env' => cases q; exact k
    | exc C fs env' =>
      intro d σ' H' f' xr
      dsimp only at q
      split at q
      · rename_i hC
        split at q
        · rename_i he
          cases q
          refine ⟨true, by rw [hK]; exact hcs C hC, fun _ => ⟨_, rfl, fun a na => ?_⟩, fun z => by cases z⟩
          have em : env'[i]? = some .emp := empB_some he
          have sm : Same H' (upd H' a (ExT a (gaS F.K C) d)) := same_upd na
          have f2 := f'.grow sm
          have rp : Rep F.K F.pa (hd F σ' env' (upd H' a (ExT a (gaS F.K C) d))) (.ref a) (.exc C fs) := by
            have v := f'.vis sm
            cases d with
            | none =>
              cases (show fs = [] from xr)
              exact .exc0 (hide_new f'.dom na)
            | some dd =>
              obtain ⟨fvs, h1, h2, h3⟩ := xr
              exact .exc1 (hide_new f'.dom na) (v _ _ h1) h2 (h3.mono v)
          have f3 := f2.put rp j
          have e : ((σ'.set i (some (.ref a))).set j (some (.ref a))).set i none = wipe (σ'.set j (some (.ref a))) [i] := by
            show _ = (σ'.set j (some (.ref a))).set i none
            rw [List.set_comm _ _ hij, List.set_set]
          rw [e]
          refine k _ _ (f3.wiped fun l hl => ?_)
          rw [List.mem_singleton.mp hl, List.getElem?_set_ne (Ne.symm hij)]
          exact em
        · cases q
      · split at q
        · rename_i hC
          cases q
          exact ⟨false, by rw [hK]; exact hos C hC, fun z => (by cases z), fun _ => k d σ' H' f' xr⟩
        · cases q
end
end MS
set_option Elab.async false
set_option linter.all false
set_option maxRecDepth 100000
set_option autoImplicit false
set_option maxHeartbeats 4000000
/-! MS9: a law's own end: the pen, the call from outside, the head. -/
namespace MS
open PySem PySem.Spec PyProof.Rows L2
section
variable {X : Cx} {W : WX} {e : Expr} {es : List Expr} {t : TA} {p pos : Pos} {k : Nat} {f : Addr} {sp : Sp}
def tCallG (sp : Sp) (W : WX) (t : TA) : TE := fun σ H Q => t σ H fun vs H1 => sp vs H1 Q (fun cls d H' => W cls d σ H')
theorem pe_callG {x : Str} (G : FnG X.prog X.w X.K X.mg X.base k f sp) (hr : RoomG k X.A) (tk : Takes X W) (hg : Gl X x) (hm : X.mg x = some (.ref f)) (hk : PySem.W.keepIn X.K (.ref f) = true) (ha : PA X (e :: es) t)
    (hdb : (x == ("__debug__" : Str)) = false := by decide) (he : starEach (e :: es) X.env = (false, eval e X.env) :: starEach es X.env := by rfl) (hpl : (backTo pos (starEach es X.env)).any (·.1) = false := by rfl) :
    PE X (.Call (.Name x p) (e :: es) [] pos) (tCallG sp W t) := ⟨fun pins s σ H Q I h => wpAny_Call_Name_kw (ld_glob I hg hm
  (PySem.W.callWith_K (h₀ := X.base) I.ok.mod.kin hk (thn (ha.run pos pins s σ H _ I h) fun us s1 ⟨vs, H1, I1, r, q⟩ => ⟨I1.kIn, run_R G hr tk I1 r q⟩) he hpl) hdb)⟩
end
/-! ### the pen: return [list(script[:63]), 0, 0] -/
def spPen (K : PySem.W.Frag) : Sp := fun vs H Q _ => ∃ (a : Addr) (ns : List Int), vs = [.ref a] ∧ SqL K H a (ns.map V.int) ∧ ns.length ≤ 63 ∧
  ∀ pa q H', Same H H' → H pa = none → H' pa = some (.lst [.ref q, .int 0, .int 0]) → H' q = some (.lst (ns.map V.int)) → q ≠ pa → Q (.ref pa) H'
def tPen (K : PySem.W.Frag) : TS := tRet (tLst (tCons (tCB (fun xs H Q => ∃ p ys, xs = [.ref p] ∧ (SqL K H p ys ∨ SqT K H p ys) ∧ ∀ l, H l = none → Q (.ref l) (upd H l (.lst ys))) (tCons (tSl (rSlL K) (tVar 0) tNoPart (tPart (tC (.int 63)))) tNil)) (tCons (tC (.int 0)) (tCons (tC (.int 0)) tNil))))
theorem cut63 {ns : List Int} (h : ns.length ≤ 63) : cutV (ns.map V.int) none (some 63) = ns.map V.int := by
  have h1 : (ns.map V.int).length ≤ 63 := by simpa using h
  unfold cutV
  have e1 : HT.sIx (ns.map V.int).length 0 none = 0 := rfl
  rw [e1]
  have e2 : (ns.map V.int).length ≤ HT.sIx (ns.map V.int).length (ns.map V.int).length (some 63) := by
    unfold HT.sIx
    simp
    omega
  rw [List.drop_zero, List.take_of_length_le (by omega)]
theorem pen_pure {K : PySem.W.Frag} {vs : List V} {H : Hp} {Q : VK} {E : XK} (h : spPen K vs H Q E) : tPen K { nx := fun _ H' => Q .non H', rt := Q } (start ["_law_script"] vs) H := by
  obtain ⟨a, ns, rfl, hS, hl, k⟩ := h
  refine ⟨_, rfl, 63, rfl, a, _, rfl, hS, fun l nl => ?_⟩
  rw [cut63 hl]
  refine ⟨l, ns.map V.int, rfl, .inl (.inl (.inl upd_same)), fun q nq => ?_⟩
  refine ⟨by show 3 ≤ sizeLine; decide, fun pa np => ?_⟩
  have s1 : Same H (upd H l (.lst (ns.map V.int))) := same_upd nl
  have s2 := same_upd (o := .lst (ns.map V.int)) nq
  have s3 := same_upd (o := .lst [.ref q, .int 0, .int 0]) np
  refine k pa q _ ((s1.trans s2).trans s3) (s1.free (s2.free np)) upd_same (s3 _ _ upd_same) (ne_of_none upd_same np)
/-! ### the law -/
def spLaw (K : PySem.W.Frag) : Sp := fun vs H Q _ => ∃ (a : Addr) (ns : List Int), vs = [.ref a] ∧ SqL K H a (ns.map V.int) ∧ ns.length ≤ 63 ∧ ∀ H', Q (.bl true) H'
/-- the slots behind the pen's making: n in all, the pen in slot 1 -/
def env1 (n : Nat) : En := .emp :: .im .pen :: List.replicate (n - 2) .emp
def pen0 (ns : List Int) : Pn := [.lst (ns.map D.int), .int 0, .int 0]
def LawTrue (n : Nat) (m : SM) : Prop := ∀ ns : List Int, ns.length ≤ 63 → ∃ p', m (env1 n) (pen0 ns) = some (.ret (.bl true), p')
theorem law_pure {X : Cx} {N : List Str} {m : SM} {W : WX} {vs : List V} {H : Hp} {Q : VK} {E : XK} (hn : 2 ≤ N.length) (hm : LawTrue N.length m) (h : spLaw X.K vs H Q E) :
    tSeq (tAsg (tCallG (spPen X.K) W (tCons (tVar 0) tNil)) (gName 1)) (bU X W m) { nx := fun _ H' => Q .non H', rt := Q } (start N vs) H := by
  obtain ⟨a, ns, rfl, hS, hl, k⟩ := h
  have e0 : start N [.ref a] = some (.ref a) :: none :: List.replicate (N.length - 2) none := by
    unfold L2.start
    have : N.length - [V.ref a].length = (N.length - 2) + 1 := by simp; omega
    rw [this]
    rfl
  rw [e0]
  refine ⟨_, rfl, a, ns, rfl, hS, hl, fun pa q H' sm np h1 h2 nq => ?_⟩
  obtain ⟨p', hm⟩ := hm ns hl
  have hq : hide (fun b => b = pa) H' q = some (.lst (ns.map V.int)) := by rw [hide_of (S := fun b => b = pa) nq]; exact h2
  have intsR : ∀ {V0 : Hp} (l : List Int), RepL X.K pa V0 (l.map V.int) (l.map D.int) := fun {V0} l => by
    induction l with
    | nil => exact .nil
    | cons x l ih => exact .cons (.int x) ih
  have nOw : ∀ b, ¬ Ow (some (.ref a) :: some (.ref pa) :: List.replicate (N.length - 2) none) (env1 N.length) b := fun b ⟨i, e, z⟩ => by
    unfold env1 at z
    match i with
    | 0 => rcases z with ⟨_, z⟩ | ⟨_, _, z⟩ <;> cases z
    | 1 => rcases z with ⟨_, z⟩ | ⟨_, _, z⟩ <;> cases z
    | i + 2 =>
      rcases z with ⟨_, z⟩ | ⟨_, _, z⟩
      · have z' : (List.replicate (N.length - 2) Sl.emp)[i]? = some _ := z
        rw [List.getElem?_replicate] at z'
        split at z' <;> cases z'
      · have z' : (List.replicate (N.length - 2) Sl.emp)[i]? = some _ := z
        rw [List.getElem?_replicate] at z'
        split at z' <;> cases z'
  have no : ∀ {i : Nat} {s : Sl}, (env1 N.length)[i]? = some s → s = .emp ∨ (i = 1 ∧ s = .im .pen) := fun {i s} z => by
    unfold env1 at z
    match i with
    | 0 => cases z; exact .inl rfl
    | 1 => cases z; exact .inr ⟨rfl, rfl⟩
    | i + 2 =>
      have z' : (List.replicate (N.length - 2) Sl.emp)[i]? = some s := z
      rw [List.getElem?_replicate] at z'
      split at z'
      · cases z'; exact .inl rfl
      · cases z'
  have vis : Same (hide (fun b => b = pa) H') (hd ⟨X.K, fun b => b = pa, pa, H'⟩ (some (.ref a) :: some (.ref pa) :: List.replicate (N.length - 2) none) (env1 N.length) H') := hide_anti fun b z => z.elim id fun z => absurd z (nOw b)
  refine ⟨⟨X.K, fun b => b = pa, pa, H'⟩, rfl, env1 N.length, pen0 ns, _, p', ?_, hm, fun v H2 r => ?_⟩
  · refine ⟨by simp [env1], fun b o _ z => z, fun b z => ⟨_, z ▸ h1⟩, rfl, fun i d z => ?_, fun i xs z => ?_, fun i C fs z => ?_, fun i j b _ _ z _ => ?_, ⟨_, h1, ?_⟩⟩
    · rcases no z with z | ⟨rfl, z⟩
      · cases z
      · cases z
        exact ⟨.ref pa, rfl, .pen⟩
    · rcases no z with z | ⟨_, z⟩ <;> cases z
    · rcases no z with z | ⟨_, z⟩ <;> cases z
    · rcases z with ⟨_, z⟩ | ⟨_, _, z⟩
      · rcases no z with z | ⟨_, z⟩ <;> cases z
      · rcases no z with z | ⟨_, z⟩ <;> cases z
    · exact .cons (.lst (vis _ _ hq) (intsR ns)) (.cons (.int 0) (.cons (.int 0) .nil))
  · have := r.rep
    cases this
    exact k H2
/-! ### the call from outside -/
theorem law_go {P : Program} {w : World} {K : PySem.W.Frag} {mg mb : Str → Option Value} {k : Nat} {fa a : Addr} {fd : FuncData} {x : Str} {s₁ : Shared} {vs : List Value} {ns : List Int}
    (KX : K.In s₁.heap) (hns : s₁.heap.Ns mainGlobals mg) (hb : s₁.heap.Ns builtinsNs mb) (hbb : ∀ x : Str, x ≠ "__name__" → mb x = bootBuiltins x) (hlim : s₁.heap.NoLimit) (hg : s₁.gens = #[])
    (ha : s₁.heap.get? a = some { cls := .type "list", data := .seq vs.toArray }) (hi : IntsAre vs ns) (hl : ns.length ≤ 63) (hr : RoomG k callerA)
    (G : ∀ base : Heap, K.In base → base.Ns mainGlobals mg → FnA P w K mg base k fa fd [x] (spLaw K)) (hbind : ∀ (s : Shared) (u : Value), BindsTo s fd ⟨[u], []⟩ [(x, u)]) :
    codeAny (model P w) callerA (.call (.ref fa) ⟨[.ref a], []⟩) (fun r s' => r = .ok (.ret (.bool true)) ∧ OldK s₁.heap s'.heap ∧ s'.os = s₁.os ∧ AllBare s'.gens) s₁ := by
  have rv := vals_ints hi
  have lenV := hi.length
  have hl2 : ns.length ≤ sizeLine := Nat.le_trans hl (by decide)
  have core : ∀ H : Hp, L2.Only H → SqL K H a (ns.map V.int) → HOk P w H s₁.heap → (∀ b u, H b = some u → b = a ∧ K.lookup a = none) →
      codeAny (model P w) callerA (.call (.ref fa) ⟨[.ref a], []⟩) (fun r s' => r = .ok (.ret (.bool true)) ∧ OldK s₁.heap s'.heap ∧ s'.os = s₁.os ∧ AllBare s'.gens) s₁ := fun H hO hS hok hA => by
    have noA : ∀ {b : Addr} {o : Obj}, s₁.heap.get? b = some o → (∃ es ep, o.data = .dict es ep) → H b = none := fun {b o} e ⟨es, ep, d⟩ => by
      cases q : H b with
      | none => rfl
      | some u =>
        rw [(hA b u q).1, ha] at e
        cases e
        cases d
    have nsK : ∀ {b : Addr} {m : Str → Option Value}, s₁.heap.Ns b m → (hidT s₁.heap H).Ns b m := fun ⟨o, es, ep, e, d, r⟩ => ⟨o, es, ep, hidT_get e (noA e ⟨es, ep, d⟩), d, r⟩
    have hKb : K.In (hidT s₁.heap H) := fun b o e => hidT_get (KX b o e) (by
      cases q : H b with
      | none => rfl
      | some u =>
        obtain ⟨z1, z2⟩ := hA b u q
        rw [z1, z2] at e
        cases e)
    have md : Mod K mg (hidT s₁.heap H) := ⟨hKb, nsK hns, ⟨mb, nsK hb, hbb⟩, hlim.elim fun mc z => ⟨mc, nsK z.1, z.2⟩⟩
    have e0 : Env0 P w K mg (hidT s₁.heap H) callerA [] s₁ H := ⟨rfl, md, fun b o e => of_hidT e, Nat.le_of_eq (hidT_size _ _), trivial, (fun b z => by cases z), hok, .of_eq hg⟩
    refine codeAny_mono ((G _ hKb (nsK hns)).run callerA [] s₁ H ⟨[.ref a], []⟩ [.ref a] [.ref a] (fun v _ => v = .bl true) (fun _ _ _ => False) hr e0 (hbind s₁ (.ref a)) (.cons rfl .nil) ⟨a, ns, rfl, hS, hl, fun _ => rfl⟩) fun r s' h => ?_
    cases r with
    | error e =>
      obtain ⟨_, _, _, _, _, _, _, _, _, _, _, _, z⟩ := h
      exact z.elim
    | ok fl =>
      cases fl with
      | ret u =>
        obtain ⟨v, H', os, bare, un, hok', r', q⟩ := h
        subst q
        cases r'
        refine ⟨rfl, OldK.of_keep fun b o e => ?_, os, bare⟩
        rcases hO b with z | ⟨ob, xs, z⟩
        · exact un.keep b o e z (by intro y; cases y) (by intro y; cases y)
        · have e1 := (hok b _ z).1
          have e2 := (hok' b _ (un.frzs b ob _ z)).1
          rw [e] at e1
          cases e1
          exact e2
      | _ => exact h.elim
  cases hk : K.lookup a with
  | some o =>
    have e := KX a o hk
    rw [ha] at e
    cases e
    exact core (fun _ => none) (fun _ => .inl rfl) (.inr ⟨_, vs.toArray, _, hk, rfl, rfl, rfl, by rw [List.size_toArray, lenV]; exact hl2, by simpa using rv⟩) (fun b u z => nomatch z) fun b u z => nomatch z
  | none =>
    refine core (upd (fun _ => none) a (.frz { cls := .type "list", data := .seq vs.toArray } (.lst (ns.map V.int)))) (fun b => ?_) (.inl (.inr ⟨_, upd_same⟩)) (fun b u z => ?_) (fun b u z => ?_)
    · by_cases q : b = a
      · exact .inr ⟨_, _, by rw [q, upd_same]⟩
      · exact .inl (upd_ne q)
    · by_cases q : b = a
      · rw [q, upd_same] at z
        cases z
        rw [q]
        exact ⟨ha, by rw [List.length_map]; exact hl2, vs, _, rv, ha⟩
      · rw [upd_ne q] at z
        cases z
    · by_cases q : b = a
      · exact ⟨q, hk⟩
      · rw [upd_ne q] at z
        cases z
theorem law_walk {l : PySem.W.OpenLaw} {k : Nat} {q : Program} {loose : List Str} {XP : (Str → Option Value) → Heap → Prop} {YP : World → Heap → Prop} {d : DefRec} {x : Str}
    (hn : l.most = some 63) (hdf : d.params.defaults = []) (hr : RoomG k callerA)
    (G : ∀ (w : World) (mg : Str → Option Value) (fa : Addr) (h : Heap), YP w h → h.Ns mainGlobals mg → mg d.name = some (.ref fa) →
      ∃ (K : PySem.W.Frag) (fd : FuncData), K.In h ∧ (∀ (s : Shared) (u : Value), BindsTo s fd ⟨[u], []⟩ [(x, u)]) ∧ ∀ base : Heap, K.In base → base.Ns mainGlobals mg → FnA l.prog w K mg base k fa fd [x] (spLaw K)) :
    PySem.W.WalkO q loose XP YP l.row.toRowW d [] (fun f vs => PySem.call f vs) :=
  Att.attach_call hn hdf fun w s₀ s₁ mg mb fa o pm cd doc a vs ns Gr Y ho hd hcd hmg hobj hints hlen hg => by
    obtain ⟨K, fd, KX, hb, hF⟩ := G w mg fa _ Y Gr.T.g hmg
    exact law_go KX Gr.T.g Gr.T.b Gr.T.builtins Gr.T.nolimit hg hobj hints hlen hr hF hb
/-! ### the head's facts: any test of the written part -/
def obsB (chk : PySem.W.Frag → Bool) (fn : List He.DefD) (K : PySem.W.Frag) : He.AlD := (chk K && fn.all fun d => d.ok K, fn.map fun d => He.fnW K d.at_)
def SaysB (chk : PySem.W.Frag → Bool) (fn : List He.DefD) (K : PySem.W.Frag) : Prop := obsB chk fn K = He.valD fn
def obsBG (n : Nat) (chk : PySem.W.Frag → Bool) (fn : List He.DefD) (g : Addr → Option Obj) : He.AlD := obsB chk fn (He.frG g (He.asD g n))
def hookB (n : Nat) (chk : PySem.W.Frag → Bool) (fn : List He.DefD) : PySem.W.Hook where
  α := He.AlD
  obs := fun s => obsBG n chk fn s.heap.get?
  val := fun _ => He.valD fn
  says := fun _ h => ∃ K : PySem.W.Frag, K.In h ∧ SaysB chk fn K
  of := fun _ _ e => ⟨_, He.frG_in, e⟩
  keeps := fun _ _ _ ⟨K, hK, c⟩ k => ⟨K, hK.keeps k, c⟩
theorem obsBG_eq {n : Nat} {chk : PySem.W.Frag → Bool} {fn : List He.DefD} {g : Addr → Option Obj} {s : Shared} (h : ∀ a, g a = s.heap.get? a) : obsBG n chk fn g = (hookB n chk fn).obs s := by
  rw [funext h]
  rfl
section
variable {chk : PySem.W.Frag → Bool} {fn : List He.DefD} {K : PySem.W.Frag}
theorem SaysB.fact (c : SaysB chk fn K) : chk K = true := (He.ba (show (chk K && fn.all fun d => d.ok K) = true from congrArg (fun z : He.AlD => z.1) c)).1
theorem SaysB.def_ (c : SaysB chk fn K) (i : Nat) {d : He.DefD} (h : fn[i]? = some d := by rfl) : ∃ fd, FunD K d.name d.qual d.params d.body d.scope (d.dvs K) (d.kws K) (He.fAd K d.at_) fd := by
  have c2 := (He.ba (show (chk K && fn.all fun d => d.ok K) = true from congrArg (fun z : He.AlD => z.1) c)).2
  have e2 : (fn.map fun d => He.fnW K d.at_)[i]? = (fn.map He.DefD.val)[i]? := by rw [show (fn.map fun d => He.fnW K d.at_) = fn.map He.DefD.val from congrArg (fun z : He.AlD => z.2) c]
  rw [List.getElem?_map, List.getElem?_map, h] at e2
  exact He.DefD.funD (Option.some.inj e2) (List.all_eq_true.mp c2 d (List.mem_of_getElem? h))
end
end MS
set_option Elab.async false
set_option linter.all false
set_option maxRecDepth 100000
set_option autoImplicit false
set_option maxHeartbeats 4000000
/-! MS10: + and * of all kinds; a list of one's own among several targets. -/
namespace MS
open PySem PySem.Spec PyProof.Rows L2
/-- + of ints, texts, lists -/
def addG : D → D → Option D
  | .int i, .int j => some (.int (i + j))
  | .str x, .str y => if x.length + y.length ≤ 1000000 then some (.str (x ++ y)) else none
  | .lst x, .lst y => if x.length + y.length ≤ 1000000 then some (.lst (x ++ y)) else none
  | _, _ => none
section
variable {X : Cx} {F : FX} {W : WX} {a b c : Expr} {ta tb tc : EM} {pos : Pos}
theorem c_add (ha : PE X a (tE F W ta)) (hb : PE X b (tE F W tb)) : PE X (.BinOp a .Add b pos) (tE F W (m2 addG ta tb)) := c_bin (opR_or op_add (opR_or op_add_str op_cat)) (fun pa S H x y a b d Q dm r1 r2 e k => by
  cases r1 with
  | int i =>
    cases r2 with
    | int j =>
      cases e
      exact .inl ⟨i, j, rfl, rfl, k _ H (Same.refl _) (.int _)⟩
    | _ => cases e
  | str i =>
    cases r2 with
    | str j =>
      unfold addG at e
      dsimp only at e
      split at e
      · cases e
        exact .inr (.inl ⟨i, j, rfl, rfl, line_of ‹_›, k _ H (Same.refl _) (.str _)⟩)
      · cases e
    | _ => cases e
  | lst h r =>
    cases r2 with
    | lst h2 r2 =>
      unfold addG at e
      dsimp only at e
      split at e
      · cases e
        exact .inr (.inr ⟨_, _, _, _, rfl, rfl, hide_le _ _ h, hide_le _ _ h2, by rw [r.length, r2.length]; exact line_of ‹_›, fun p np => k _ _ (same_upd np) (.lst (hide_new dm np) ((r.append r2).mono (vis_upd np)))⟩)
      · cases e
    | _ => cases e
  | _ => cases e) ha hb
end
section
variable {F : FX} {σ : L2.St} {H : Hp} {env : En} {p : Pn}
/-- a hidden new list becomes a slot's own -/
theorem FR.adopt {a : Addr} {vs : List V} {xs : List D} (f : FR (F.tmp a) σ H env p) (hA : H a = some (.lst vs)) (n0 : F.H0 a = none) (nS : ¬ F.S a) (hs : F.S F.pa) (r : RepL F.K F.pa (hd (F.tmp a) σ env H) vs xs) (i : Nat) (hlt : i < env.length) : FR F (σ.set i (some (.ref a))) H (env.set i (.own xs)) p := by
  have na : ∀ {j : Nat}, σ[j]? = some (some (.ref a)) → ¬ ((∃ ys, env[j]? = some (.own ys)) ∨ ∃ C fs, env[j]? = some (.slf C fs)) := fun {j} e z => by
    rcases z with ⟨ys, z⟩ | ⟨C, fs, z⟩
    · obtain ⟨b, ws, h1, _, _, _, h5⟩ := f.own j ys z
      rw [e] at h1
      cases h1
      exact h5 (.inr rfl)
    · obtain ⟨b, dx, ws, h1, _, _, _, _, h5⟩ := f.slf j C fs z
      rw [e] at h1
      cases h1
      exact h5 (.inr rfl)
  have sub : ∀ b, HS F (σ.set i (some (.ref a))) (env.set i (.own xs)) b → HS (F.tmp a) σ env b := fun b z => by
    rcases z with z | ⟨j, e1, e2⟩
    · exact .inl (.inl z)
    · rcases get_set e1 with ⟨q, z, _⟩ | ⟨q, z⟩
      · cases z
        exact .inl (.inr rfl)
      · rw [List.getElem?_set_ne (Ne.symm q)] at e2
        exact .inr ⟨j, z, e2⟩
  have v1 : Same (hd (F.tmp a) σ env H) (hd F (σ.set i (some (.ref a))) (env.set i (.own xs)) H) := hide_anti sub
  have key : ∀ {j : Nat} {b : Addr}, (σ.set i (some (.ref a)))[j]? = some (some (.ref b)) → ((∃ ys, (env.set i (.own xs))[j]? = some (.own ys)) ∨ ∃ C fs, (env.set i (.own xs))[j]? = some (.slf C fs)) → (j = i ∧ b = a) ∨ (b ≠ a ∧ σ[j]? = some (some (.ref b)) ∧ ((∃ ys, env[j]? = some (.own ys)) ∨ ∃ C fs, env[j]? = some (.slf C fs))) := fun {j b} e z => by
    rcases get_set e with ⟨q, w, _⟩ | ⟨q, w⟩
    · cases w
      exact .inl ⟨q, rfl⟩
    · rw [List.getElem?_set_ne (Ne.symm q)] at z
      exact .inr ⟨fun eb => na (eb ▸ w) z, w, z⟩
  refine ⟨by simpa using f.len, f.base, fun b z => f.sdom b (.inl z), hs, fun j d' z => ?_, fun j ys z => ?_, fun j C fs z => ?_, fun j k b e1 e2 z1 z2 => ?_, ?_⟩
  · rcases get_set z with ⟨q, zz, _⟩ | ⟨q, z⟩
    · cases zz
    · obtain ⟨x, h1, h2⟩ := f.im j d' z
      exact ⟨x, by rw [List.getElem?_set_ne (Ne.symm q)]; exact h1, h2.mono v1⟩
  · rcases get_set z with ⟨q, zz, _⟩ | ⟨q, z⟩
    · subst q
      cases zz
      exact ⟨a, vs, List.getElem?_set_self (f.len ▸ hlt), hA, r.mono v1, n0, nS⟩
    · obtain ⟨b, ws, h1, h2, h3, h4, h5⟩ := f.own j ys z
      exact ⟨b, ws, by rw [List.getElem?_set_ne (Ne.symm q)]; exact h1, h2, h3.mono v1, h4, fun z => h5 (.inl z)⟩
  · rcases get_set z with ⟨q, zz, _⟩ | ⟨q, z⟩
    · cases zz
    · obtain ⟨b, dx, ws, h1, h2, h3, h4, h5, h6⟩ := f.slf j C fs z
      exact ⟨b, dx, ws, by rw [List.getElem?_set_ne (Ne.symm q)]; exact h1, h2, h3, h4.mono v1, h5, fun z => h6 (.inl z)⟩
  · rcases key e1 z1 with ⟨q1, b1⟩ | ⟨b1, w1, y1⟩
    · rcases key e2 z2 with ⟨q2, b2⟩ | ⟨b2, w2, y2⟩
      · rw [q1, q2]
      · exact absurd b1 b2
    · rcases key e2 z2 with ⟨q2, b2⟩ | ⟨b2, w2, y2⟩
      · exact absurd b2 b1
      · exact f.inj j k b w1 w2 y1 y2
  · obtain ⟨ws, h1, h2⟩ := f.pen
    exact ⟨ws, h1, h2.mono v1⟩
theorem vis_putO {v : V} {x : D} {i : Nat} (hl : σ.length = env.length) : Same (hd F σ env H) (hd F (σ.set i (some v)) (env.set i (.im x)) H) := hide_anti fun a z => z.elim .inl fun z => .inr (ow_put hl a z)
end
def eUW (X : Cx) (W : WX) (m : EM) : TE := fun σ H Q => ∃ F : FX, F.K = X.K ∧ tE F W m σ H Q
theorem c_all {X : Cx} {W : WX} {e : Expr} {m : EM} (h : ∀ F : FX, F.K = X.K → PE X e (tE F W m)) : PE X e (eUW X W m) := ⟨fun pins s σ H Q I ⟨F, hK, z⟩ => (h F hK).run pins s σ H Q I z⟩
/-- x, y = [], e -/
def sParO2 (i j : Nat) (m : EM) : SM := eS m fun d env p => if i < env.length then some (.nx ((env.set i (.own [])).set j (.im d)), p) else none
/-- x, y, z = [], e, e' -/
def sParO3 (i j l : Nat) (m m' : EM) : SM := eS m fun d env p => eS m' (fun d' env p => if i < env.length then some (.nx (((env.set i (.own [])).set j (.im d)).set l (.im d')), p) else none) env p
section
variable {X : Cx} {F : FX} {W : WX} {pos : Pos}
theorem i_tmp {σ : L2.St} {H : Hp} {a : Addr} {m : EM} {E : Ends} {env : En} {p : Pn} {fl : Fl} {p' : Pn} {k : D → SM} {R : VK} (na : ¬ F.S a) (hK : F.K = X.K) (f : FR (F.tmp a) σ H env p) (q : eS m k env p = some (fl, p')) (sv : SV F W E fl p') (hA : H a = some (.lst [])) (n0 : F.H0 a = none) (np : a ≠ F.pa)
    (hx : ∀ C fs p1 H1, FR (F.tmp a) σ H1 env p1 → some (Fl.exc C fs env, p1) = some (fl, p') → FR F σ H1 env p1)
    (hk : ∀ d p1 v H1, FR (F.tmp a) σ H1 env p1 → Rep F.K F.pa (hd (F.tmp a) σ env H1) v d → Kp F.pa H H1 → k d env p1 = some (fl, p') → R v H1) : eUW X W m σ H R := by
  unfold eS at q
  cases z : m env p with
  | none => rw [z] at q; cases q
  | some r =>
    obtain ⟨o, p1⟩ := r
    rw [z] at q
    refine ⟨F.tmp a, hK, env, p, o, p1, f, z, ?_⟩
    cases o with
    | val d => exact fun v H1 f1 k1 r1 => hk d p1 v H1 f1 r1 k1 q
    | exc C fs =>
      intro d H1 f1 k1 r1
      have g := hx C fs p1 H1 f1 q
      cases q
      exact sv d σ H1 g (r1.mono (hide_anti fun b z => z.elim (fun z => .inl (.inl z)) .inr))
theorem FR.untmp {σ : L2.St} {H : Hp} {a : Addr} {env : En} {p : Pn} (f : FR (F.tmp a) σ H env p) (hs : F.S F.pa) : FR F σ H env p := by
  have v1 : Same (hd (F.tmp a) σ env H) (hd F σ env H) := hide_anti fun b z => z.elim (fun z => .inl (.inl z)) .inr
  refine ⟨f.len, f.base, fun b z => f.sdom b (.inl z), hs, fun i d z => ?_, fun i xs z => ?_, fun i C fs z => ?_, f.inj, ?_⟩
  · obtain ⟨x, h1, h2⟩ := f.im i d z
    exact ⟨x, h1, h2.mono v1⟩
  · obtain ⟨b, vs, h1, h2, h3, h4, h5⟩ := f.own i xs z
    exact ⟨b, vs, h1, h2, h3.mono v1, h4, fun z => h5 (.inl z)⟩
  · obtain ⟨b, dx, vs, h1, h2, h3, h4, h5, h6⟩ := f.slf i C fs z
    exact ⟨b, dx, vs, h1, h2, h3, h4.mono v1, h5, fun z => h6 (.inl z)⟩
  · obtain ⟨vs, h1, h2⟩ := f.pen
    exact ⟨vs, h1, h2.mono v1⟩
theorem s_parO3 {i j l : Nat} {x y z : Str} {b c : Expr} {mb mc : EM} {px py pz pt pl0 : Pos} {kt k2 pt2} (hK : F.K = X.K) (hc0 : X.calm = true) (hN : X.N.Nodup) (hi : X.N[i]? = some x) (hj : X.N[j]? = some y) (hl : X.N[l]? = some z) (hij : i ≠ j) (hil : i ≠ l) (hjl : j ≠ l)
    (hx : X.env.scope.names.lookup x = some .local) (hy : X.env.scope.names.lookup y = some .local) (hz : X.env.scope.names.lookup z = some .local) (hb : ∀ F' : FX, F'.K = X.K → PE X b (tE F' W mb)) (hc : ∀ F' : FX, F'.K = X.K → PE X c (tE F' W mc))
    (hw : swappedStores [.Tuple [.Name x px, .Name y py, .Name z pz] kt pt] (.Tuple [.List [] pl0, b, c] k2 pt2) X.env = pure (some [x, y, z]))
    (hs : swapsWithSole [.Tuple [.Name x px, .Name y py, .Name z pz] kt pt] (.Tuple [.List [] pl0, b, c] k2 pt2) pos.line X.env = pure false := by rfl)
    (h1 : starEach [.List [] pl0, b, c] X.env = (false, eval (.List [] pl0) X.env) :: starEach [b, c] X.env := by rfl) (h2 : starEach [b, c] X.env = (false, eval b X.env) :: starEach [c] X.env := by rfl) (h3 : starEach [c] X.env = (false, eval c X.env) :: starEach [] X.env := by rfl) :
    L2.PS X (.Assign [.Tuple [.Name x px, .Name y py, .Name z pz] kt pt] (.Tuple [.List [] pl0, b, c] k2 pt2) pos) (tSt F W (sParO3 i j l mb mc)) :=
  (ps_par3 hc0 hN hi hj hl hij hil hjl hx hy hz (pa_cons (pe_lst pa_nil) (pa_cons (c_all hb) (pa_cons (c_all hc) pa_nil h3) h2) h1) hw hs).imp fun E σ H ⟨env, p, fl, p', f, q, k⟩ => by
  refine ⟨by show 0 ≤ sizeLine; decide, fun a na => ?_⟩
  have nS : ¬ F.S a := fun z => by
    obtain ⟨o, h⟩ := f.sdom a z
    rw [na] at h
    cases h
  have np : a ≠ F.pa := fun e => nS (e ▸ f.spa)
  have n0 := f.fresh na
  have f1 : FR (F.tmp a) σ (upd H a (.lst [])) env p := f.tmp na
  refine i_tmp nS hK f1 q k upd_same n0 np (fun _ _ _ _ g _ => g.untmp f.spa) fun d p1 v H1 g1 r1 k1 q1 => ?_
  refine i_tmp nS hK g1 q1 k (k1 _ _ np upd_same) n0 np (fun _ _ _ _ g _ => g.untmp f.spa) fun d' p2 v' H2 g2 r2 k2 q2 => ?_
  split at q2
  · rename_i hlt
    cases q2
    have ad := g2.adopt (xs := []) (k2 _ _ np (k1 _ _ np upd_same)) n0 nS f.spa .nil i hlt
    have sub : Same (hd (F.tmp a) σ env H2) (hd F (σ.set i (some (.ref a))) (env.set i (.own [])) H2) := hide_anti fun b z => by
      rcases z with z | ⟨j', e1, e2⟩
      · exact .inl (.inl z)
      · rcases get_set e1 with ⟨q, z, _⟩ | ⟨q, z⟩
        · cases z
          exact .inl (.inr rfl)
        · rw [List.getElem?_set_ne (Ne.symm q)] at e2
          exact .inr ⟨j', z, e2⟩
    refine ⟨_, _, _, rfl, k _ H2 ((ad.put ((r1.mono (g2.visK k2)).mono sub) j).put ((r2.mono sub).mono (vis_putO ad.len)) l)⟩
  · cases q2
end
theorem takesW0 {X : Cx} : Takes X W0 := takes0
def LenA (ms : AM) (n : Nat) : Prop := ∀ env p ds p', ms env p = some (.vals ds, p') → ds.length = n
theorem lenN : LenA aNil 0 := fun env p ds p' h => by
  cases h
  rfl
theorem lenC {m : EM} {ms : AM} {n : Nat} (h : LenA ms n) : LenA (aCons m ms) (n + 1) := fun env p ds p' e => by
  unfold aCons at e
  cases z : m env p with
  | none => rw [z] at e; cases e
  | some r =>
    obtain ⟨o, p1⟩ := r
    rw [z] at e
    cases o with
    | exc C fs => cases e
    | val d =>
      dsimp only at e
      cases y : ms env p1 with
      | none => rw [y] at e; cases e
      | some r =>
        obtain ⟨o2, p2⟩ := r
        rw [y] at e
        cases o2 with
        | exc C fs => cases e
        | vals ds2 =>
          cases e
          rw [List.length_cons, h _ _ _ _ y]
/-- y = [e for ..], y a plain local -/
theorem s_setLc {X : Cx} {F : FX} {W : WX} {i : Nat} {y : Str} {py : Pos} {elt tg iter : Expr} {ifs : List Expr} {scope : Scope} {own : List (Str × Nat)} {is : List Nat} {pos spos : Pos} {mi : AM} {g : D → En → Option En} {tt te : EM} (hy : X.N[i]? = some y) (hyl : X.env.scope.names.lookup y = some .local)
    (hsw : swapsWith (.ListComp elt [⟨tg, iter, ifs, 0⟩] scope pos) (some (.Name y py)) spos.line X.env = pure true) (hK : F.K = X.K) (hc : X.calm = true) (hN : X.N.Nodup) (hi : PI X tg iter (tI F W mi)) (ok : BlkOk X.N X.env.scope scope own) (his : own.map (·.2) = is)
    (hg : ∀ (s : Shared) (H : Hp) (C : Addr) (cl : List (Str × Addr)) (fp : List Addr) (F' : FX), F'.K = X.K → PG (X.blk s H scope (compEnvC scope cl C X.env) fp) tg (tG F' is g))
    (ht : ∀ (s : Shared) (H : Hp) (C : Addr) (cl : List (Str × Addr)) (fp : List Addr) (F' : FX), F'.K = X.K → PTs (X.blk s H scope (compEnvC scope cl C X.env) fp) ifs (tT F' W0 tt))
    (he : ∀ (s : Shared) (H : Hp) (C : Addr) (cl : List (Str × Addr)) (fp : List Addr) (F' : FX), F'.K = X.K → PE (X.blk s H scope (compEnvC scope cl C X.env) fp) elt (tE F' W0 te)) (hs : ∀ x, foldedSetIterable iter X.env x = pure x := by intro _; rfl) :
    L2.PS X (.Assign [.Name y py] (.ListComp elt [⟨tg, iter, ifs, 0⟩] scope pos) spos) (tSt F W (sSet i (mLc mi is g tt te))) := by
  subst his
  refine (ps_setLc (g := gU X (own.map (·.2)) g) (tt := tU X.K tt) (te := eU X.K te) hc hN hy hyl hsw hi ok (fun s H C cl fp => g_all (X := X.blk s H scope (compEnvC scope cl C X.env) fp) (hg s H C cl fp)) (fun s H C cl fp => ⟨fun pins s1 σ H1 Q I ⟨F', hK', z⟩ => (ht s H C cl fp F' hK').run pins s1 σ H1 Q I z⟩) (fun s H C cl fp => ⟨fun pins s1 σ H1 Q I ⟨F', hK', z⟩ => (he s H C cl fp F' hK').run pins s1 σ H1 Q I z⟩) hs).imp fun E σ H h => ?_
  refine i_lc (X := X) hK (i_eS h fun env p d p1 v H1 fl p' f1 r1 _ q k => ?_)
  cases q
  exact k _ H1 (f1.put r1 i)
end MS
set_option Elab.async false
set_option linter.all false
namespace MS
open PySem PySem.Spec PyProof.Rows L2
/-! ### the plain side -/
def drawM (k1 k2 k3 k4 k5 k6 k7 k8 k9 k10 : Int) : SM := (sSeq (sIf (m2 gtI (mIx (mVar 0) (mC (.int 2))) (mC (.int 0))) (sSeq (sSet 2 (m2 modI (mB intD (aCons (mIx (mVar 0) (mC (.int 2))) aNil)) (mVar 1))) (sSeq (sPen 0 2 (m2 divI (mB intD (aCons (mIx (mVar 0) (mC (.int 2))) aNil)) (mVar 1))) (sRet (mVar 2)))) sNil) (sSeq (sSet 3 (mIx (mVar 0) (mC (.int 1)))) (sSeq (sPen 0 1 (m2 addG (mVar 3) (mC (.int 1)))) (sSeq (sSet 4 (m2 addG (m2 mulI (mC (.int k1)) (mVar 3)) (mC (.int k2)))) (sSeq (sIf (m2 neD (mIx (mVar 0) (mC (.int 0))) (mB lstD aNil)) (sSet 4 (mIx (mIx (mVar 0) (mC (.int 0))) (m2 modI (mB intD (aCons (mVar 3) aNil)) (mB lenD (aCons (mIx (mVar 0) (mC (.int 0))) aNil))))) sNil) (sSeq (sIf (mAnd (m2 ltI (mVar 3) (mB lenD (aCons (mIx (mVar 0) (mC (.int 0))) aNil))) (m2 geI (mB absD (aCons (mVar 4) aNil)) (m2 powI (mC (.int 10)) (mC (.int 18))))) (sSeq (sSet 5 (m2 addG (m2 mulI (mC (.int 2)) (m2 subI (mB absD (aCons (mVar 4) aNil)) (m2 powI (mC (.int 10)) (mC (.int 18))))) (mB intD (aCons (m2 ltI (mVar 4) (mC (.int 0))) aNil)))) (sSeq (sPen 0 2 (m2 divI (mB intD (aCons (mVar 5) aNil)) (mVar 1))) (sRet (m2 modI (mB intD (aCons (mVar 5) aNil)) (mVar 1))))) sNil) (sSeq (sSet 6 (m2 modI (mB intD (aCons (m2 powI (m2 addG (m2 addG (m2 modI (mB intD (aCons (mVar 4) aNil)) (mC (.int k3))) (m2 mulI (mC (.int k4)) (mVar 3))) (mC (.int k5))) (mC (.int 5))) aNil)) (mC (.int k6)))) (sSeq (sSet 6 (m2 modI (mB intD (aCons (m2 powI (m2 addG (m2 addG (m2 mulI (mVar 6) (m2 addG (m2 mulI (mC (.int 2)) (mVar 3)) (mC (.int k7)))) (m2 mulI (m2 mulI (mC (.int k8)) (mVar 3)) (mVar 3))) (mC (.int k9))) (mC (.int 3))) aNil)) (mC (.int k10)))) (sRet (m2 modI (mB intD (aCons (m2 divI (mVar 6) (mC (.int 32))) aNil)) (mVar 1)))))))))))
def PenOk (n : Nat) (p : Pn) : Prop := ∃ (ns : List Int) (t g : Int), p = [.lst (ns.map .int), .int t, .int g] ∧ 0 ≤ t ∧ t + n ≤ 10000 ∧ 0 ≤ g
theorem PenOk.mono {n m : Nat} {p : Pn} (h : PenOk m p) (l : n ≤ m) : PenOk n p := by
  obtain ⟨ns, t, g, e, h1, h2, h3⟩ := h
  exact ⟨ns, t, g, e, h1, by omega, h3⟩
theorem pen0_ok (ns : List Int) : PenOk 10000 (pen0 ns) := ⟨ns, 0, 0, rfl, by omega, by omega, by omega⟩
theorem toPys_ints : ∀ ns : List Int, toPys (ns.map D.int) = some (ns.map PyData.int)
  | [] => by simp [toPys]
  | n :: ns => by simp [toPys, toPy, toPys_ints ns]
section
variable {env : En} {p : Pn} {a b c : EM} {ms : AM} {i j : Nat} {s t : SM} {d : D} {ds : List D}
@[simp] theorem ap_seq : sSeq s t env p = (match s env p with
  | some (.nx env', p1) => t env' p1
  | r => r) := rfl
@[simp] theorem ap_nil : sNil env p = some (.nx env, p) := rfl
@[simp] theorem ap_if : sIf c s t env p = (match c env p with
  | some (.val (.bl k), p1) => if k = true then s env p1 else t env p1
  | some (.exc C fs, p1) => some (.exc C fs env, p1)
  | _ => none) := by
  unfold sIf eS
  cases c env p with
  | none => rfl
  | some r =>
    obtain ⟨o, p1⟩ := r
    cases o with
    | exc => rfl
    | val d =>
      cases d with
      | bl k => cases k <;> rfl
      | _ => rfl
@[simp] theorem ap_set : sSet i a env p = (match a env p with
  | some (.val d, p1) => some (.nx (env.set i (.im d)), p1)
  | some (.exc C fs, p1) => some (.exc C fs env, p1)
  | none => none) := rfl
@[simp] theorem ap_expr : sExpr a env p = (match a env p with
  | some (.val _, p1) => some (.nx env, p1)
  | some (.exc C fs, p1) => some (.exc C fs env, p1)
  | none => none) := rfl
@[simp] theorem ap_ret : sRet a env p = (match a env p with
  | some (.val d, p1) => some (.ret d, p1)
  | some (.exc C fs, p1) => some (.exc C fs env, p1)
  | none => none) := rfl
@[simp] theorem ap_retN : sRetN env p = some (.ret .non, p) := rfl
@[simp] theorem ap_pen {k : Int} : sPen i k a env p = (match a env p with
  | some (.val d, p1) => (match env[i]? with
    | some (.im .pen) => (match ixN p1.length k with
      | some j => some (.nx env, p1.set j d)
      | none => none)
    | _ => none)
  | some (.exc C fs, p1) => some (.exc C fs env, p1)
  | none => none) := rfl
@[simp] theorem ap_own : sOwn i ms env p = (match ms env p with
  | some (.vals ds, p1) => if ds.length ≤ 1000000 then some (.nx (env.set i (.own ds)), p1) else none
  | some (.exc C fs, p1) => some (.exc C fs env, p1)
  | none => none) := rfl
@[simp] theorem ap_app : sAppend i a env p = (match env[i]? with
  | some (.own xs) => (match a env p with
    | some (.val d, p1) => if xs.length < 1000000 then some (.nx (env.set i (.own (xs ++ [d]))), p1) else none
    | some (.exc C fs, p1) => some (.exc C fs env, p1)
    | none => none)
  | _ => none) := rfl
@[simp] theorem ap_frz : sFrz i s env p = (match env[i]? with
  | some (.own xs) => s (env.set i (.im (.lst xs))) p
  | _ => none) := rfl
@[simp] theorem ap_par2 : sPar2 i j ms env p = (match ms env p with
  | some (.vals [x, y], p1) => some (.nx ((env.set i (.im x)).set j (.im y)), p1)
  | some (.exc C fs, p1) => some (.exc C fs env, p1)
  | _ => none) := by
  unfold sPar2 aS
  cases ms env p with
  | none => rfl
  | some r =>
    obtain ⟨o, p1⟩ := r
    cases o with
    | exc => rfl
    | vals ds => match ds with
      | [] => rfl
      | [_] => rfl
      | [_, _] => rfl
      | _ :: _ :: _ :: _ => rfl
@[simp] theorem ap_parO3 {l : Nat} : sParO3 i j l a b env p = (match a env p with
  | some (.val d, p1) => (match b env p1 with
    | some (.val d', p2) => if i < env.length then some (.nx (((env.set i (.own [])).set j (.im d)).set l (.im d')), p2) else none
    | some (.exc C fs, p2) => some (.exc C fs env, p2)
    | none => none)
  | some (.exc C fs, p1) => some (.exc C fs env, p1)
  | none => none) := rfl
@[simp] theorem ap_for {mi : AM} {g : D → En → Option En} : sFor mi g s env p = (match mi env p with
  | some (.vals ds, p1) => forL g s ds env p1
  | some (.exc C fs, p1) => some (.exc C fs env, p1)
  | none => none) := rfl
@[simp] theorem ap_aug {g : D → D → Option D} : sAug i g a env p = (match env[i]? with
  | some (.im x) => (match a env p with
    | some (.val y, p1) => (match g x y with
      | some z => some (.nx (env.set i (.im z)), p1)
      | none => none)
    | some (.exc C fs, p1) => some (.exc C fs env, p1)
    | none => none)
  | _ => none) := rfl
@[simp] theorem ap_raise {C : String} {fl : List String} : sRaise C fl ms env p = (match ms env p with
  | some (.vals ds, p1) => if ds.length = fl.length then (if fl.length ≤ 10 then some (.exc C ((fl.zip ds).reverse) env, p1) else none) else none
  | some (.exc C fs, p1) => some (.exc C fs env, p1)
  | none => none) := rfl
@[simp] theorem ap_try {cs os : List String} : sTry cs os i j s env p = (match s env p with
  | some (.exc C fs env', p1) => if C ∈ cs then (if empB env' i = true then some (.nx (env'.set j (.im (.exc C fs))), p1) else none) else if C ∈ os then some (.exc C fs env', p1) else none
  | r => r) := rfl
@[simp] theorem ap_var : mVar i env p = (match env[i]? with
  | some (.im d) => some (.val d, p)
  | _ => none) := rfl
@[simp] theorem ap_c : mC d env p = some (.val d, p) := rfl
@[simp] theorem ap_1 {g : D → Option D} : m1 g a env p = bnd (a env p) fun x p1 => okD (g x) p1 := rfl
@[simp] theorem ap_2 {g : D → D → Option D} : m2 g a b env p = bnd (a env p) fun x p1 => bnd (b env p1) fun y p2 => okD (g x y) p2 := rfl
@[simp] theorem ap_ix : mIx a b env p = bnd (a env p) fun x p1 => bnd (b env p1) fun y p2 => okD (ixD p2 x y) p2 := rfl
@[simp] theorem ap_and : mAnd a b env p = bnd (a env p) fun x p1 => match x with
  | .bl k => if k = true then b env p1 else some (.val (.bl false), p1)
  | _ => none := by
  unfold mAnd tst
  congr 1
  funext x p1
  cases x with
  | bl k => cases k <;> rfl
  | _ => rfl
@[simp] theorem ap_or : mOr a b env p = bnd (a env p) fun x p1 => match x with
  | .bl k => if k = true then some (.val (.bl true), p1) else b env p1
  | _ => none := by
  unfold mOr tst
  congr 1
  funext x p1
  cases x with
  | bl k => cases k <;> rfl
  | _ => rfl
@[simp] theorem ap_ifx : mIf c a b env p = bnd (c env p) fun x p1 => match x with
  | .bl k => if k = true then a env p1 else b env p1
  | _ => none := by
  unfold mIf tst
  congr 1
  funext x p1
  cases x with
  | bl k => cases k <;> rfl
  | _ => rfl
@[simp] theorem ap_not : mNot a env p = bnd (a env p) fun x p1 => match x with
  | .bl k => some (.val (.bl (!k)), p1)
  | _ => none := by
  unfold mNot m1
  congr 1
  funext x p1
  cases x <;> rfl
@[simp] theorem ap_chain {g g' : D → D → Option D} : mChain g g' a b c env p = bnd (a env p) fun x p1 => bnd (b env p1) fun y p2 => match g x y with
  | some (.bl true) => bnd (c env p2) fun z p3 => okD (g' y z) p3
  | some (.bl false) => some (.val (.bl false), p2)
  | _ => none := by
  rfl
@[simp] theorem ap_an : aNil env p = some (.vals [], p) := rfl
@[simp] theorem ap_ac : aCons a ms env p = (match a env p with
  | some (.val d, p1) => (match ms env p1 with
    | some (.vals ds, p2) => some (.vals (d :: ds), p2)
    | r => r)
  | some (.exc C fs, p1) => some (.exc C fs, p1)
  | none => none) := rfl
@[simp] theorem ap_as : aStar a ms env p = (match a env p with
  | some (.val d, p1) => (match (match d with | .lst xs => some xs | .tup xs => some xs | _ => none) with
    | some xs => (match ms env p1 with
      | some (.vals ds, p2) => some (.vals (xs ++ ds), p2)
      | r => r)
    | none => none)
  | some (.exc C fs, p1) => some (.exc C fs, p1)
  | none => none) := rfl
@[simp] theorem ap_args {k : FM} : mArgs k ms env p = bndL (ms env p) k := rfl
@[simp] theorem ap_b {g : List D → Option D} : mB g ms env p = bndL (ms env p) fun ds p1 => okD (g ds) p1 := rfl
@[simp] theorem bs_val {k : D → Pn → Option (Ou × Pn)} : bnd (some (.val d, p)) k = k d p := rfl
@[simp] theorem bs_exc {C : String} {fs : List (String × D)} {k : D → Pn → Option (Ou × Pn)} : bnd (some (.exc C fs, p)) k = some (.exc C fs, p) := rfl
@[simp] theorem bs_none {k : D → Pn → Option (Ou × Pn)} : bnd none k = none := rfl
@[simp] theorem bs_vals {k : FM} : bndL (some (.vals ds, p)) k = k ds p := rfl
@[simp] theorem bs_excL {C : String} {fs : List (String × D)} {k : FM} : bndL (some (.exc C fs, p)) k = some (.exc C fs, p) := rfl
@[simp] theorem okD_s : okD (some d) p = some (.val d, p) := rfl
@[simp] theorem int_i {i : Int} : intD [.int i] = some (.int i) := rfl
@[simp] theorem int_b {b : Bool} : intD [.bl b] = some (.int (if b then 1 else 0)) := rfl
@[simp] theorem len_l : lenD [.lst ds] = some (.int ds.length) := rfl
@[simp] theorem len_t : lenD [.tup ds] = some (.int ds.length) := rfl
@[simp] theorem abs_i {i : Int} : absD [.int i] = some (.int (if i < 0 then -i else i)) := rfl
@[simp] theorem tup_l : tupleD [.lst ds] = some (.tup ds) := rfl
@[simp] theorem tup_t : tupleD [.tup ds] = some (.tup ds) := rfl
@[simp] theorem lst_l : listD [.lst ds] = some (.lst ds) := rfl
@[simp] theorem lst_t : listD [.tup ds] = some (.lst ds) := rfl
@[simp] theorem ix_p {i : Int} : ixD p .pen (.int i) = atI p i := rfl
@[simp] theorem ix_l {i : Int} : ixD p (.lst ds) (.int i) = atI ds i := rfl
@[simp] theorem ix_t {i : Int} : ixD p (.tup ds) (.int i) = atI ds i := rfl
variable {i j : Int}
@[simp] theorem addG_i : addG (.int i) (.int j) = some (.int (i + j)) := rfl
@[simp] theorem addI_i : addI (.int i) (.int j) = some (.int (i + j)) := rfl
@[simp] theorem subI_i : subI (.int i) (.int j) = some (.int (i - j)) := rfl
@[simp] theorem negI_i : negI (.int i) = some (.int (-i)) := rfl
@[simp] theorem ltI_i : ltI (.int i) (.int j) = some (.bl (decide (i < j))) := rfl
@[simp] theorem leI_i : leI (.int i) (.int j) = some (.bl (decide (i ≤ j))) := rfl
@[simp] theorem gtI_i : gtI (.int i) (.int j) = some (.bl (decide (j < i))) := rfl
@[simp] theorem geI_i : geI (.int i) (.int j) = some (.bl (decide (j ≤ i))) := rfl
@[simp] theorem eqD_i : eqD (.int i) (.int j) = some (.bl (i == j)) := by
  simp [eqD, toPy, PyData.depth, PyData.eqv]
@[simp] theorem neD_i : neD (.int i) (.int j) = some (.bl (!(i == j))) := by
  simp [neD, toPy, PyData.depth, PyData.eqv]
end
theorem seq_nx {s t : SM} {env env' : En} {p p' : Pn} (h : s env p = some (.nx env', p')) : sSeq s t env p = t env' p' := by
  rw [ap_seq, h]
theorem seq_rt {s t : SM} {env : En} {p p' : Pn} {d : D} (h : s env p = some (.ret d, p')) : sSeq s t env p = some (.ret d, p') := by
  rw [ap_seq, h]
theorem mul_ok {i j : Int} (h : i.natAbs < 2 ^ 64) : mulI (.int i) (.int j) = some (.int (i * j)) := by
  simp only [mulI, iOp]; rw [if_pos (.inl (.inl h))]
theorem mod_ok {i j : Int} (h : 0 < j) : modI (.int i) (.int j) = some (.int (i % j)) := by
  simp only [modI, iOp]; rw [if_pos h]
theorem div_ok {i j : Int} (h : 0 < j) (h2 : j < 2 ^ 64) : divI (.int i) (.int j) = some (.int (i / j)) := by
  simp only [divI, iOp]
  have : j.natAbs.log2 < 64 := (Nat.log2_lt (by omega)).mpr (by omega)
  rw [if_pos ⟨h, by omega⟩]
theorem pow_ok {i : Int} {n : Nat} (h : i.natAbs < 2 ^ 64) (hn : n ≤ 1000000) : powI (.int i) (.int n) = some (.int (i ^ n)) := by
  simp only [powI, iOp]; rw [if_pos ⟨by omega, by omega, h⟩]; rfl
theorem depth_ints : ∀ ns : List Int, PyData.depthAll (ns.map PyData.int) = 0
  | [] => by unfold PyData.depthAll; rfl
  | n :: ns => by
    simp only [List.map_cons]
    unfold PyData.depthAll
    rw [depth_ints ns]
    simp [PyData.depth]
theorem ne_ints (ns : List Int) : neD (.lst (ns.map .int)) (.lst []) = some (.bl (decide (0 < ns.length))) := by
  unfold neD
  simp only [toPy, toPys_ints, toPys, Option.map_some, PyData.depth, depth_ints]
  cases ns <;> simp [PyData.eqv, PyData.eqvAll]
theorem at_ints {ns : List Int} {t : Int} (h0 : 0 ≤ t) (h1 : t < ns.length) : ∃ c : Int, c ∈ ns ∧ atI (ns.map D.int) t = some (.int c) := by
  unfold atI ixN
  rw [if_pos h0, List.length_map, if_pos h1]
  exact ⟨ns[t.toNat]'(by omega), List.getElem_mem _, by simp⟩
theorem draw_ok {k1 k2 k3 k4 k5 k6 k7 k8 k9 k10 : Int} (hk : ∀ k ∈ [k1, k2, k3, k4, k5, k6, k7, k8, k9, k10], 0 < k ∧ k < 2 ^ 31) {n : Nat} {p : Pn} {many : Int} (hp : PenOk (n + 1) p) (hm : 1 ≤ many) (hM : many < 2 ^ 64) :
    ∃ r p', fnM 7 2 (drawM k1 k2 k3 k4 k5 k6 k7 k8 k9 k10) [.pen, .int many] p = some (.val (.int r), p') ∧ 0 ≤ r ∧ r < many ∧ PenOk n p' := by
  obtain ⟨ns, t, g, rfl, h0, h1, h2⟩ := hp
  have B : ∀ k ∈ [k1, k2, k3, k4, k5, k6, k7, k8, k9, k10], k.natAbs < 2 ^ 64 := fun k z => by have := hk k z; omega
  have m0 : 0 < many := by omega
  unfold fnM drawM
  by_cases hg : 0 < g
  · refine ⟨g % many, _, ?_, Int.emod_nonneg _ (by omega), Int.emod_lt_of_pos _ (by omega), ns, t, g / many, rfl, h0, by omega, Int.ediv_nonneg h2 (by omega)⟩
    simp [atI, ixN, hg, mod_ok m0, div_ok m0 hM]
  · have hc : ∃ c : Int, ∀ k : SM, (sSeq (sSet 4 (m2 addG (m2 mulI (mC (.int k1)) (mVar 3)) (mC (.int k2)))) (sSeq (sIf (m2 neD (mIx (mVar 0) (mC (.int 0))) (mB lstD aNil)) (sSet 4 (mIx (mIx (mVar 0) (mC (.int 0))) (m2 modI (mB intD (aCons (mVar 3) aNil)) (mB lenD (aCons (mIx (mVar 0) (mC (.int 0))) aNil))))) sNil) k)) [.im .pen, .im (.int many), .emp, .im (.int t), .emp, .emp, .emp] [.lst (ns.map .int), .int (t + 1), .int g] = k [.im .pen, .im (.int many), .emp, .im (.int t), .im (.int c), .emp, .emp] [.lst (ns.map .int), .int (t + 1), .int g] := by
      have z : ∀ (x y : D), atI [x, y, .int g] 0 = some x := fun x y => rfl
      by_cases hn : 0 < ns.length
      · obtain ⟨c, _, hc⟩ := at_ints (ns := ns) (t := t % ns.length) (Int.emod_nonneg _ (by omega)) (Int.emod_lt_of_pos _ (by omega))
        refine ⟨c, fun k => ?_⟩
        simp [z, ne_ints, lstD, mul_ok (B k1 (by simp)), mod_ok (show (0 : Int) < ns.length by omega), hn, hc]
      · refine ⟨k1 * t + k2, fun k => ?_⟩
        simp [z, ne_ints, lstD, mul_ok (B k1 (by simp)), hn]
    obtain ⟨c, hc⟩ := hc
    have q0 : atI [D.lst (ns.map .int), .int t, .int g] 2 = some (.int g) := rfl
    have q1 : atI [D.lst (ns.map .int), .int t, .int g] 1 = some (.int t) := rfl
    have q2 : atI [D.lst (ns.map .int), .int (t + 1), .int g] 0 = some (.lst (ns.map .int)) := rfl
    have p10 : powI (.int 10) (.int 18) = some (.int (10 ^ 18)) := pow_ok (n := 18) (by omega) (by omega)
    have i1 : ixN 3 1 = some 1 := rfl
    have i2 : ixN 3 2 = some 2 := rfl
    have n0 : (ns.map D.int).length = ns.length := List.length_map ..
    rw [show [D.pen, D.int many].map Sl.im ++ List.replicate (7 - 2) .emp = [.im .pen, .im (.int many), .emp, .emp, .emp, .emp, .emp] from rfl]
    rw [if_pos (show [D.pen, D.int many].length = 2 from rfl)]
    rw [seq_nx (env' := [.im .pen, .im (.int many), .emp, .emp, .emp, .emp, .emp]) (p' := [.lst (ns.map .int), .int t, .int g]) (by simp [q0, hg])]
    rw [seq_nx (env' := [.im .pen, .im (.int many), .emp, .im (.int t), .emp, .emp, .emp]) (p' := [.lst (ns.map .int), .int t, .int g]) (by simp [q1])]
    rw [seq_nx (env' := [.im .pen, .im (.int many), .emp, .im (.int t), .emp, .emp, .emp]) (p' := [.lst (ns.map .int), .int (t + 1), .int g]) (by simp [i1])]
    rw [hc]
    by_cases hA : t < ns.length ∧ 10 ^ 18 ≤ (if c < 0 then -c else c)
    · obtain ⟨hA, hB⟩ := hA
      have hG : 0 ≤ 2 * ((if c < 0 then -c else c) - 10 ^ 18) + (if decide (c < 0) = true then 1 else 0) := by
        have : (0 : Int) ≤ (if decide (c < 0) = true then 1 else 0) := by split <;> omega
        omega
      have mm := mul_ok (i := 2) (j := (if c < 0 then -c else c) - 10 ^ 18) (by omega)
      generalize hgr : 2 * ((if c < 0 then -c else c) - 10 ^ 18) + (if decide (c < 0) = true then (1 : Int) else 0) = gr at hG
      refine ⟨gr % many, _, ?_, Int.emod_nonneg _ (by omega), Int.emod_lt_of_pos _ (by omega), ns, t + 1, gr / many, rfl, by omega, by omega, Int.ediv_nonneg hG (by omega)⟩
      have e1 : (sSeq (sSet 5 (m2 addG (m2 mulI (mC (.int 2)) (m2 subI (mB absD (aCons (mVar 4) aNil)) (m2 powI (mC (.int 10)) (mC (.int 18))))) (mB intD (aCons (m2 ltI (mVar 4) (mC (.int 0))) aNil)))) (sSeq (sPen 0 2 (m2 divI (mB intD (aCons (mVar 5) aNil)) (mVar 1))) (sRet (m2 modI (mB intD (aCons (mVar 5) aNil)) (mVar 1))))) [.im .pen, .im (.int many), .emp, .im (.int t), .im (.int c), .emp, .emp] [.lst (ns.map .int), .int (t + 1), .int g] = some (.ret (.int (gr % many)), [.lst (ns.map .int), .int (t + 1), .int (gr / many)]) := by
        rw [seq_nx (env' := [.im .pen, .im (.int many), .emp, .im (.int t), .im (.int c), .im (.int gr), .emp]) (p' := [.lst (ns.map .int), .int (t + 1), .int g]) (by
          simp only [ap_set, ap_2, ap_b, ap_ac, ap_an, ap_var, ap_c, bnd_val, bndL_vals, okD_s, abs_i, int_b, ltI_i, subI_i, addG_i, p10, mm, List.getElem?_cons_succ, List.getElem?_cons_zero, hgr]
          rfl)]
        simp [i2, mod_ok m0, div_ok m0 hM]
      rw [seq_rt (d := .int (gr % many)) (p' := [.lst (ns.map .int), .int (t + 1), .int (gr / many)]) (by
        have hB' : decide (10 ^ 18 ≤ (if c < 0 then -c else c)) = true := decide_eq_true hB
        simp only [ap_if, ap_and, ap_2, ap_b, ap_ac, ap_an, ap_var, ap_c, ap_ix, ix_p, bnd_val, bndL_vals, okD_s, abs_i, int_b, ltI_i, geI_i, len_l, p10, n0, q2, List.getElem?_cons_succ, List.getElem?_cons_zero, hA, hB', decide_true, if_true, e1])]
    · have x1 : 0 ≤ c % k3 := Int.emod_nonneg _ (by have := hk k3 (by simp); omega)
      have x2 : c % k3 < k3 := Int.emod_lt_of_pos _ (by have := hk k3 (by simp); omega)
      have x3 := hk k3 (by simp)
      have x4 := hk k4 (by simp)
      have x5 := hk k5 (by simp)
      have x6 := hk k6 (by simp)
      have x7 := hk k7 (by simp)
      have x8 := hk k8 (by simp)
      have x9 := hk k9 (by simp)
      have x10 := hk k10 (by simp)
      have b1 : k4 * t ≤ 2 ^ 31 * 10000 := Int.mul_le_mul (by omega) (by omega) h0 (by omega)
      have b2 : 0 ≤ k4 * t := Int.mul_nonneg (by omega) h0
      have r1 : powI (.int (c % k3 + k4 * t + k5)) (.int 5) = some (.int ((c % k3 + k4 * t + k5) ^ 5)) := pow_ok (n := 5) (by omega) (by omega)
      generalize hw : (c % k3 + k4 * t + k5) ^ 5 % k6 = u
      have u1 : 0 ≤ u := hw ▸ Int.emod_nonneg _ (by omega)
      have u2 : u < k6 := hw ▸ Int.emod_lt_of_pos _ (by omega)
      have b3 : u * (2 * t + k7) ≤ 2 ^ 31 * (20000 + 2 ^ 31) := Int.mul_le_mul (by omega) (by omega) (by omega) (by omega)
      have b4 : 0 ≤ u * (2 * t + k7) := Int.mul_nonneg (by omega) (by omega)
      have b5 : k8 * t ≤ 2 ^ 31 * 10000 := Int.mul_le_mul (by omega) (by omega) h0 (by omega)
      have b6 : 0 ≤ k8 * t := Int.mul_nonneg (by omega) h0
      have b7 : k8 * t * t ≤ 2 ^ 31 * 10000 * 10000 := Int.mul_le_mul b5 (by omega) h0 (by omega)
      have b8 : 0 ≤ k8 * t * t := Int.mul_nonneg b6 h0
      have r2 : powI (.int (u * (2 * t + k7) + k8 * t * t + k9)) (.int 3) = some (.int ((u * (2 * t + k7) + k8 * t * t + k9) ^ 3)) := pow_ok (n := 3) (by omega) (by omega)
      generalize hy : (u * (2 * t + k7) + k8 * t * t + k9) ^ 3 % k10 = y
      refine ⟨y / 32 % many, _, ?_, Int.emod_nonneg _ (by omega), Int.emod_lt_of_pos _ (by omega), ns, t + 1, g, rfl, by omega, by omega, h2⟩
      have g0 : ∀ v w : Sl, [Sl.im .pen, .im (.int many), .emp, .im (.int t), .im (.int c), v, w][1]? = some (Sl.im (.int many)) := fun _ _ => rfl
      rw [seq_nx (env' := [.im .pen, .im (.int many), .emp, .im (.int t), .im (.int c), .emp, .emp]) (p' := [.lst (ns.map .int), .int (t + 1), .int g]) (by
        by_cases z1 : t < ns.length
        · have hB' : decide (10 ^ 18 ≤ (if c < 0 then -c else c)) = false := decide_eq_false fun z => hA ⟨z1, z⟩
          simp only [ap_if, ap_and, ap_2, ap_b, ap_ac, ap_an, ap_var, ap_c, ap_ix, ix_p, bnd_val, bndL_vals, okD_s, abs_i, int_b, ltI_i, geI_i, len_l, p10, n0, q2, List.getElem?_cons_succ, List.getElem?_cons_zero, z1, hB', decide_true, if_true]
          rfl
        · simp only [ap_if, ap_and, ap_2, ap_b, ap_ac, ap_an, ap_var, ap_c, ap_ix, ix_p, bnd_val, bndL_vals, okD_s, abs_i, int_b, ltI_i, geI_i, len_l, n0, q2, List.getElem?_cons_succ, List.getElem?_cons_zero, z1, decide_false]
          rfl)]
      rw [seq_nx (env' := [.im .pen, .im (.int many), .emp, .im (.int t), .im (.int c), .emp, .im (.int u)]) (p' := [.lst (ns.map .int), .int (t + 1), .int g]) (by
        simp only [ap_set, ap_2, ap_b, ap_ac, ap_an, ap_var, ap_c, bnd_val, bndL_vals, okD_s, int_i, addG_i, mod_ok x3.1, mul_ok (B k4 (by simp)), r1, mod_ok x6.1, List.getElem?_cons_succ, List.getElem?_cons_zero, hw]
        rfl)]
      rw [seq_nx (env' := [.im .pen, .im (.int many), .emp, .im (.int t), .im (.int c), .emp, .im (.int y)]) (p' := [.lst (ns.map .int), .int (t + 1), .int g]) (by
        simp only [ap_set, ap_2, ap_b, ap_ac, ap_an, ap_var, ap_c, bnd_val, bndL_vals, okD_s, int_i, addG_i, mul_ok (show u.natAbs < 2 ^ 64 by omega), mul_ok (show (2 : Int).natAbs < 2 ^ 64 by omega), mul_ok (B k8 (by simp)), mul_ok (show (k8 * t).natAbs < 2 ^ 64 by omega), r2, mod_ok x10.1, List.getElem?_cons_succ, List.getElem?_cons_zero, hy]
        rfl)]
      simp only [ap_ret, ap_2, ap_b, ap_ac, ap_an, ap_var, ap_c, bnd_val, bndL_vals, okD_s, int_i, mod_ok m0, div_ok (show (0 : Int) < 32 by omega) (by omega), List.getElem?_cons_succ, List.getElem?_cons_zero]
theorem fn_ret {n np : Nat} {m : SM} {ds : List D} {p p' : Pn} {d : D} (hl : ds.length = np) (h : m (ds.map Sl.im ++ List.replicate (n - np) .emp) p = some (.ret d, p')) : fnM n np m ds p = some (.val d, p') := by
  unfold fnM
  rw [if_pos hl, h]
theorem fn_exc {n np : Nat} {m : SM} {ds : List D} {p p' : Pn} {C : String} {fs : List (String × D)} {env : En} (hl : ds.length = np) (h : m (ds.map Sl.im ++ List.replicate (n - np) .emp) p = some (.exc C fs env, p')) : fnM n np m ds p = some (.exc C fs, p') := by
  unfold fnM
  rw [if_pos hl, h]
theorem mod_nat {a b : Nat} (h : 0 < b) : modI (.int a) (.int b) = some (.int ((a % b : Nat) : Int)) := by
  rw [mod_ok (by omega)]; simp
theorem div_nat {a b : Nat} (h : 0 < b) (h2 : b < 2 ^ 64) : divI (.int a) (.int b) = some (.int ((a / b : Nat) : Int)) := by
  rw [div_ok (by omega) (by omega)]; simp
theorem lc_none {g : D → En → Option En} {tt te : EM} {env : En} {p : Pn} : ∀ {xs : List D}, (∀ x ∈ xs, ∃ env1, g x env = some env1 ∧ tt env1 p = some (.val (.bl false), p)) → lcL g tt te xs env p = some ([], p)
  | [], _ => rfl
  | x :: xs, h => by
    obtain ⟨env1, e1, e2⟩ := h x (by simp)
    unfold lcL
    rw [e1]
    dsimp only
    rw [e2]
    exact lc_none fun y hy => h y (by simp [hy])
theorem lc_val {mi : AM} {is : List Nat} {g : D → En → Option En} {tt te : EM} {env : En} {p p1 p2 : Pn} {xs ys : List D} (he : is.all (empB env) = true) (hi : mi env p = some (.vals xs, p1)) (h : lcL g tt te xs env p1 = some (ys, p2)) (hl : ys.length ≤ 1000000) : mLc mi is g tt te env p = some (.val (.lst ys), p2) := by
  unfold mLc
  rw [if_pos he, hi]
  dsimp only
  rw [h]
  dsimp only
  rw [if_pos hl]
/-! ### loops -/
theorem for_inv {g : D → En → Option En} {b : SM} (I : Nat → En → Pn → Prop) : ∀ (xs : List D) (i : Nat) (env : En) (p : Pn), I i env p → (∀ k x env p, xs[k]? = some x → I (i + k) env p → ∃ env1 env' p', g x env = some env1 ∧ b env1 p = some (.nx env', p') ∧ I (i + k + 1) env' p') → ∃ env' p', forL g b xs env p = some (.nx env', p') ∧ I (i + xs.length) env' p'
  | [], i, env, p, h, _ => ⟨env, p, rfl, h⟩
  | x :: xs, i, env, p, h, st => by
    obtain ⟨env1, env2, p2, e1, e2, h2⟩ := st 0 x env p rfl h
    obtain ⟨env3, p3, e3, h3⟩ := for_inv I xs (i + 1) env2 p2 h2 fun k y env p hk hi => by
      have := st (k + 1) y env p hk (by rw [show i + (k + 1) = i + 1 + k by omega]; exact hi)
      rw [show i + (k + 1) = i + 1 + k by omega] at this
      exact this
    refine ⟨env3, p3, ?_, ?_⟩
    · unfold forL
      rw [e1]
      dsimp only
      rw [e2]
      exact e3
    · rw [show i + (x :: xs).length = i + 1 + xs.length by simp; omega]
      exact h3
theorem while_inv {c : EM} {b : SM} (I : En → Pn → Prop) (M : En → Pn → Nat) (Z : Fl → Pn → Prop)
    (st : ∀ env p, I env p → (∃ p1, c env p = some (.val (.bl false), p1) ∧ Z (.nx env) p1) ∨ ∃ p1, c env p = some (.val (.bl true), p1) ∧ ((∃ env' p', b env p1 = some (.nx env', p') ∧ I env' p' ∧ M env' p' < M env p) ∨ ∃ d p', b env p1 = some (.ret d, p') ∧ Z (.ret d) p')) :
    ∀ (n : Nat) (env : En) (p : Pn), I env p → M env p < n → ∃ fl p', whileN c b n env p = some (fl, p') ∧ Z fl p'
  | 0, _, _, _, h => absurd h (by omega)
  | n + 1, env, p, h, hn => by
    rcases st env p h with ⟨p1, e1, z⟩ | ⟨p1, e1, ⟨env', p', e2, h2, hm⟩ | ⟨d, p', e2, z⟩⟩
    · exact ⟨_, _, by unfold whileN eS; rw [e1]; rfl, z⟩
    · obtain ⟨fl, p2, e3, z⟩ := while_inv I M Z st n env' p' h2 (by omega)
      refine ⟨fl, p2, ?_, z⟩
      simp only [whileN, eS, e1, e2, if_true]
      exact e3
    · refine ⟨_, _, ?_, z⟩
      simp only [whileN, eS, e1, e2, if_true]
theorem sWhile_step {c : EM} {b : SM} {env env' : En} {p p1 p' : Pn} {r : Fl × Pn} (hc : c env p = some (.val (.bl true), p1)) (hb : b env p1 = some (.nx env', p')) (h : sWhile c b env' p' = some r) : sWhile c b env p = some r := by
  obtain ⟨n, h⟩ := sWhile_some.mp h
  refine sWhile_some.mpr ⟨n + 1, ?_⟩
  simp only [whileN, eS, hc, hb, if_true]
  exact h
theorem sWhile_end {c : EM} {b : SM} {env : En} {p p1 : Pn} (hc : c env p = some (.val (.bl false), p1)) : sWhile c b env p = some (.nx env, p1) := by
  refine sWhile_some.mpr ⟨1, ?_⟩
  simp only [whileN, eS, hc]
  rfl
theorem sWhile_inv {c : EM} {b : SM} (I : En → Pn → Prop) (M : En → Pn → Nat) (Z : Fl → Pn → Prop)
    (st : ∀ env p, I env p → (∃ p1, c env p = some (.val (.bl false), p1) ∧ Z (.nx env) p1) ∨ ∃ p1, c env p = some (.val (.bl true), p1) ∧ ((∃ env' p', b env p1 = some (.nx env', p') ∧ I env' p' ∧ M env' p' < M env p) ∨ ∃ d p', b env p1 = some (.ret d, p') ∧ Z (.ret d) p'))
    {env : En} {p : Pn} (h : I env p) : ∃ fl p', sWhile c b env p = some (fl, p') ∧ Z fl p' := by
  obtain ⟨fl, p', e, z⟩ := while_inv I M Z st (M env p + 1) env p h (by omega)
  exact ⟨fl, p', sWhile_some.mpr ⟨_, e⟩, z⟩
end MS
set_option Elab.async false
set_option linter.all false
set_option maxRecDepth 100000
set_option maxHeartbeats 4000000
namespace K15
open PySem PySem.Spec PyProof.Rows L2 MS
abbrev Pg : Program := PySem.Challenge.pw_mendsizes_k15_primes_of_numbers
def top (i : Nat) : Stmt := Pg.main.body.getD i (.Pass ⟨0, 0, 0, 0⟩)
abbrev s_is_integer : Stmt := top 1
abbrev s_is_between : Stmt := top 2
abbrev s_primes_of : Stmt := top 10
abbrev s__law_draw : Stmt := top 13
abbrev s__law_pick : Stmt := top 14
abbrev s__law_is_prime : Stmt := top 15
abbrev s__law_right : Stmt := top 16
abbrev s__law_refused : Stmt := top 17
abbrev s__law_pen : Stmt := top 12
abbrev s_law : Stmt := top 18
def subs : List (String × String) := [("BadPattern", "BadPattern"), ("BadSize", "BadSize")]
def CTb : CT := ⟨[], ["MendError", "BadInput", "BadPattern", "BadSize"], ["BadPattern", "BadSize"], fun c C => decide ((c, C) ∈ subs)⟩
def caughtBy (c : String) : List String := match c with
  | "BadInput" => ["BadInput", "BadPattern", "BadSize"]
  | _ => []
def notBy (c : String) : List String := match c with
  | "BadInput" => ["MendError"]
  | _ => []
def N_is_integer : List Str := ["value"]
noncomputable def m_is_integer : SM := (sRet (mAnd (mB (isaD CTb) (aCons (mVar 0) (aCons (mC (.ty "int")) aNil))) (mNot (mB (isaD CTb) (aCons (mVar 0) (aCons (mC (.ty "bool")) aNil))))))
noncomputable def sem_is_integer : FM := fnM 1 1 m_is_integer
def N_is_between : List Str := ["value", "low", "high"]
noncomputable def m_is_between : SM := (sRet (mAnd (mArgs sem_is_integer (aCons (mVar 0) aNil)) (mChain leI leI (mVar 1) (mVar 0) (mVar 2))))
noncomputable def sem_is_between : FM := fnM 3 3 m_is_between
def N_primes_of : List Str := ["number", "found", "left", "prime"]
noncomputable def m_primes_of : SM := (sSeq (sIf (mNot (mArgs sem_is_between (aCons (mVar 0) (aCons (mC (.int 1)) (aCons (mC (.int 1000000000)) aNil))))) (sRaise "BadSize" ["value"] (aCons (mVar 0) aNil)) sNil) (sSeq (sParO3 1 2 3 (mVar 0) (mC (.int 2))) (sSeq (sWhile (m2 leI (m2 mulI (mVar 3) (mVar 3)) (mVar 2)) (sSeq (sIf (m2 eqD (m2 modI (mVar 2) (mVar 3)) (mC (.int 0))) (sSeq (sAppend 1 (mVar 3)) (sWhile (m2 eqD (m2 modI (mVar 2) (mVar 3)) (mC (.int 0))) (sSet 2 (m2 divI (mVar 2) (mVar 3))))) sNil) (sAug 3 addI (mIf (m2 eqD (mVar 3) (mC (.int 2))) (mC (.int 1)) (mC (.int 2)))))) (sFrz 1 (sRet (mB tupleD (aCons (mIf (m2 eqD (mVar 2) (mC (.int 1))) (mVar 1) (mB lstD (aStar (mVar 1) (aCons (mVar 2) aNil)))) aNil)))))))
noncomputable def sem_primes_of : FM := fnM 4 1 m_primes_of
def N__law_draw : List Str := ["_law_pen_here", "_law_many", "_law_digit", "_law_spot", "_law_cell", "_law_great", "_law_mixed"]
noncomputable def m__law_draw : SM := (sSeq (sIf (m2 gtI (mIx (mVar 0) (mC (.int 2))) (mC (.int 0))) (sSeq (sSet 2 (m2 modI (mB intD (aCons (mIx (mVar 0) (mC (.int 2))) aNil)) (mVar 1))) (sSeq (sPen 0 2 (m2 divI (mB intD (aCons (mIx (mVar 0) (mC (.int 2))) aNil)) (mVar 1))) (sRet (mVar 2)))) sNil) (sSeq (sSet 3 (mIx (mVar 0) (mC (.int 1)))) (sSeq (sPen 0 1 (m2 addG (mVar 3) (mC (.int 1)))) (sSeq (sSet 4 (m2 addG (m2 mulI (mC (.int 65267)) (mVar 3)) (mC (.int 313)))) (sSeq (sIf (m2 neD (mIx (mVar 0) (mC (.int 0))) (mB lstD aNil)) (sSet 4 (mIx (mIx (mVar 0) (mC (.int 0))) (m2 modI (mB intD (aCons (mVar 3) aNil)) (mB lenD (aCons (mIx (mVar 0) (mC (.int 0))) aNil))))) sNil) (sSeq (sIf (mAnd (m2 ltI (mVar 3) (mB lenD (aCons (mIx (mVar 0) (mC (.int 0))) aNil))) (m2 geI (mB absD (aCons (mVar 4) aNil)) (m2 powI (mC (.int 10)) (mC (.int 18))))) (sSeq (sSet 5 (m2 addG (m2 mulI (mC (.int 2)) (m2 subI (mB absD (aCons (mVar 4) aNil)) (m2 powI (mC (.int 10)) (mC (.int 18))))) (mB intD (aCons (m2 ltI (mVar 4) (mC (.int 0))) aNil)))) (sSeq (sPen 0 2 (m2 divI (mB intD (aCons (mVar 5) aNil)) (mVar 1))) (sRet (m2 modI (mB intD (aCons (mVar 5) aNil)) (mVar 1))))) sNil) (sSeq (sSet 6 (m2 modI (mB intD (aCons (m2 powI (m2 addG (m2 addG (m2 modI (mB intD (aCons (mVar 4) aNil)) (mC (.int 2147483579))) (m2 mulI (mC (.int 55243)) (mVar 3))) (mC (.int 487))) (mC (.int 5))) aNil)) (mC (.int 2147483629)))) (sSeq (sSet 6 (m2 modI (mB intD (aCons (m2 powI (m2 addG (m2 addG (m2 mulI (mVar 6) (m2 addG (m2 mulI (mC (.int 2)) (mVar 3)) (mC (.int 215)))) (m2 mulI (m2 mulI (mC (.int 51347)) (mVar 3)) (mVar 3))) (mC (.int 29))) (mC (.int 3))) aNil)) (mC (.int 2147483587)))) (sRet (m2 modI (mB intD (aCons (m2 divI (mVar 6) (mC (.int 32))) aNil)) (mVar 1)))))))))))
noncomputable def sem__law_draw : FM := fnM 7 2 m__law_draw
def N__law_pick : List Str := ["_law_pen_here", "_law_some"]
noncomputable def m__law_pick : SM := (sRet (mIx (mVar 1) (mArgs sem__law_draw (aCons (mVar 0) (aCons (mB lenD (aCons (mVar 1) aNil)) aNil)))))
noncomputable def sem__law_pick : FM := fnM 2 2 m__law_pick
def N__law_is_prime : List Str := ["_law_number", "_law_by"]
noncomputable def m__law_is_prime : SM := (sSeq (sSet 1 (mC (.int 2))) (sSeq (sWhile (m2 leI (m2 mulI (mVar 1) (mVar 1)) (mVar 0)) (sSeq (sIf (m2 eqD (m2 modI (mB intD (aCons (mVar 0) aNil)) (mVar 1)) (mC (.int 0))) (sRet (mC (.bl false))) sNil) (sSet 1 (m2 addG (mVar 1) (mC (.int 1)))))) (sRet (m2 gtI (mVar 0) (mC (.int 1))))))
noncomputable def sem__law_is_prime : FM := fnM 2 1 m__law_is_prime
def N__law_right : List Str := ["_law_number", "_law_told", "_law_left", "_law_ahead", "_law_prime", "_law_turn", "_law_one"]
noncomputable def m__law_right : SM := (sSeq (sSet 1 (mArgs sem_primes_of (aCons (mVar 0) aNil))) (sSeq (sIf (mOr (mNot (mB (isaD CTb) (aCons (mVar 1) (aCons (mC (.ty "tuple")) aNil)))) (m2 neD (mLc (wSeq (mVar 1)) [6] (bName 6) (mOr (mNot (mB (isaD CTb) (aCons (mVar 6) (aCons (mC (.ty "int")) aNil)))) (mB (isaD CTb) (aCons (mVar 6) (aCons (mC (.ty "bool")) aNil)))) (mVar 6)) (mB lstD aNil))) (sRet (mC (.bl false))) sNil) (sSeq (sPar2 2 3 (aCons (mVar 0) (aCons (mC (.int 1)) aNil))) (sSeq (sFor (wSeq (mVar 1)) (bName 4) (sSeq (sIf (mOr (m2 leI (mVar 4) (mVar 3)) (mOr (mNot (mArgs sem__law_is_prime (aCons (mVar 4) aNil))) (m2 neD (m2 modI (mB intD (aCons (mVar 2) aNil)) (mVar 4)) (mC (.int 0))))) (sRet (mC (.bl false))) sNil) (sSeq (sFor (wR1 (aCons (mC (.int 30)) aNil)) (bName 5) (sSet 2 (mIf (m2 eqD (m2 modI (mB intD (aCons (mVar 2) aNil)) (mVar 4)) (mC (.int 0))) (m2 divI (mVar 2) (mVar 4)) (mVar 2)))) (sSet 3 (mVar 4))))) (sRet (m2 eqD (mVar 2) (mC (.int 1))))))))
noncomputable def sem__law_right : FM := fnM 7 1 m__law_right
def N__law_refused : List Str := ["_law_value", "_law_caught", "error"]
noncomputable def m__law_refused : SM := (sSeq (sSet 1 (mC .non)) (sSeq (sTry (caughtBy "BadInput") (notBy "BadInput") 2 1 (sSet 1 (mArgs (fun ds => sem_primes_of (id ds)) (aCons (mVar 0) aNil)))) (sRet (mAnd (mB (isaD CTb) (aCons (mVar 1) (aCons (mC (.glo "BadSize")) aNil))) (mAnd (mNot (mB (isaD CTb) (aCons (mVar 1) (aCons (mC (.glo "BadPattern")) aNil)))) (m2 eqD (mB reprD (aCons (m1 (xfM CTb "value") (mVar 1)) aNil)) (mB reprD (aCons (mVar 0) aNil))))))))
noncomputable def sem__law_refused : FM := fnM 3 1 m__law_refused
def N_law : List Str := ["_law_script", "_law_pen_here", "_law_some", "_law_turn", "_law_number", "_law_k", "_law_odd", "_law_wide", "_law_value"]
noncomputable def m_law : SM := (sSeq (sSet 2 (mB lstD (aCons (mC (.int 2)) (aCons (mC (.int 2)) (aCons (mC (.int 2)) (aCons (mC (.int 3)) (aCons (mC (.int 3)) (aCons (mC (.int 5)) (aCons (mC (.int 7)) (aCons (mC (.int 11)) (aCons (mC (.int 13)) (aCons (mC (.int 31)) (aCons (mC (.int 47)) (aCons (mC (.int 73)) (aCons (mC (.int 89)) (aCons (mC (.int 97)) aNil)))))))))))))))) (sSeq (sFor (wR1 (aCons (mC (.int 8)) aNil)) (bName 3) (sSeq (sSet 4 (mC (.int 1))) (sSeq (sFor (wR1 (aCons (mArgs sem__law_draw (aCons (mVar 1) (aCons (mC (.int 5)) aNil))) aNil)) (bName 5) (sSet 4 (m2 mulI (mVar 4) (mArgs sem__law_pick (aCons (mVar 1) (aCons (mVar 2) aNil)))))) (sSeq (sSet 4 (m2 mulI (mVar 4) (mArgs sem__law_pick (aCons (mVar 1) (aCons (mB lstD (aCons (mC (.int 1)) (aCons (mC (.int 1)) (aCons (mC (.int 127)) (aCons (mC (.int 601)) (aCons (mC (.int 683)) (aCons (mC (.int 997)) aNil))))))) aNil))))) (sIf (mOr (mAnd (m2 leI (mVar 4) (m2 powI (mC (.int 10)) (mC (.int 9)))) (mNot (mArgs sem__law_right (aCons (mVar 4) aNil)))) (mNot (mArgs sem__law_right (aCons (m2 addG (mC (.int 1)) (mArgs sem__law_draw (aCons (mVar 1) (aCons (m2 powI (mC (.int 10)) (mC (.int 6))) aNil)))) aNil)))) (sRet (mC (.bl false))) sNil))))) (sSeq (sSet 6 (mB lstD (aCons (mC (.int 0)) (aCons (m1 negI (mC (.int 7))) (aCons (mC (.bl true)) (aCons (mC .non) (aCons (m2 addG (m2 powI (mC (.int 10)) (mC (.int 9))) (mC (.int 1))) (aCons (mC (.str "12")) (aCons (mB tupD (aCons (mC (.int 12)) aNil)) (aCons (mB lstD (aCons (mC (.int 12)) aNil)) aNil)))))))))) (sSeq (sIf (m2 neD (mLc (wSeq (mVar 6)) [8] (bName 8) (mNot (mArgs sem__law_refused (aCons (mVar 8) aNil))) (mVar 8)) (mB lstD aNil)) (sRet (mC (.bl false))) sNil) (sSeq (sSet 7 (mB lstD (aCons (m2 mulI (mC (.int 1009)) (mC (.int 1013))) (aCons (m2 mulI (mC (.int 8191)) (mC (.int 8191))) (aCons (m2 mulI (mC (.int 8191)) (mC (.int 65537))) (aCons (m2 mulI (mC (.int 10007)) (mC (.int 10009))) (aCons (m2 mulI (m2 mulI (mC (.int 2)) (mC (.int 8191))) (mC (.int 8191))) (aCons (m2 mulI (mC (.int 997)) (mC (.int 999983))) (aCons (m2 mulI (m2 mulI (mC (.int 1013)) (mC (.int 1013))) (mC (.int 2))) aNil))))))))) (sSeq (sIf (mOr (mNot (mArgs sem__law_right (aCons (mArgs sem__law_pick (aCons (mVar 1) (aCons (mVar 7) aNil))) aNil))) (mNot (mArgs sem__law_right (aCons (m2 mulI (mC (.int 1009)) (mC (.int 1013))) aNil)))) (sRet (mC (.bl false))) sNil) (sRet (mAnd (mArgs sem__law_right (aCons (m2 powI (mC (.int 10)) (mC (.int 9))) aNil)) (mAnd (m2 eqD (mArgs sem_primes_of (aCons (mC (.int 1)) aNil)) (mB tupD aNil)) (m2 eqD (mArgs sem_primes_of (aCons (mC (.int 2047)) aNil)) (mB tupD (aCons (mC (.int 23)) (aCons (mC (.int 89)) aNil)))))))))))))
def N__law_pen : List Str := ["_law_script"]
abbrev si_BadSize : Stmt := inClass (top 7) 0
def dd_is_integer : He.DefD := ⟨("is_integer", none), "is_integer", "is_integer", defArgs s_is_integer, defBody s_is_integer, defScope s_is_integer, [], []⟩
def dd_is_between : He.DefD := ⟨("is_between", none), "is_between", "is_between", defArgs s_is_between, defBody s_is_between, defScope s_is_between, [], []⟩
def dd_primes_of : He.DefD := ⟨("primes_of", none), "primes_of", "primes_of", defArgs s_primes_of, defBody s_primes_of, defScope s_primes_of, [], []⟩
def dd__law_draw : He.DefD := ⟨("_law_draw", none), "_law_draw", "_law_draw", defArgs s__law_draw, defBody s__law_draw, defScope s__law_draw, [], []⟩
def dd__law_pick : He.DefD := ⟨("_law_pick", none), "_law_pick", "_law_pick", defArgs s__law_pick, defBody s__law_pick, defScope s__law_pick, [], []⟩
def dd__law_is_prime : He.DefD := ⟨("_law_is_prime", none), "_law_is_prime", "_law_is_prime", defArgs s__law_is_prime, defBody s__law_is_prime, defScope s__law_is_prime, [], []⟩
def dd__law_right : He.DefD := ⟨("_law_right", none), "_law_right", "_law_right", defArgs s__law_right, defBody s__law_right, defScope s__law_right, [], []⟩
def dd__law_refused : He.DefD := ⟨("_law_refused", none), "_law_refused", "_law_refused", defArgs s__law_refused, defBody s__law_refused, defScope s__law_refused, [], []⟩
def dd__law_pen : He.DefD := ⟨("_law_pen", none), "_law_pen", "_law_pen", defArgs s__law_pen, defBody s__law_pen, defScope s__law_pen, [], []⟩
def dd_law : He.DefD := ⟨("law", none), "law", "law", defArgs s_law, defBody s_law, defScope s_law, [], []⟩
def dd_init_BadSize : He.DefD := ⟨("BadSize", some "__init__"), "__init__", "BadSize.__init__", defArgs si_BadSize, defBody si_BadSize, defScope si_BadSize, [], []⟩
def fnl : List He.DefD := [dd_is_integer, dd_is_between, dd_primes_of, dd__law_draw, dd__law_pick, dd__law_is_prime, dd__law_right, dd__law_refused, dd__law_pen, dd_law, dd_init_BadSize]
def facts : List (PySem.W.Frag → Bool) := [fun K => (He.Fa.glo "BadInput").ok K,
  fun K => (He.Fa.glo "BadPattern").ok K,
  fun K => (He.Fa.glo "BadSize").ok K,
  fun K => (He.Fa.glo "_law_draw").ok K,
  fun K => (He.Fa.glo "_law_is_prime").ok K,
  fun K => (He.Fa.glo "_law_pen").ok K,
  fun K => (He.Fa.glo "_law_pick").ok K,
  fun K => (He.Fa.glo "_law_refused").ok K,
  fun K => (He.Fa.glo "_law_right").ok K,
  fun K => (He.Fa.glo "is_between").ok K,
  fun K => (He.Fa.glo "is_integer").ok K,
  fun K => (He.Fa.glo "law").ok K,
  fun K => (He.Fa.glo "primes_of").ok K,
  fun K => (He.Fa.free "abs").ok K,
  fun K => (He.Fa.free "bool").ok K,
  fun K => (He.Fa.free "int").ok K,
  fun K => (He.Fa.free "isinstance").ok K,
  fun K => (He.Fa.free "len").ok K,
  fun K => (He.Fa.free "list").ok K,
  fun K => (He.Fa.free "range").ok K,
  fun K => (He.Fa.free "repr").ok K,
  fun K => (He.Fa.free "tuple").ok K,
  fun K => (He.Fa.int "MOST_NUMBER" 1000000000).ok K,
  fun K => ctB K CTb,
  fun K => CTb.es.all fun c => decide (PySem.W.findIn K (.ref (gaS K c)) (Str.ofString "value") = some none),
  fun K => decide (PySem.W.findIn K (.ref (gaS K "BadSize")) "value" = some none),
  fun K => decide (PySem.W.findIn K (.ref (gaS K "BadSize")) "__init__" = some (some (.ref (He.ma K (gaS K "BadSize") "__init__")))),
  fun K => decide (PySem.W.typeIn K (.ref (He.ma K (gaS K "BadSize") "__init__")) = some (.type "function")),
  fun K => (caughtBy "BadInput").all fun C => decide (PySem.W.exmOne K (.ref (gaS K C)) (.ref (gaS K "BadInput")) = some true),
  fun K => (notBy "BadInput").all fun C => decide (PySem.W.exmOne K (.ref (gaS K C)) (.ref (gaS K "BadInput")) = some false)]
def chk (K : PySem.W.Frag) : Bool := facts.all fun f => f K
structure Tp (K : PySem.W.Frag) (mg : Str → Option Value) : Prop where
  g_BadInput : mg "BadInput" = some (.ref (gaS K "BadInput"))
  g_BadPattern : mg "BadPattern" = some (.ref (gaS K "BadPattern"))
  g_BadSize : mg "BadSize" = some (.ref (gaS K "BadSize"))
  g__law_draw : mg "_law_draw" = some (.ref (gaS K "_law_draw"))
  g__law_is_prime : mg "_law_is_prime" = some (.ref (gaS K "_law_is_prime"))
  g__law_pen : mg "_law_pen" = some (.ref (gaS K "_law_pen"))
  g__law_pick : mg "_law_pick" = some (.ref (gaS K "_law_pick"))
  g__law_refused : mg "_law_refused" = some (.ref (gaS K "_law_refused"))
  g__law_right : mg "_law_right" = some (.ref (gaS K "_law_right"))
  g_is_between : mg "is_between" = some (.ref (gaS K "is_between"))
  g_is_integer : mg "is_integer" = some (.ref (gaS K "is_integer"))
  g_law : mg "law" = some (.ref (gaS K "law"))
  g_primes_of : mg "primes_of" = some (.ref (gaS K "primes_of"))
  b_abs : mg "abs" = none
  b_bool : mg "bool" = none
  b_int : mg "int" = none
  b_isinstance : mg "isinstance" = none
  b_len : mg "len" = none
  b_list : mg "list" = none
  b_range : mg "range" = none
  b_repr : mg "repr" = none
  b_tuple : mg "tuple" = none
  c_MOST_NUMBER : ∃ t, mg "MOST_NUMBER" = some (.int 1000000000 t)
  ct : CTok K CTb
  x_value : ∀ c ∈ CTb.es, PySem.W.findIn K (.ref (gaS K c)) (Str.ofString "value") = some none
  xf_BadSize_value : PySem.W.findIn K (.ref (gaS K "BadSize")) "value" = some none
  ii_BadSize : PySem.W.findIn K (.ref (gaS K "BadSize")) "__init__" = some (some (.ref (He.ma K (gaS K "BadSize") "__init__")))
  it_BadSize : PySem.W.typeIn K (.ref (He.ma K (gaS K "BadSize") "__init__")) = some (.type "function")
  xt_BadInput : ∀ C ∈ caughtBy "BadInput", PySem.W.exmOne K (.ref (gaS K C)) (.ref (gaS K "BadInput")) = some true
  xn_BadInput : ∀ C ∈ notBy "BadInput", PySem.W.exmOne K (.ref (gaS K C)) (.ref (gaS K "BadInput")) = some false
  d_is_integer : ∃ fd, FunD K "is_integer" "is_integer" (defArgs s_is_integer) (defBody s_is_integer) (defScope s_is_integer) [] [] (gaS K "is_integer") fd
  d_is_between : ∃ fd, FunD K "is_between" "is_between" (defArgs s_is_between) (defBody s_is_between) (defScope s_is_between) [] [] (gaS K "is_between") fd
  d_primes_of : ∃ fd, FunD K "primes_of" "primes_of" (defArgs s_primes_of) (defBody s_primes_of) (defScope s_primes_of) [] [] (gaS K "primes_of") fd
  d__law_draw : ∃ fd, FunD K "_law_draw" "_law_draw" (defArgs s__law_draw) (defBody s__law_draw) (defScope s__law_draw) [] [] (gaS K "_law_draw") fd
  d__law_pick : ∃ fd, FunD K "_law_pick" "_law_pick" (defArgs s__law_pick) (defBody s__law_pick) (defScope s__law_pick) [] [] (gaS K "_law_pick") fd
  d__law_is_prime : ∃ fd, FunD K "_law_is_prime" "_law_is_prime" (defArgs s__law_is_prime) (defBody s__law_is_prime) (defScope s__law_is_prime) [] [] (gaS K "_law_is_prime") fd
  d__law_right : ∃ fd, FunD K "_law_right" "_law_right" (defArgs s__law_right) (defBody s__law_right) (defScope s__law_right) [] [] (gaS K "_law_right") fd
  d__law_refused : ∃ fd, FunD K "_law_refused" "_law_refused" (defArgs s__law_refused) (defBody s__law_refused) (defScope s__law_refused) [] [] (gaS K "_law_refused") fd
  d__law_pen : ∃ fd, FunD K "_law_pen" "_law_pen" (defArgs s__law_pen) (defBody s__law_pen) (defScope s__law_pen) [] [] (gaS K "_law_pen") fd
  d_law : ∃ fd, FunD K "law" "law" (defArgs s_law) (defBody s_law) (defScope s_law) [] [] (gaS K "law") fd
  d_init_BadSize : ∃ fd, FunD K "__init__" "BadSize.__init__" (defArgs si_BadSize) (defBody si_BadSize) (defScope si_BadSize) [] [] (He.ma K (gaS K "BadSize") "__init__") fd
theorem at_ {K : PySem.W.Frag} (h : chk K = true) (i : Nat) {f : PySem.W.Frag → Bool} (e : facts[i]? = some f) : f K = true := List.all_eq_true.mp h f (List.mem_of_getElem? e)
theorem tp {K : PySem.W.Frag} {hp : Heap} {mg : Str → Option Value} (X : K.In hp) (G : hp.Ns mainGlobals mg) (c : SaysB chk fnl K) : Tp K mg := by
  have h := c.fact
  refine ⟨?_, ?_, ?_, ?_, ?_, ?_, ?_, ?_, ?_, ?_, ?_, ?_, ?_, ?_, ?_, ?_, ?_, ?_, ?_, ?_, ?_, ?_, ?_, ?_, ?_, ?_, ?_, ?_, ?_, ?_, ?_, ?_, ?_, ?_, ?_, ?_, ?_, ?_, ?_, ?_, ?_⟩
  · exact He.glo_ok X G (at_ h 0 rfl)
  · exact He.glo_ok X G (at_ h 1 rfl)
  · exact He.glo_ok X G (at_ h 2 rfl)
  · exact He.glo_ok X G (at_ h 3 rfl)
  · exact He.glo_ok X G (at_ h 4 rfl)
  · exact He.glo_ok X G (at_ h 5 rfl)
  · exact He.glo_ok X G (at_ h 6 rfl)
  · exact He.glo_ok X G (at_ h 7 rfl)
  · exact He.glo_ok X G (at_ h 8 rfl)
  · exact He.glo_ok X G (at_ h 9 rfl)
  · exact He.glo_ok X G (at_ h 10 rfl)
  · exact He.glo_ok X G (at_ h 11 rfl)
  · exact He.glo_ok X G (at_ h 12 rfl)
  · exact He.free_ok X G (at_ h 13 rfl)
  · exact He.free_ok X G (at_ h 14 rfl)
  · exact He.free_ok X G (at_ h 15 rfl)
  · exact He.free_ok X G (at_ h 16 rfl)
  · exact He.free_ok X G (at_ h 17 rfl)
  · exact He.free_ok X G (at_ h 18 rfl)
  · exact He.free_ok X G (at_ h 19 rfl)
  · exact He.free_ok X G (at_ h 20 rfl)
  · exact He.free_ok X G (at_ h 21 rfl)
  · exact He.int_ok X G (at_ h 22 rfl)
  · exact ctB_ok (at_ h 23 rfl)
  · exact fun c hc => of_decide_eq_true (List.all_eq_true.mp (at_ h 24 rfl) c hc)
  · exact of_decide_eq_true (at_ h 25 rfl)
  · exact of_decide_eq_true (at_ h 26 rfl)
  · exact of_decide_eq_true (at_ h 27 rfl)
  · exact fun C hC => of_decide_eq_true (List.all_eq_true.mp (at_ h 28 rfl) C hC)
  · exact fun C hC => of_decide_eq_true (List.all_eq_true.mp (at_ h 29 rfl) C hC)
  · exact c.def_ 0 rfl
  · exact c.def_ 1 rfl
  · exact c.def_ 2 rfl
  · exact c.def_ 3 rfl
  · exact c.def_ 4 rfl
  · exact c.def_ 5 rfl
  · exact c.def_ 6 rfl
  · exact c.def_ 7 rfl
  · exact c.def_ 8 rfl
  · exact c.def_ 9 rfl
  · exact c.def_ 10 rfl
section
variable {P : Program} {w : World} {K : PySem.W.Frag} {mg : Str → Option Value} {base : Heap}
theorem k_of {n : Str} {st : Stmt} {a : Addr} (h : ∃ fd, FunD K n n (defArgs st) (defBody st) (defScope st) [] [] a fd) : PySem.W.keepIn K (.ref a) = true := h.elim fun _ z => z.kp
theorem Tp.k_is_integer (T : Tp K mg) : PySem.W.keepIn K (.ref (gaS K "is_integer")) = true := k_of T.d_is_integer
theorem Tp.k_is_between (T : Tp K mg) : PySem.W.keepIn K (.ref (gaS K "is_between")) = true := k_of T.d_is_between
theorem Tp.k_primes_of (T : Tp K mg) : PySem.W.keepIn K (.ref (gaS K "primes_of")) = true := k_of T.d_primes_of
theorem Tp.k__law_draw (T : Tp K mg) : PySem.W.keepIn K (.ref (gaS K "_law_draw")) = true := k_of T.d__law_draw
theorem Tp.k__law_pick (T : Tp K mg) : PySem.W.keepIn K (.ref (gaS K "_law_pick")) = true := k_of T.d__law_pick
theorem Tp.k__law_is_prime (T : Tp K mg) : PySem.W.keepIn K (.ref (gaS K "_law_is_prime")) = true := k_of T.d__law_is_prime
theorem Tp.k__law_right (T : Tp K mg) : PySem.W.keepIn K (.ref (gaS K "_law_right")) = true := k_of T.d__law_right
theorem Tp.k__law_refused (T : Tp K mg) : PySem.W.keepIn K (.ref (gaS K "_law_refused")) = true := k_of T.d__law_refused
theorem Tp.k__law_pen (T : Tp K mg) : PySem.W.keepIn K (.ref (gaS K "_law_pen")) = true := k_of T.d__law_pen
theorem Tp.k_law (T : Tp K mg) : PySem.W.keepIn K (.ref (gaS K "law")) = true := k_of T.d_law
theorem sci_BadSize : FnScope ["self", "value"] ["self", "value"] (defScope si_BadSize) := ⟨rfl, rfl, rfl, by decide +kernel, rfl, by decide +kernel, by decide +kernel⟩
theorem xb_BadSize (T : Tp K mg) : Binds K T.d_init_BadSize.choose ["self", "value"] [] := T.d_init_BadSize.choose_spec.bindsN fun _ _ _ _ _ _ us hl => match us, hl with | [_, _], _ => rfl
theorem xi_BadSize (T : Tp K mg) : FnOk P w K mg base CX0 1 (He.ma K (gaS K "BadSize") "__init__") T.d_init_BadSize.choose ["self", "value"] (spXI (gaS K "BadSize") (["value"].map Str.ofString)) := by
  refine T.d_init_BadSize.choose_spec.ok sci_BadSize (fun vs H Q E h => ?_) (fun cdv A outer s H vs Q E hr h => ?_)
  · obtain ⟨a, ws, rfl, hl, _⟩ := h
    simp only [List.length_cons, hl]
    rfl
  · obtain ⟨a, ws, rfl, hl, ha, k⟩ := h
    match ws, hl, k with
    | [y], _, k =>
      refine ⟨_, PSs.nox (pss_one (ps_ost (pv 0) (pv 1))), ?_⟩
      exact ⟨_, rfl, _, rfl, a, _, rfl, (T.ct.exc _ (by decide)).oex, T.xf_BadSize_value, .inl ⟨ha, fun dx nd ne => k dx nd ne⟩⟩
theorem sc_is_integer : FnScope N_is_integer ["value"] (defScope s_is_integer) := ⟨rfl, rfl, rfl, by decide +kernel, rfl, by decide +kernel, by decide +kernel⟩
theorem sc_is_between : FnScope N_is_between ["value", "low", "high"] (defScope s_is_between) := ⟨rfl, rfl, rfl, by decide +kernel, rfl, by decide +kernel, by decide +kernel⟩
theorem sc_primes_of : FnScope N_primes_of ["number"] (defScope s_primes_of) := ⟨rfl, rfl, rfl, by decide +kernel, rfl, by decide +kernel, by decide +kernel⟩
theorem sc__law_draw : FnScope N__law_draw ["_law_pen_here", "_law_many"] (defScope s__law_draw) := ⟨rfl, rfl, rfl, by decide +kernel, rfl, by decide +kernel, by decide +kernel⟩
theorem sc__law_pick : FnScope N__law_pick ["_law_pen_here", "_law_some"] (defScope s__law_pick) := ⟨rfl, rfl, rfl, by decide +kernel, rfl, by decide +kernel, by decide +kernel⟩
theorem sc__law_is_prime : FnScope N__law_is_prime ["_law_number"] (defScope s__law_is_prime) := ⟨rfl, rfl, rfl, by decide +kernel, rfl, by decide +kernel, by decide +kernel⟩
theorem sc__law_right : FnScope N__law_right ["_law_number"] (defScope s__law_right) := ⟨rfl, rfl, rfl, by decide +kernel, rfl, by decide +kernel, by decide +kernel⟩
theorem sc__law_refused : FnScope N__law_refused ["_law_value"] (defScope s__law_refused) := ⟨rfl, rfl, rfl, by decide +kernel, rfl, by decide +kernel, by decide +kernel⟩
theorem sc_law : FnScope N_law ["_law_script"] (defScope s_law) := ⟨rfl, rfl, rfl, by decide +kernel, rfl, by decide +kernel, by decide +kernel⟩
theorem sc__law_pen : FnScope N__law_pen ["_law_script"] (defScope s__law_pen) := ⟨rfl, rfl, rfl, by decide +kernel, rfl, by decide +kernel, by decide +kernel⟩
theorem a_is_integer (T : Tp K mg) : FnA P w K mg base 1 (gaS K "is_integer") T.d_is_integer.choose ["value"] (spD K sem_is_integer) := by
  exact fn_d (k := 0) T.d_is_integer.choose_spec sc_is_integer fun cdv A fs s H E hr F hK => by
    have tk : Takes (cxOf (L2.CX P w) P w K mg base N_is_integer "is_integer" (defScope s_is_integer) (gaS K "is_integer") cdv A fs s H E) (fun cls d _ H' => E cls d H') := takes_of rfl rfl rfl rfl
    have po := passes_of (X := cxOf (L2.CX P w) P w K mg base N_is_integer "is_integer" (defScope s_is_integer) (gaS K "is_integer") cdv A fs s H E) rfl
    exact (s_one (s_ret (c_and (c_isa hK T.ct rfl T.b_isinstance (ca_cons (c_var (pv 0)) (ca_cons (c_ty rfl T.b_int (by decide +kernel)) ca_nil))) (c_one (c_not (c_isa hK T.ct rfl T.b_isinstance (ca_cons (c_var (pv 0)) (ca_cons (c_ty rfl T.b_bool (by decide +kernel)) ca_nil))))))))
theorem fn_is_integer (T : Tp K mg) : FnD P w K mg base 1 (gaS K "is_integer") sem_is_integer := (a_is_integer T).d0 (T.d_is_integer.choose_spec.bindsN fun _ _ _ _ _ _ us hl => match us, hl with | [_], _ => rfl)
theorem a_is_between (T : Tp K mg) : FnA P w K mg base 2 (gaS K "is_between") T.d_is_between.choose ["value", "low", "high"] (spD K sem_is_between) := by
  exact fn_d (k := 1) T.d_is_between.choose_spec sc_is_between fun cdv A fs s H E hr F hK => by
    have tk : Takes (cxOf (L2.CX P w) P w K mg base N_is_between "is_between" (defScope s_is_between) (gaS K "is_between") cdv A fs s H E) (fun cls d _ H' => E cls d H') := takes_of rfl rfl rfl rfl
    have po := passes_of (X := cxOf (L2.CX P w) P w K mg base N_is_between "is_between" (defScope s_is_between) (gaS K "is_between") cdv A fs s H E) rfl
    exact (s_one (s_ret (c_and (c_call ((fn_is_integer T).mono (by decide)) hK hr tk rfl T.g_is_integer T.k_is_integer (ca_cons (c_var (pv 0)) ca_nil)) (c_one (c_qq q_le q_le (c_var (pv 1)) (c_var (pv 0)) (c_var (pv 2)))))))
theorem fn_is_between (T : Tp K mg) : FnD P w K mg base 2 (gaS K "is_between") sem_is_between := (a_is_between T).d0 (T.d_is_between.choose_spec.bindsN fun _ _ _ _ _ _ us hl => match us, hl with | [_, _, _], _ => rfl)
theorem a_primes_of (T : Tp K mg) : FnA P w K mg base 3 (gaS K "primes_of") T.d_primes_of.choose ["number"] (spD K sem_primes_of) := by
  obtain ⟨tc_MOST_NUMBER, hc_MOST_NUMBER⟩ := T.c_MOST_NUMBER
  exact fn_d (k := 2) T.d_primes_of.choose_spec sc_primes_of fun cdv A fs s H E hr F hK => by
    have tk : Takes (cxOf (L2.CX P w) P w K mg base N_primes_of "primes_of" (defScope s_primes_of) (gaS K "primes_of") cdv A fs s H E) (fun cls d _ H' => E cls d H') := takes_of rfl rfl rfl rfl
    have po := passes_of (X := cxOf (L2.CX P w) P w K mg base N_primes_of "primes_of" (defScope s_primes_of) (gaS K "primes_of") cdv A fs s H E) rfl
    exact (s_cons (s_if (ct_not (ct_val (c_call ((fn_is_between T).mono (by decide)) hK hr tk rfl T.g_is_between T.k_is_between (ca_cons (c_var (pv 0)) (ca_cons c_int (ca_cons (c_gint rfl hc_MOST_NUMBER) ca_nil)))))) (s_one (s_raise (fl := ["value"]) rfl hK tk (T.ct.exc _ (by decide)) T.ii_BadSize T.it_BadSize (xi_BadSize T) (hr.r.mono (by decide)) (xb_BadSize T) rfl T.g_BadSize (ca_cons (c_var (pv 0)) ca_nil))) s_nil) (s_cons (s_parO3 (i := 1) (j := 2) (l := 3) hK rfl sc_primes_of.nd rfl rfl rfl (by decide) (by decide) (by decide) rfl rfl rfl (fun F hK => (c_var (pv 0))) (fun F hK => c_int) (by rfl)) (s_cons (s_while po (ct_q q_le (c_mulI (c_var (pv 3)) (c_var (pv 3))) (c_var (pv 2))) (s_cons (s_if (ct_q (q_eq hr.r hK) (c_modI (c_var (pv 2)) (c_var (pv 3))) c_int) (s_cons (s_append (i := 1) (pe_bm PySem.F.plainAttrs_list PySem.F.slot_list_append PySem.F.type_list_append mt_append (pv 1) (pa_cons (c_var (pv 3)) pa_nil))) (s_one (s_while po (ct_q (q_eq hr.r hK) (c_modI (c_var (pv 2)) (c_var (pv 3))) c_int) (s_one (s_set (i := 2) sc_primes_of.nd rfl (by first | exact Or.inl rfl | exact Or.inr rfl) (c_divI (c_var (pv 2)) (c_var (pv 3)))))))) s_nil) (s_one (s_aug (i := 3) sc_primes_of.nd rfl (by first | exact Or.inl rfl | exact Or.inr rfl) ip_add ip_addI (c_if (ct_q (q_eq hr.r hK) (c_var (pv 3)) c_int) c_int c_int))))) (s_frz (i := 1) (s_one (s_ret (c_tuple1 hK rfl T.b_tuple (ca_cons (c_if (ct_q (q_eq hr.r hK) (c_var (pv 2)) c_int) (c_var (pv 1)) (c_lst (ca_star hK (c_var (pv 1)) (ca_cons (c_var (pv 2)) ca_nil)))) ca_nil))))))))
theorem fn_primes_of (T : Tp K mg) : FnD P w K mg base 3 (gaS K "primes_of") sem_primes_of := (a_primes_of T).d0 (T.d_primes_of.choose_spec.bindsN fun _ _ _ _ _ _ us hl => match us, hl with | [_], _ => rfl)
theorem kwb_primes_of (T : Tp K mg) : ∀ (s : Shared) (ws : List Value), K.In s.heap → ws.length = [()].length → BindsTo s T.d_primes_of.choose ⟨[], (["number"] : List Str).zip ws⟩ ((["number"] : List Str).zip (id ws)) := by
  intro s ws _ hl
  obtain ⟨oc, od, dV, kV, doc, pm, an, cdv, ct, osl, e, lk, hcd, hD, _⟩ := T.d_primes_of.choose_spec.ex
  rw [e]
  rcases hD with ⟨_, rfl⟩ | ⟨z, _⟩
  · match ws, hl with
    | [_], _ => exact .of_eq rfl
  · exact absurd rfl z
theorem a__law_draw (T : Tp K mg) : FnA P w K mg base 1 (gaS K "_law_draw") T.d__law_draw.choose ["_law_pen_here", "_law_many"] (spD K sem__law_draw) := by
  exact fn_d (k := 0) T.d__law_draw.choose_spec sc__law_draw fun cdv A fs s H E hr F hK => by
    have tk : Takes (cxOf (L2.CX P w) P w K mg base N__law_draw "_law_draw" (defScope s__law_draw) (gaS K "_law_draw") cdv A fs s H E) (fun cls d _ H' => E cls d H') := takes_of rfl rfl rfl rfl
    have po := passes_of (X := cxOf (L2.CX P w) P w K mg base N__law_draw "_law_draw" (defScope s__law_draw) (gaS K "_law_draw") cdv A fs s H E) rfl
    exact (s_cons (s_if (ct_q q_gt (c_ix hK (c_var (pv 0)) c_int) c_int) (s_cons (s_set (i := 2) sc__law_draw.nd rfl (by first | exact Or.inl rfl | exact Or.inr rfl) (c_modI (c_int1 rfl T.b_int (ca_cons (c_ix hK (c_var (pv 0)) c_int) ca_nil)) (c_var (pv 1)))) (s_cons (s_pen (ps_asg (c_divI (c_int1 rfl T.b_int (ca_cons (c_ix hK (c_var (pv 0)) c_int) ca_nil)) (c_var (pv 1))) (pg_sub (pv 0) pe_int set_list))) (s_one (s_ret (c_var (pv 2)))))) s_nil) (s_cons (s_set (i := 3) sc__law_draw.nd rfl (by first | exact Or.inl rfl | exact Or.inr rfl) (c_ix hK (c_var (pv 0)) c_int)) (s_cons (s_pen (ps_asg (c_add (c_var (pv 3)) c_int) (pg_sub (pv 0) pe_int set_list))) (s_cons (s_set (i := 4) sc__law_draw.nd rfl (by first | exact Or.inl rfl | exact Or.inr rfl) (c_add (c_mulI c_int (c_var (pv 3))) c_int)) (s_cons (s_if (ct_q (q_ne hr.r hK) (c_ix hK (c_var (pv 0)) c_int) (c_lst ca_nil)) (s_one (s_set (i := 4) sc__law_draw.nd rfl (by first | exact Or.inl rfl | exact Or.inr rfl) (c_ix hK (c_ix hK (c_var (pv 0)) c_int) (c_modI (c_int1 rfl T.b_int (ca_cons (c_var (pv 3)) ca_nil)) (c_len hK rfl T.b_len (ca_cons (c_ix hK (c_var (pv 0)) c_int) ca_nil)))))) s_nil) (s_cons (s_if (PW.pt (w_and (ct_q q_lt (c_var (pv 3)) (c_len hK rfl T.b_len (ca_cons (c_ix hK (c_var (pv 0)) c_int) ca_nil))) (w_and1 (ct_q q_ge (c_abs rfl T.b_abs (ca_cons (c_var (pv 4)) ca_nil)) (c_powI c_int c_int))))) (s_cons (s_set (i := 5) sc__law_draw.nd rfl (by first | exact Or.inl rfl | exact Or.inr rfl) (c_add (c_mulI c_int (c_subI (c_abs rfl T.b_abs (ca_cons (c_var (pv 4)) ca_nil)) (c_powI c_int c_int))) (c_int1 rfl T.b_int (ca_cons (c_q q_lt (c_var (pv 4)) c_int) ca_nil)))) (s_cons (s_pen (ps_asg (c_divI (c_int1 rfl T.b_int (ca_cons (c_var (pv 5)) ca_nil)) (c_var (pv 1))) (pg_sub (pv 0) pe_int set_list))) (s_one (s_ret (c_modI (c_int1 rfl T.b_int (ca_cons (c_var (pv 5)) ca_nil)) (c_var (pv 1))))))) s_nil) (s_cons (s_set (i := 6) sc__law_draw.nd rfl (by first | exact Or.inl rfl | exact Or.inr rfl) (c_modI (c_int1 rfl T.b_int (ca_cons (c_powI (c_add (c_add (c_modI (c_int1 rfl T.b_int (ca_cons (c_var (pv 4)) ca_nil)) c_int) (c_mulI c_int (c_var (pv 3)))) c_int) c_int) ca_nil)) c_int)) (s_cons (s_set (i := 6) sc__law_draw.nd rfl (by first | exact Or.inl rfl | exact Or.inr rfl) (c_modI (c_int1 rfl T.b_int (ca_cons (c_powI (c_add (c_add (c_mulI (c_var (pv 6)) (c_add (c_mulI c_int (c_var (pv 3))) c_int)) (c_mulI (c_mulI c_int (c_var (pv 3))) (c_var (pv 3)))) c_int) c_int) ca_nil)) c_int)) (s_one (s_ret (c_modI (c_int1 rfl T.b_int (ca_cons (c_divI (c_var (pv 6)) c_int) ca_nil)) (c_var (pv 1)))))))))))))
theorem fn__law_draw (T : Tp K mg) : FnD P w K mg base 1 (gaS K "_law_draw") sem__law_draw := (a__law_draw T).d0 (T.d__law_draw.choose_spec.bindsN fun _ _ _ _ _ _ us hl => match us, hl with | [_, _], _ => rfl)
theorem a__law_pick (T : Tp K mg) : FnA P w K mg base 2 (gaS K "_law_pick") T.d__law_pick.choose ["_law_pen_here", "_law_some"] (spD K sem__law_pick) := by
  exact fn_d (k := 1) T.d__law_pick.choose_spec sc__law_pick fun cdv A fs s H E hr F hK => by
    have tk : Takes (cxOf (L2.CX P w) P w K mg base N__law_pick "_law_pick" (defScope s__law_pick) (gaS K "_law_pick") cdv A fs s H E) (fun cls d _ H' => E cls d H') := takes_of rfl rfl rfl rfl
    have po := passes_of (X := cxOf (L2.CX P w) P w K mg base N__law_pick "_law_pick" (defScope s__law_pick) (gaS K "_law_pick") cdv A fs s H E) rfl
    exact (s_one (s_ret (c_ix hK (c_var (pv 1)) (c_call ((fn__law_draw T).mono (by decide)) hK hr tk rfl T.g__law_draw T.k__law_draw (ca_cons (c_var (pv 0)) (ca_cons (c_len hK rfl T.b_len (ca_cons (c_var (pv 1)) ca_nil)) ca_nil))))))
theorem fn__law_pick (T : Tp K mg) : FnD P w K mg base 2 (gaS K "_law_pick") sem__law_pick := (a__law_pick T).d0 (T.d__law_pick.choose_spec.bindsN fun _ _ _ _ _ _ us hl => match us, hl with | [_, _], _ => rfl)
theorem a__law_is_prime (T : Tp K mg) : FnA P w K mg base 1 (gaS K "_law_is_prime") T.d__law_is_prime.choose ["_law_number"] (spD K sem__law_is_prime) := by
  exact fn_d (k := 0) T.d__law_is_prime.choose_spec sc__law_is_prime fun cdv A fs s H E hr F hK => by
    have tk : Takes (cxOf (L2.CX P w) P w K mg base N__law_is_prime "_law_is_prime" (defScope s__law_is_prime) (gaS K "_law_is_prime") cdv A fs s H E) (fun cls d _ H' => E cls d H') := takes_of rfl rfl rfl rfl
    have po := passes_of (X := cxOf (L2.CX P w) P w K mg base N__law_is_prime "_law_is_prime" (defScope s__law_is_prime) (gaS K "_law_is_prime") cdv A fs s H E) rfl
    exact (s_cons (s_set (i := 1) sc__law_is_prime.nd rfl (by first | exact Or.inl rfl | exact Or.inr rfl) c_int) (s_cons (s_while po (ct_q q_le (c_mulI (c_var (pv 1)) (c_var (pv 1))) (c_var (pv 0))) (s_cons (s_if (ct_q (q_eq hr.r hK) (c_modI (c_int1 rfl T.b_int (ca_cons (c_var (pv 0)) ca_nil)) (c_var (pv 1))) c_int) (s_one (s_ret c_bl)) s_nil) (s_one (s_set (i := 1) sc__law_is_prime.nd rfl (by first | exact Or.inl rfl | exact Or.inr rfl) (c_add (c_var (pv 1)) c_int))))) (s_one (s_ret (c_q q_gt (c_var (pv 0)) c_int)))))
theorem fn__law_is_prime (T : Tp K mg) : FnD P w K mg base 1 (gaS K "_law_is_prime") sem__law_is_prime := (a__law_is_prime T).d0 (T.d__law_is_prime.choose_spec.bindsN fun _ _ _ _ _ _ us hl => match us, hl with | [_], _ => rfl)
theorem a__law_right (T : Tp K mg) : FnA P w K mg base 4 (gaS K "_law_right") T.d__law_right.choose ["_law_number"] (spD K sem__law_right) := by
  exact fn_d (k := 3) T.d__law_right.choose_spec sc__law_right fun cdv A fs s H E hr F hK => by
    have tk : Takes (cxOf (L2.CX P w) P w K mg base N__law_right "_law_right" (defScope s__law_right) (gaS K "_law_right") cdv A fs s H E) (fun cls d _ H' => E cls d H') := takes_of rfl rfl rfl rfl
    have po := passes_of (X := cxOf (L2.CX P w) P w K mg base N__law_right "_law_right" (defScope s__law_right) (gaS K "_law_right") cdv A fs s H E) rfl
    exact (s_cons (s_set (i := 1) sc__law_right.nd rfl (by first | exact Or.inl rfl | exact Or.inr rfl) (c_call ((fn_primes_of T).mono (by decide)) hK hr tk rfl T.g_primes_of T.k_primes_of (ca_cons (c_var (pv 0)) ca_nil))) (s_cons (s_if (PW.pt (w_or (ct_not (ct_val (c_isa hK T.ct rfl T.b_isinstance (ca_cons (c_var (pv 1)) (ca_cons (c_ty rfl T.b_tuple (by decide +kernel)) ca_nil))))) (w_or1 (ct_q (q_ne hr.r hK) (c_lc (own := [("_law_one", 6)]) hK rfl sc__law_right.nd (w_seq hK (c_var (pv 1))) (blkOk_by (N := N__law_right) (sc := defScope s__law_right) (by decide +kernel)) rfl (fun _ _ _ _ _ F hK => (g_name (i := 6) sc__law_right.nd rfl (by first | exact Or.inl rfl | exact Or.inr rfl))) (fun _ _ _ _ _ F hK => (ts_one (PW.pt (w_or (ct_not (ct_val (c_isa hK T.ct rfl T.b_isinstance (ca_cons (c_var (pv 6)) (ca_cons (c_ty rfl T.b_int (by decide +kernel)) ca_nil))))) (w_or1 (ct_val (c_isa hK T.ct rfl T.b_isinstance (ca_cons (c_var (pv 6)) (ca_cons (c_ty rfl T.b_bool (by decide +kernel)) ca_nil))))))))) (fun _ _ _ _ _ F hK => (c_var (pv 6)))) (c_lst ca_nil))))) (s_one (s_ret c_bl)) s_nil) (s_cons (s_par2 (i := 2) (j := 3) rfl sc__law_right.nd rfl rfl (by decide) rfl rfl (ca_cons (c_var (pv 0)) (ca_cons c_int ca_nil)) (by rfl)) (s_cons (s_for hK po rfl (w_seq hK (c_var (pv 1))) (fun F hK => (g_name (i := 4) sc__law_right.nd rfl (by first | exact Or.inl rfl | exact Or.inr rfl))) (fun F hK => (s_cons (s_if (PW.pt (w_or (ct_q q_le (c_var (pv 4)) (c_var (pv 3))) (w_or (ct_not (ct_val (c_call ((fn__law_is_prime T).mono (by decide)) hK hr tk rfl T.g__law_is_prime T.k__law_is_prime (ca_cons (c_var (pv 4)) ca_nil)))) (w_or1 (ct_q (q_ne hr.r hK) (c_modI (c_int1 rfl T.b_int (ca_cons (c_var (pv 2)) ca_nil)) (c_var (pv 4))) c_int))))) (s_one (s_ret c_bl)) s_nil) (s_cons (s_for hK po rfl (w_r1 rfl T.b_range (ca_cons c_int ca_nil)) (fun F hK => (g_name (i := 5) sc__law_right.nd rfl (by first | exact Or.inl rfl | exact Or.inr rfl))) (fun F hK => (s_one (s_set (i := 2) sc__law_right.nd rfl (by first | exact Or.inl rfl | exact Or.inr rfl) (c_if (ct_q (q_eq hr.r hK) (c_modI (c_int1 rfl T.b_int (ca_cons (c_var (pv 2)) ca_nil)) (c_var (pv 4))) c_int) (c_divI (c_var (pv 2)) (c_var (pv 4))) (c_var (pv 2))))))) (s_one (s_set (i := 3) sc__law_right.nd rfl (by first | exact Or.inl rfl | exact Or.inr rfl) (c_var (pv 4)))))))) (s_one (s_ret (c_q (q_eq hr.r hK) (c_var (pv 2)) c_int)))))))
theorem fn__law_right (T : Tp K mg) : FnD P w K mg base 4 (gaS K "_law_right") sem__law_right := (a__law_right T).d0 (T.d__law_right.choose_spec.bindsN fun _ _ _ _ _ _ us hl => match us, hl with | [_], _ => rfl)
theorem a__law_refused (T : Tp K mg) : FnA P w K mg base 4 (gaS K "_law_refused") T.d__law_refused.choose ["_law_value"] (spD K sem__law_refused) := by
  exact fn_d (k := 3) T.d__law_refused.choose_spec sc__law_refused fun cdv A fs s H E hr F hK => by
    have tk : Takes (cxOf (L2.CX P w) P w K mg base N__law_refused "_law_refused" (defScope s__law_refused) (gaS K "_law_refused") cdv A fs s H E) (fun cls d _ H' => E cls d H') := takes_of rfl rfl rfl rfl
    have po := passes_of (X := cxOf (L2.CX P w) P w K mg base N__law_refused "_law_refused" (defScope s__law_refused) (gaS K "_law_refused") cdv A fs s H E) rfl
    exact (s_cons (s_set (i := 1) sc__law_refused.nd rfl (by first | exact Or.inl rfl | exact Or.inr rfl) c_non) (s_cons (s_try (cs := caughtBy "BadInput") (os := notBy "BadInput") hK rfl rfl rfl sc__law_refused.nd rfl rfl (by decide) rfl (by first | exact Or.inl rfl | exact Or.inr rfl) ⟨rfl, by decide, .inl T.g_BadInput⟩ tk T.xt_BadInput T.xn_BadInput (fun W pn xe tk po => (s_one (s_set (i := 1) sc__law_refused.nd rfl (by first | exact Or.inl rfl | exact Or.inr rfl) (c_callKw (ks := ["number"]) (g := id) (gV := id) (gD := id) ((a_primes_of T).mono (by decide)) hK hr tk rfl T.g_primes_of T.k_primes_of (kwb_primes_of T) (fun r => r) (fun r => r) (ck_cons (c_var (pv 0)) ck_nil) (by exact lenC (lenN))))))) (s_one (s_ret (c_and (c_isa hK T.ct rfl T.b_isinstance (ca_cons (c_var (pv 1)) (ca_cons (c_glo rfl rfl hK T.g_BadSize) ca_nil))) (c_and (c_not (c_isa hK T.ct rfl T.b_isinstance (ca_cons (c_var (pv 1)) (ca_cons (c_glo rfl rfl hK T.g_BadPattern) ca_nil)))) (c_one (c_q (q_eq hr.r hK) (c_repr hr hK rfl T.b_repr (ca_cons (c_xf hK T.ct T.x_value (c_var (pv 1))) ca_nil)) (c_repr hr hK rfl T.b_repr (ca_cons (c_var (pv 0)) ca_nil))))))))))
theorem fn__law_refused (T : Tp K mg) : FnD P w K mg base 4 (gaS K "_law_refused") sem__law_refused := (a__law_refused T).d0 (T.d__law_refused.choose_spec.bindsN fun _ _ _ _ _ _ us hl => match us, hl with | [_], _ => rfl)
theorem a__law_pen (T : Tp K mg) : FnG P w K mg base 1 (gaS K "_law_pen") (spPen K) := by
  have G : FnA P w K mg base 1 (gaS K "_law_pen") T.d__law_pen.choose ["_law_script"] (spPen K) := fn_a (k := 0) T.d__law_pen.choose_spec sc__law_pen (fun vs H Q E h => by obtain ⟨a, ns, rfl, _⟩ := h; rfl) fun cdv A fs s H vs Q E hr h =>
    ⟨tPen K, pss_one (ps_ret (pe_lst (pa_cons (pe_callTy call_list_of rfl T.b_list (by decide +kernel) (pa_cons (pe_slice sl_list (pv 0) po_none (po_some pe_int)) pa_nil)) (pa_cons pe_int (pa_cons pe_int pa_nil))))), pen_pure h⟩
  exact (G.pos (T.d__law_pen.choose_spec.bindsN fun _ _ _ _ _ _ us hl => match us, hl with | [_], _ => rfl) .nil).imp fun vs H Q E h => by rw [List.append_nil]; exact h
theorem a_law (T : Tp K mg) (hm : LawTrue 9 m_law) : FnA P w K mg base 5 (gaS K "law") T.d_law.choose ["_law_script"] (spLaw K) := by
  refine fn_a (k := 4) T.d_law.choose_spec sc_law (fun vs H Q E h => by obtain ⟨a, ns, rfl, _⟩ := h; rfl) fun cdv A fs s H vs Q E hr h => ?_
  have tk : Takes (cxOf (L2.CX P w) P w K mg base N_law "law" (defScope s_law) (gaS K "law") cdv A fs s H E) (fun cls d _ H' => E cls d H') := takes_of rfl rfl rfl rfl
  have po := passes_of (X := cxOf (L2.CX P w) P w K mg base N_law "law" (defScope s_law) (gaS K "law") cdv A fs s H E) rfl
  refine ⟨_, pss_cons (ps_set (i := 1) sc_law.nd rfl (by first | exact Or.inl rfl | exact Or.inr rfl) (pe_callG ((a__law_pen T).mono (by decide)) hr tk rfl T.g__law_pen T.k__law_pen (pa_cons (pv 0) pa_nil))) (b_all (b := m_law) (W := fun cls d _ H' => E cls d H') fun F hK => ?_), law_pure (X := cxOf (L2.CX P w) P w K mg base N_law "law" (defScope s_law) (gaS K "law") cdv A fs s H E) (N := N_law) (W := fun cls d _ H' => E cls d H') (by decide) hm h⟩
  exact (s_cons (s_set (i := 2) sc_law.nd rfl (by first | exact Or.inl rfl | exact Or.inr rfl) (c_lst (ca_cons c_int (ca_cons c_int (ca_cons c_int (ca_cons c_int (ca_cons c_int (ca_cons c_int (ca_cons c_int (ca_cons c_int (ca_cons c_int (ca_cons c_int (ca_cons c_int (ca_cons c_int (ca_cons c_int (ca_cons c_int ca_nil)))))))))))))))) (s_cons (s_for hK po rfl (w_r1 rfl T.b_range (ca_cons c_int ca_nil)) (fun F hK => (g_name (i := 3) sc_law.nd rfl (by first | exact Or.inl rfl | exact Or.inr rfl))) (fun F hK => (s_cons (s_set (i := 4) sc_law.nd rfl (by first | exact Or.inl rfl | exact Or.inr rfl) c_int) (s_cons (s_for hK po rfl (w_r1 rfl T.b_range (ca_cons (c_call ((fn__law_draw T).mono (by decide)) hK hr tk rfl T.g__law_draw T.k__law_draw (ca_cons (c_var (pv 1)) (ca_cons c_int ca_nil))) ca_nil)) (fun F hK => (g_name (i := 5) sc_law.nd rfl (by first | exact Or.inl rfl | exact Or.inr rfl))) (fun F hK => (s_one (s_set (i := 4) sc_law.nd rfl (by first | exact Or.inl rfl | exact Or.inr rfl) (c_mulI (c_var (pv 4)) (c_call ((fn__law_pick T).mono (by decide)) hK hr tk rfl T.g__law_pick T.k__law_pick (ca_cons (c_var (pv 1)) (ca_cons (c_var (pv 2)) ca_nil)))))))) (s_cons (s_set (i := 4) sc_law.nd rfl (by first | exact Or.inl rfl | exact Or.inr rfl) (c_mulI (c_var (pv 4)) (c_call ((fn__law_pick T).mono (by decide)) hK hr tk rfl T.g__law_pick T.k__law_pick (ca_cons (c_var (pv 1)) (ca_cons (c_lst (ca_cons c_int (ca_cons c_int (ca_cons c_int (ca_cons c_int (ca_cons c_int (ca_cons c_int ca_nil))))))) ca_nil))))) (s_one (s_if (PW.pt (w_or (PW.pt (w_and (ct_q q_le (c_var (pv 4)) (c_powI c_int c_int)) (w_and1 (ct_not (ct_val (c_call ((fn__law_right T).mono (by decide)) hK hr tk rfl T.g__law_right T.k__law_right (ca_cons (c_var (pv 4)) ca_nil))))))) (w_or1 (ct_not (ct_val (c_call ((fn__law_right T).mono (by decide)) hK hr tk rfl T.g__law_right T.k__law_right (ca_cons (c_add c_int (c_call ((fn__law_draw T).mono (by decide)) hK hr tk rfl T.g__law_draw T.k__law_draw (ca_cons (c_var (pv 1)) (ca_cons (c_powI c_int c_int) ca_nil)))) ca_nil))))))) (s_one (s_ret c_bl)) s_nil))))))) (s_cons (s_set (i := 6) sc_law.nd rfl (by first | exact Or.inl rfl | exact Or.inr rfl) (c_lst (ca_cons c_int (ca_cons (c_neg c_int) (ca_cons c_bl (ca_cons c_non (ca_cons (c_add (c_powI c_int c_int) c_int) (ca_cons c_str (ca_cons (c_tup (ca_cons c_int ca_nil)) (ca_cons (c_lst (ca_cons c_int ca_nil)) ca_nil)))))))))) (s_cons (s_if (ct_q (q_ne hr.r hK) (c_lc (own := [("_law_value", 8)]) hK rfl sc_law.nd (w_seq hK (c_var (pv 6))) (blkOk_by (N := N_law) (sc := defScope s_law) (by decide +kernel)) rfl (fun _ _ _ _ _ F hK => (g_name (i := 8) sc_law.nd rfl (by first | exact Or.inl rfl | exact Or.inr rfl))) (fun _ _ _ _ _ F hK => (ts_one (ct_not (ct_val (c_call ((fn__law_refused T).mono (by decide)) hK hr takesW0 rfl T.g__law_refused T.k__law_refused (ca_cons (c_var (pv 8)) ca_nil)))))) (fun _ _ _ _ _ F hK => (c_var (pv 8)))) (c_lst ca_nil)) (s_one (s_ret c_bl)) s_nil) (s_cons (s_set (i := 7) sc_law.nd rfl (by first | exact Or.inl rfl | exact Or.inr rfl) (c_lst (ca_cons (c_mulI c_int c_int) (ca_cons (c_mulI c_int c_int) (ca_cons (c_mulI c_int c_int) (ca_cons (c_mulI c_int c_int) (ca_cons (c_mulI (c_mulI c_int c_int) c_int) (ca_cons (c_mulI c_int c_int) (ca_cons (c_mulI (c_mulI c_int c_int) c_int) ca_nil))))))))) (s_cons (s_if (PW.pt (w_or (ct_not (ct_val (c_call ((fn__law_right T).mono (by decide)) hK hr tk rfl T.g__law_right T.k__law_right (ca_cons (c_call ((fn__law_pick T).mono (by decide)) hK hr tk rfl T.g__law_pick T.k__law_pick (ca_cons (c_var (pv 1)) (ca_cons (c_var (pv 7)) ca_nil))) ca_nil)))) (w_or1 (ct_not (ct_val (c_call ((fn__law_right T).mono (by decide)) hK hr tk rfl T.g__law_right T.k__law_right (ca_cons (c_mulI c_int c_int) ca_nil))))))) (s_one (s_ret c_bl)) s_nil) (s_one (s_ret (c_and (c_call ((fn__law_right T).mono (by decide)) hK hr tk rfl T.g__law_right T.k__law_right (ca_cons (c_powI c_int c_int) ca_nil)) (c_and (c_q (q_eq hr.r hK) (c_call ((fn_primes_of T).mono (by decide)) hK hr tk rfl T.g_primes_of T.k_primes_of (ca_cons c_int ca_nil)) (c_tup ca_nil)) (c_one (c_q (q_eq hr.r hK) (c_call ((fn_primes_of T).mono (by decide)) hK hr tk rfl T.g_primes_of T.k_primes_of (ca_cons c_int ca_nil)) (c_tup (ca_cons c_int (ca_cons c_int ca_nil)))))))))))))))
end
abbrev R : PySem.W.OpenRow := PySem.W.OpenLaw.row PySem.Challenge.rw_mendsizes_k15_primes_of_numbers
abbrev hk : PySem.W.Hook := hookB 5 chk fnl
def ob (s : PySem.W.SharedT) : He.AlD := obsBG 5 chk fnl (HandSHeadRun.getT s)
theorem ob_eq (s : PySem.W.SharedT) : ob s = hk.obs s.abs := obsBG_eq (HandSHeadRun.getT_eq s)
def loose : List Str := ["MendError", "BadInput", "BadPattern", "BadSize", "MOST_NUMBER", "_law_pen", "is_integer", "is_between", "primes_of", "_law_draw", "_law_pick", "_law_is_prime", "_law_right", "_law_refused"]
end K15
set_option Elab.async false
set_option linter.all false
set_option maxRecDepth 100000
set_option maxHeartbeats 4000000
namespace K15
open PySem PySem.Spec PyProof.Rows L2 MS
theorem draw_is : sem__law_draw = fnM 7 2 (drawM 65267 313 2147483579 55243 487 2147483629 215 51347 29 2147483587) := rfl
theorem draw {n : Nat} {p : Pn} {many : Int} (hp : PenOk (n + 1) p) (hm : 1 ≤ many) (hM : many < 2 ^ 64) : ∃ r p', sem__law_draw [.pen, .int many] p = some (.val (.int r), p') ∧ 0 ≤ r ∧ r < many ∧ PenOk n p' := by
  rw [draw_is]
  exact draw_ok (by decide) hp hm hM
theorem pick {n : Nat} {p : Pn} {ns : List Int} (hp : PenOk (n + 1) p) (h0 : 0 < ns.length) (h1 : ns.length < 1000) : ∃ r p', r ∈ ns ∧ sem__law_pick [.pen, .lst (ns.map .int)] p = some (.val (.int r), p') ∧ PenOk n p' := by
  obtain ⟨i, p', e, a, b, q⟩ := draw hp (many := ns.length) (by omega) (by omega)
  obtain ⟨r, hr, er⟩ := at_ints a b
  refine ⟨r, p', hr, ?_, q⟩
  simp [sem__law_pick, fnM, m__law_pick, e, er]
theorem is_int (n : Int) (p : Pn) : sem_is_integer [.int n] p = some (.val (.bl true), p) := by
  rfl
theorem between (n : Int) (p : Pn) : sem_is_between [.int n, .int 1, .int 1000000000] p = some (.val (.bl (decide (1 ≤ n) && decide (n ≤ 1000000000))), p) := by
  simp only [sem_is_between, fnM, m_is_between]
  simp [is_int]
  by_cases h : 1 ≤ n <;> simp [h]
theorem refused (p : Pn) : ∀ d ∈ [D.int 0, .int (-7), .bl true, .non, .int 1000000001, .str "12", .tup [.int 12], .lst [.int 12]], sem__law_refused [d] p = some (.val (.bl true), p) := by
  intro d hd
  simp only [List.mem_cons, List.mem_nil_iff, or_false] at hd
  rcases hd with rfl | rfl | rfl | rfl | rfl | rfl | rfl | rfl
  all_goals first | rfl | kernel_rfl
/-! numbers -/
def Pr (q : Nat) : Prop := 1 < q ∧ ∀ d, 2 ≤ d → d * d ≤ q → ¬ d ∣ q
def Ok : Nat → Nat → List Nat → Prop
  | _, l, [] => l = 1
  | a, l, q :: qs => a < q ∧ Pr q ∧ ∃ k l', l = q ^ (k + 1) * l' ∧ ¬ q ∣ l' ∧ Ok q l' qs
theorem Ok.mono {a b l : Nat} {qs : List Nat} (h : Ok b l qs) (hl : a ≤ b) : Ok a l qs := by
  cases qs with
  | nil => exact h
  | cons q qs => exact ⟨by have := h.1; omega, h.2⟩
theorem is_prime {q : Nat} (p : Pn) (h : Pr q) (hq : q ≤ 1000000000) : sem__law_is_prime [.int q] p = some (.val (.bl true), p) := by
  obtain ⟨fl, p', e, z⟩ := sWhile_inv (c := (m2 leI (m2 mulI (mVar 1) (mVar 1)) (mVar 0))) (b := (sSeq (sIf (m2 eqD (m2 modI (mB intD (aCons (mVar 0) aNil)) (mVar 1)) (mC (.int 0))) (sRet (mC (.bl false))) sNil) (sSet 1 (m2 addG (mVar 1) (mC (.int 1))))))
    (fun env p0 => p0 = p ∧ ∃ b : Nat, env = [.im (.int q), .im (.int b)] ∧ 2 ≤ b ∧ b ≤ 1000000001) (fun env _ => match env with
      | [_, .im (.int b)] => 1000000002 - b.toNat
      | _ => 0) (fun fl p0 => p0 = p ∧ ∃ b : Nat, fl = .nx [.im (.int q), .im (.int b)]) (by
    rintro env p0 ⟨rfl, b, rfl, h2, h3⟩
    have hm := mul_ok (i := b) (j := b) (by omega)
    by_cases hb : b * b ≤ q
    · right
      refine ⟨p0, ?_, .inl ⟨[.im (.int q), .im (.int ((b + 1 : Nat) : Int))], p0, ?_, ⟨rfl, b + 1, rfl, by omega, ?_⟩, ?_⟩⟩
      · have : (b : Int) * b ≤ q := by exact_mod_cast hb
        simp [hm, this]
      · have hd : ¬ (q % b = 0) := fun z => h.2 b h2 hb (Nat.dvd_of_mod_eq_zero z)
        have hd' : ¬ (((q % b : Nat) : Int) = 0) := by omega
        have := mod_nat (a := q) (b := b) (by omega)
        simp only [ap_seq, ap_if, ap_2, ap_b, ap_ac, ap_an, ap_var, ap_c, List.getElem?_cons_succ, List.getElem?_cons_zero, bnd_val, bndL_vals, okD_s, int_i, this, eqD_i]
        rw [beq_false_of_ne hd']
        simp
      · have : b ≤ b * b := Nat.le_mul_of_pos_left b (by omega)
        omega
      · show 1000000002 - ((b + 1 : Nat) : Int).toNat < 1000000002 - (b : Int).toNat
        omega
    · left
      refine ⟨p0, ?_, rfl, b, rfl⟩
      have : ¬ (b : Int) * b ≤ q := by exact_mod_cast hb
      simp [hm, this]) (env := [.im (.int q), .im (.int ((2 : Nat) : Int))]) (p := p) ⟨rfl, 2, rfl, by omega, by omega⟩
  obtain ⟨rfl, b, rfl⟩ := z
  have h1 := h.1
  have : (1 : Int) < q := by omega
  refine fn_ret rfl ?_
  unfold m__law_is_prime
  rw [seq_nx (env' := [.im (.int q), .im (.int ((2 : Nat) : Int))]) (p' := p') (by rfl), seq_nx e]
  simp [this]
theorem strip {q l : Nat} (p : Pn) (n f : Sl) (hq : 2 ≤ q) (hq2 : q < 2 ^ 32) (hl : 1 ≤ l) (h0 : q ∣ l) : ∃ k l' : Nat, l = q ^ (k + 1) * l' ∧ ¬ q ∣ l' ∧ 1 ≤ l' ∧ sWhile (m2 eqD (m2 modI (mVar 2) (mVar 3)) (mC (.int 0))) (sSet 2 (m2 divI (mVar 2) (mVar 3))) [n, f, .im (.int l), .im (.int q)] p = some (.nx [n, f, .im (.int l'), .im (.int q)], p) := by
  have S := sWhile_inv (c := (m2 eqD (m2 modI (mVar 2) (mVar 3)) (mC (.int 0)))) (b := (sSet 2 (m2 divI (mVar 2) (mVar 3))))
    (fun env p0 => p0 = p ∧ ∃ k a : Nat, env = [n, f, .im (.int a), .im (.int q)] ∧ l = q ^ k * a ∧ 1 ≤ a) (fun env _ => match env with
      | [_, _, .im (.int b), _] => b.toNat
      | _ => 0) (fun fl p0 => p0 = p ∧ ∃ k a : Nat, fl = .nx [n, f, .im (.int a), .im (.int q)] ∧ l = q ^ k * a ∧ 1 ≤ a ∧ ¬ q ∣ a) (by
    rintro env p0 ⟨rfl, k, a, rfl, e, h1⟩
    have hm := mod_nat (a := a) (b := q) (by omega)
    have hd := div_nat (a := a) (b := q) (by omega) (by omega)
    by_cases hz : q ∣ a
    · right
      obtain ⟨c, rfl⟩ := hz
      have hc : 1 ≤ c := by
        rcases Nat.eq_zero_or_pos c with rfl | h
        · simp at h1
        · exact h
      have z1 : q * c % q = 0 := Nat.mul_mod_right q c
      have z2 : q * c / q = c := Nat.mul_div_cancel_left c (by omega)
      rw [z1] at hm
      rw [z2] at hd
      refine ⟨p0, ?_, .inl ⟨[n, f, .im (.int c), .im (.int q)], p0, ?_, ⟨rfl, k + 1, c, rfl, ?_, hc⟩, ?_⟩⟩
      · simp only [ap_2, ap_var, ap_c, List.getElem?_cons_succ, List.getElem?_cons_zero, bnd_val, okD_s, hm, eqD_i]
        rfl
      · simp only [ap_set, ap_2, ap_var, ap_c, List.getElem?_cons_succ, List.getElem?_cons_zero, bnd_val, okD_s, hd]
        rfl
      · rw [e, Nat.pow_succ, Nat.mul_assoc]
      · show (c : Int).toNat < ((q * c : Nat) : Int).toNat
        have : 2 * c ≤ q * c := Nat.mul_le_mul_right c hq
        omega
    · left
      refine ⟨p0, ?_, rfl, k, a, rfl, e, h1, hz⟩
      have hd' : ¬ (((a % q : Nat) : Int) = 0) := fun z => hz (Nat.dvd_of_mod_eq_zero (by omega))
      simp only [ap_2, ap_var, ap_c, List.getElem?_cons_succ, List.getElem?_cons_zero, bnd_val, okD_s, hm, eqD_i]
      rw [beq_false_of_ne hd']) (env := [n, f, .im (.int l), .im (.int q)]) (p := p) ⟨rfl, 0, l, rfl, by simp, hl⟩
  obtain ⟨fl, p', e, rfl, k, a, rfl, e2, h1, h2⟩ := S
  cases k with
  | zero => exact absurd (by simpa [e2] using h0) h2
  | succ k => exact ⟨k, a, e2, h2, h1, e⟩
theorem primes {n : Nat} (p : Pn) (h1 : 1 ≤ n) (h2 : n ≤ 1000000000) : ∃ qs : List Nat, Ok 1 n qs ∧ (∀ q ∈ qs, q ≤ 1000000000) ∧ sem_primes_of [.int n] p = some (.val (.tup (qs.map fun q => .int (q : Nat))), p) := by
  have S := sWhile_inv (c := (m2 leI (m2 mulI (mVar 3) (mVar 3)) (mVar 2))) (b := (sSeq (sIf (m2 eqD (m2 modI (mVar 2) (mVar 3)) (mC (.int 0))) (sSeq (sAppend 1 (mVar 3)) (sWhile (m2 eqD (m2 modI (mVar 2) (mVar 3)) (mC (.int 0))) (sSet 2 (m2 divI (mVar 2) (mVar 3))))) sNil) (sAug 3 addI (mIf (m2 eqD (mVar 3) (mC (.int 2))) (mC (.int 1)) (mC (.int 2))))))
    (fun env p0 => p0 = p ∧ ∃ (fs : List Nat) (l q : Nat), env = [.im (.int n), .own (fs.map fun q => .int (q : Nat)), .im (.int l), .im (.int q)] ∧ (∀ rest, Ok (q - 1) l rest → Ok 1 n (fs ++ rest)) ∧ (∀ f ∈ fs, f ≤ 40000) ∧ 1 ≤ l ∧ l ≤ n ∧ 2 ≤ q ∧ q ≤ 40002 ∧ fs.length + 2 ≤ q ∧ (q = 2 ∨ q % 2 = 1) ∧ ∀ d, 2 ≤ d → d < q → ¬ d ∣ l) (fun env _ => match env with
      | [_, _, _, .im (.int b)] => 40003 - b.toNat
      | _ => 0) (fun fl p0 => p0 = p ∧ ∃ (fs : List Nat) (l q : Nat), fl = .nx [.im (.int n), .own (fs.map fun q => .int (q : Nat)), .im (.int l), .im (.int q)] ∧ (∀ rest, Ok (q - 1) l rest → Ok 1 n (fs ++ rest)) ∧ (∀ f ∈ fs, f ≤ 40000) ∧ 1 ≤ l ∧ l ≤ n ∧ fs.length ≤ 40000 ∧ l < q * q ∧ 2 ≤ q ∧ ∀ d, 2 ≤ d → d < q → ¬ d ∣ l) (by
    rintro env p0 ⟨rfl, fs, l, q, rfl, hr, hf, hl, hn, hq, hq2, hfl, ho, hd⟩
    have hm := mul_ok (i := q) (j := q) (by omega)
    by_cases hb : q * q ≤ l
    · right
      have q4 : q < 40000 := by
        rcases Nat.lt_or_ge q 40000 with h | h
        · exact h
        · have := Nat.mul_le_mul h h
          omega
      have hle : (q : Int) * q ≤ l := by exact_mod_cast hb
      have hmod := mod_nat (a := l) (b := q) (by omega)
      refine ⟨p0, by simp [hm, hle], .inl ?_⟩
      -- the next candidate
      have nxt : ∃ q' : Nat, q < q' ∧ q' ≤ 40002 ∧ q' % 2 = 1 ∧ (∀ d, d < q' → d < q ∨ d = q ∨ (d % 2 = 0 ∧ 2 < q)) ∧ ∀ (a b c : Sl), sAug 3 addI (mIf (m2 eqD (mVar 3) (mC (.int 2))) (mC (.int 1)) (mC (.int 2))) [a, b, c, .im (.int q)] p0 = some (.nx [a, b, c, .im (.int q')], p0) := by
        by_cases z : q = 2
        · subst z
          exact ⟨3, by omega, by omega, by omega, fun d h => by omega, fun a b c => rfl⟩
        · refine ⟨q + 2, by omega, by omega, by omega, fun d h => by omega, fun a b c => ?_⟩
          have z' : ¬ ((q : Int) = 2) := by omega
          simp only [ap_aug, ap_ifx, ap_2, ap_var, ap_c, List.getElem?_cons_succ, List.getElem?_cons_zero, bnd_val, okD_s, eqD_i, beq_false_of_ne z']
          rfl
      obtain ⟨q', g1, g2, g3, g4, g5⟩ := nxt
      by_cases hz : q ∣ l
      · obtain ⟨k, l', e, e2, e3, e4⟩ := strip p0 (.im (.int n)) (.own ((fs ++ [q]).map fun q => .int (q : Nat))) hq (by omega) hl hz
        have dv : l' ∣ l := ⟨q ^ (k + 1), by rw [e, Nat.mul_comm]⟩
        have pq : Pr q := ⟨by omega, fun d d2 dd hx => hd d d2 (by
          rcases Nat.lt_or_ge d q with h | h
          · exact h
          · have : 2 * d ≤ d * d := Nat.mul_le_mul_right d d2
            omega) (Nat.dvd_trans hx hz)⟩
        have nd : ∀ d, 2 ≤ d → d < q' → ¬ d ∣ l' := fun d d2 dq hx => by
          rcases g4 d dq with h | h | ⟨h, h'⟩
          · exact hd d d2 h (Nat.dvd_trans hx dv)
          · exact e2 (h ▸ hx)
          · exact hd 2 (by omega) h' (Nat.dvd_trans (Nat.dvd_trans (Nat.dvd_of_mod_eq_zero h) hx) dv)
        refine ⟨_, p0, ?_, ⟨rfl, fs ++ [q], l', q', rfl, fun rest hk => ?_, fun f hf' => ?_, e3, ?_, by omega, g2, ?_, .inr g3, nd⟩, ?_⟩
        · have z1 : l % q = 0 := Nat.mod_eq_zero_of_dvd hz
          rw [z1] at hmod
          have len : (fs.map fun q : Nat => D.int (q : Nat)).length < 1000000 := by rw [List.length_map]; omega
          rw [seq_nx (env' := [.im (.int n), .own ((fs ++ [q]).map fun q => .int (q : Nat)), .im (.int l'), .im (.int q)]) (p' := p0) (by
            simp only [ap_if, ap_2, ap_var, ap_c, List.getElem?_cons_succ, List.getElem?_cons_zero, bnd_val, okD_s, hmod, eqD_i]
            rw [if_pos (show (((0 : Nat) : Int) == 0) = true from rfl), seq_nx (env' := [.im (.int n), .own ((fs ++ [q]).map fun q => .int (q : Nat)), .im (.int l), .im (.int q)]) (p' := p0) (by
              simp only [ap_app, ap_var, List.getElem?_cons_succ, List.getElem?_cons_zero, if_pos len]
              simp)]
            exact e4)]
          exact g5 _ _ _
        · rw [List.append_assoc]
          exact hr _ ⟨by omega, pq, k, l', e, e2, hk.mono (by omega)⟩
        · rcases List.mem_append.mp hf' with h | h
          · exact hf f h
          · simp at h; omega
        · have := Nat.le_of_dvd hl dv
          omega
        · simp; omega
        · show 40003 - (q' : Int).toNat < 40003 - (q : Int).toNat
          omega
      · refine ⟨_, p0, ?_, ⟨rfl, fs, l, q', rfl, fun rest hk => hr rest (hk.mono (by omega)), hf, hl, hn, by omega, g2, by omega, .inr g3, fun d d2 dq hx => ?_⟩, ?_⟩
        · have hd' : ¬ (((l % q : Nat) : Int) = 0) := fun z => hz (Nat.dvd_of_mod_eq_zero (by omega))
          rw [seq_nx (env' := [.im (.int n), .own (fs.map fun q => .int (q : Nat)), .im (.int l), .im (.int q)]) (p' := p0) (by
            simp only [ap_if, ap_2, ap_var, ap_c, List.getElem?_cons_succ, List.getElem?_cons_zero, bnd_val, okD_s, hmod, eqD_i, beq_false_of_ne hd']
            rfl)]
          exact g5 _ _ _
        · rcases g4 d dq with h | h | ⟨h, h'⟩
          · exact hd d d2 h hx
          · exact hz (h ▸ hx)
          · exact hd 2 (by omega) h' (Nat.dvd_trans (Nat.dvd_of_mod_eq_zero h) hx)
        · show 40003 - (q' : Int).toNat < 40003 - (q : Int).toNat
          omega
    · left
      have : ¬ (q : Int) * q ≤ l := by exact_mod_cast hb
      exact ⟨p0, by simp [hm, this], rfl, fs, l, q, rfl, hr, hf, hl, hn, by omega, by omega, hq, hd⟩) (env := [.im (.int n), .own [], .im (.int n), .im (.int ((2 : Nat) : Int))]) (p := p) ⟨rfl, [], n, 2, rfl, fun rest h => h, by simp, h1, by omega, by omega, by omega, by simp, .inl rfl, fun d a b => by omega⟩
  obtain ⟨fl, p', e, rfl, fs, l, q, rfl, hr, hf, hl, hn, hfl, hlt, hq, hd⟩ := S
  have b1 : (1 : Int) ≤ n := by omega
  have b2 : (n : Int) ≤ 1000000000 := by omega
  have head : ∀ qs : List Nat, (sSeq (sWhile (m2 leI (m2 mulI (mVar 3) (mVar 3)) (mVar 2)) (sSeq (sIf (m2 eqD (m2 modI (mVar 2) (mVar 3)) (mC (.int 0))) (sSeq (sAppend 1 (mVar 3)) (sWhile (m2 eqD (m2 modI (mVar 2) (mVar 3)) (mC (.int 0))) (sSet 2 (m2 divI (mVar 2) (mVar 3))))) sNil) (sAug 3 addI (mIf (m2 eqD (mVar 3) (mC (.int 2))) (mC (.int 1)) (mC (.int 2)))))) (sFrz 1 (sRet (mB tupleD (aCons (mIf (m2 eqD (mVar 2) (mC (.int 1))) (mVar 1) (mB lstD (aStar (mVar 1) (aCons (mVar 2) aNil)))) aNil))))) [.im (.int n), .own [], .im (.int n), .im (.int ((2 : Nat) : Int))] p' = some (.ret (.tup (qs.map fun q => .int (q : Nat))), p') → sem_primes_of [.int n] p' = some (.val (.tup (qs.map fun q => .int (q : Nat))), p') := fun qs h => by
    refine fn_ret rfl ?_
    unfold m_primes_of
    rw [seq_nx (env' := [.im (.int n), .emp, .emp, .emp]) (p' := p') (by simp [between, b1, b2]),
      seq_nx (env' := [.im (.int n), .own [], .im (.int n), .im (.int ((2 : Nat) : Int))]) (p' := p') (by rfl)]
    exact h
  by_cases hone : l = 1
  · refine ⟨fs, by simpa using hr [] (by exact hone), fun q hq => by have := hf q hq; omega, head fs ?_⟩
    rw [seq_nx e]
    subst hone
    rfl
  · have hql : q ≤ l := by
      rcases Nat.lt_or_ge l q with h | h
      · exact absurd (Nat.dvd_refl l) (hd l (by omega) h)
      · exact h
    refine ⟨fs ++ [l], hr [l] ⟨by omega, ⟨by omega, fun d d2 dd => hd d d2 ?_⟩, 0, 1, by simp, ?_, rfl⟩, fun f hf' => ?_, head _ ?_⟩
    · rcases Nat.lt_or_ge d q with h | h
      · exact h
      · have := Nat.mul_le_mul h h
        omega
    · intro z
      have := Nat.le_of_dvd (by omega) z
      omega
    · rcases List.mem_append.mp hf' with h | h
      · have := hf f h; omega
      · simp at h; omega
    · rw [seq_nx e]
      have z : ¬ ((l : Int) = 1) := by omega
      have len : (fs.map (fun q : Nat => D.int (q : Nat)) ++ [D.int l]).length ≤ 1000000 := by simp; omega
      have lst : lstD (fs.map (fun q : Nat => D.int (q : Nat)) ++ [D.int l]) = some (.lst (fs.map (fun q : Nat => D.int (q : Nat)) ++ [D.int l])) := if_pos len
      simp only [ap_frz, ap_ret, ap_b, ap_ac, ap_an, ap_ifx, ap_2, ap_var, ap_c, ap_as, List.getElem?_cons_succ, List.getElem?_cons_zero, List.set_cons_succ, List.set_cons_zero, bnd_val, bndL_vals, okD_s, eqD_i, beq_false_of_ne z]
      simp [lst]
theorem pow30 {q k l : Nat} (hq : 2 ≤ q) (hl : 1 ≤ l) (h : q ^ k * l ≤ 1000000000) : k ≤ 30 := by
  rcases Nat.lt_or_ge 30 k with h' | h'
  · have a : 2 ^ k ≤ q ^ k := Nat.pow_le_pow_left hq k
    have b : 2 ^ 31 ≤ 2 ^ k := Nat.pow_le_pow_right (by omega) h'
    have c : q ^ k * 1 ≤ q ^ k * l := Nat.mul_le_mul_left _ hl
    omega
  · exact h'
theorem right {n : Nat} (p : Pn) (h1 : 1 ≤ n) (h2 : n ≤ 1000000000) : sem__law_right [.int n] p = some (.val (.bl true), p) := by
  obtain ⟨qs, hk, hq, e⟩ := primes p h1 h2
  refine fn_ret rfl ?_
  unfold m__law_right
  generalize ht : D.tup (qs.map fun q => .int (q : Nat)) = told at e
  rw [seq_nx (env' := [.im (.int n), .im told, .emp, .emp, .emp, .emp, .emp]) (p' := p) (by simp [e])]
  rw [seq_nx (env' := [.im (.int n), .im told, .emp, .emp, .emp, .emp, .emp]) (p' := p) (by
    subst ht
    have t1 : isaD CTb [.tup (qs.map fun q => .int (q : Nat)), .ty "tuple"] = some (.bl true) := rfl
    have lc : mLc (wSeq (mVar 1)) [6] (bName 6) (mOr (mNot (mB (isaD CTb) (aCons (mVar 6) (aCons (mC (.ty "int")) aNil)))) (mB (isaD CTb) (aCons (mVar 6) (aCons (mC (.ty "bool")) aNil)))) (mVar 6) [.im (.int n), .im (.tup (qs.map fun q => .int (q : Nat))), .emp, .emp, .emp, .emp, .emp] p = some (.val (.lst []), p) := by
      exact lc_val (xs := qs.map fun q => .int (q : Nat)) rfl rfl (lc_none fun x hx => by
        obtain ⟨q, _, rfl⟩ := List.mem_map.mp hx
        exact ⟨_, rfl, rfl⟩) (by simp)
    simp only [ap_if, ap_or, ap_not, ap_b, ap_ac, ap_an, ap_var, ap_c, ap_2, List.getElem?_cons_succ, List.getElem?_cons_zero, bnd_val, bndL_vals, okD_s, t1, lc]
    rfl)]
  rw [seq_nx (env' := [.im (.int n), .im told, .im (.int n), .im (.int ((1 : Nat) : Int)), .emp, .emp, .emp]) (p' := p) (by rfl)]
  obtain ⟨env', p', e2, rfl, l, a, x, y, rfl, hl⟩ := for_inv (g := bName 4) (b := (sSeq (sIf (mOr (m2 leI (mVar 4) (mVar 3)) (mOr (mNot (mArgs sem__law_is_prime (aCons (mVar 4) aNil))) (m2 neD (m2 modI (mB intD (aCons (mVar 2) aNil)) (mVar 4)) (mC (.int 0))))) (sRet (mC (.bl false))) sNil) (sSeq (sFor (wR1 (aCons (mC (.int 30)) aNil)) (bName 5) (sSet 2 (mIf (m2 eqD (m2 modI (mB intD (aCons (mVar 2) aNil)) (mVar 4)) (mC (.int 0))) (m2 divI (mVar 2) (mVar 4)) (mVar 2)))) (sSet 3 (mVar 4)))))
    (fun i env p0 => p0 = p ∧ ∃ (l a : Nat) (x y : Sl), env = [.im (.int n), .im told, .im (.int l), .im (.int a), x, y, .emp] ∧ Ok a l (qs.drop i) ∧ 1 ≤ l ∧ l ≤ 1000000000) (qs.map fun q => .int (q : Nat)) 0 [.im (.int n), .im told, .im (.int n), .im (.int ((1 : Nat) : Int)), .emp, .emp, .emp] p ⟨rfl, n, 1, .emp, .emp, rfl, hk, h1, h2⟩ (by
      rintro i z env p0 hz ⟨rfl, l, a, x, y, rfl, ho, l1, l2⟩
      rw [Nat.zero_add] at ho ⊢
      rw [List.getElem?_map, Option.map_eq_some_iff] at hz
      obtain ⟨q, hi, rfl⟩ := hz
      obtain ⟨hlt, hq'⟩ := List.getElem?_eq_some_iff.mp hi
      rw [List.drop_eq_getElem_cons hlt, hq'] at ho
      obtain ⟨o1, o2, k, l', rfl, o4, o5⟩ := ho
      have hqb := hq q (hq' ▸ List.getElem_mem hlt)
      have q2 := o2.1
      have l'1 : 1 ≤ l' := by
        rcases Nat.eq_zero_or_pos l' with rfl | h
        · simp at l1
        · exact h
      have k30 := pow30 (by omega) l'1 l2
      obtain ⟨env3, p3, e3, rfl, y3, rfl⟩ := for_inv (g := bName 5) (b := (sSet 2 (mIf (m2 eqD (m2 modI (mB intD (aCons (mVar 2) aNil)) (mVar 4)) (mC (.int 0))) (m2 divI (mVar 2) (mVar 4)) (mVar 2))))
        (fun j env p1 => p1 = p0 ∧ ∃ y, env = [.im (.int n), .im told, .im (.int ((q ^ (k + 1 - j) * l' : Nat) : Int)), .im (.int a), .im (.int q), y, .emp]) (rangeD 0 30) 0 [.im (.int n), .im told, .im (.int ((q ^ (k + 1) * l' : Nat) : Int)), .im (.int a), .im (.int q), y, .emp] p0 ⟨rfl, y, rfl⟩ (by
          rintro j z env p1 hz ⟨rfl, y, rfl⟩
          rw [Nat.zero_add]
          refine ⟨[.im (.int n), .im told, .im (.int ((q ^ (k + 1 - j) * l' : Nat) : Int)), .im (.int a), .im (.int q), .im z, .emp], _, p1, rfl, ?_, rfl, .im z, rfl⟩
          by_cases hj : j < k + 1
          · have e1 : k + 1 - j = (k + 1 - (j + 1)) + 1 := by omega
            generalize k + 1 - (j + 1) = w at e1
            have e2 : q ^ (k + 1 - j) * l' = q * (q ^ w * l') := by rw [e1, Nat.pow_succ, Nat.mul_comm (q ^ w) q, Nat.mul_assoc]
            rw [e2]
            have hm := mod_nat (a := q * (q ^ w * l')) (b := q) (by omega)
            have hd := div_nat (a := q * (q ^ w * l')) (b := q) (by omega) (by omega)
            rw [Nat.mul_mod_right] at hm
            rw [Nat.mul_div_cancel_left _ (by omega)] at hd
            simp only [ap_set, ap_ifx, ap_2, ap_b, ap_ac, ap_an, ap_var, ap_c, List.getElem?_cons_succ, List.getElem?_cons_zero, bnd_val, bndL_vals, okD_s, int_i, hm, hd, eqD_i]
            rfl
          · have e1 : k + 1 - j = 0 := by omega
            have e2 : k + 1 - (j + 1) = 0 := by omega
            rw [e1, e2, Nat.pow_zero, Nat.one_mul]
            have hm := mod_nat (a := l') (b := q) (by omega)
            have hd' : ¬ (((l' % q : Nat) : Int) = 0) := fun z => o4 (Nat.dvd_of_mod_eq_zero (by omega))
            simp only [ap_set, ap_ifx, ap_2, ap_b, ap_ac, ap_an, ap_var, ap_c, List.getElem?_cons_succ, List.getElem?_cons_zero, bnd_val, bndL_vals, okD_s, int_i, hm, eqD_i, beq_false_of_ne hd']
            rfl)
      have z0 : k + 1 - (0 + (rangeD 0 30).length) = 0 := by
        have : (rangeD 0 30).length = 30 := by simp [rangeD]
        omega
      rw [z0, Nat.pow_zero, Nat.one_mul] at e3
      refine ⟨[.im (.int n), .im told, .im (.int ((q ^ (k + 1) * l' : Nat) : Int)), .im (.int a), .im (.int q), y, .emp], _, p3, rfl, ?_, rfl, l', q, .im (.int q), y3, rfl, o5, l'1, ?_⟩
      · have hm := mod_nat (a := q ^ (k + 1) * l') (b := q) (by omega)
        rw [show q ^ (k + 1) * l' % q = 0 by rw [Nat.pow_succ, Nat.mul_comm (q ^ k) q, Nat.mul_assoc]; exact Nat.mul_mod_right _ _] at hm
        have ip := is_prime p3 o2 hqb
        have nl : ¬ ((q : Int) ≤ a) := by omega
        rw [seq_nx (env' := [.im (.int n), .im told, .im (.int ((q ^ (k + 1) * l' : Nat) : Int)), .im (.int a), .im (.int q), y, .emp]) (p' := p3) (by
          simp only [ap_if, ap_or, ap_not, ap_2, ap_b, ap_args, ap_ac, ap_an, ap_var, ap_c, List.getElem?_cons_succ, List.getElem?_cons_zero, bnd_val, bndL_vals, okD_s, int_i, hm, ip, neD_i, leI_i, decide_eq_false nl]
          rfl)]
        rw [seq_nx (env' := [.im (.int n), .im told, .im (.int l'), .im (.int a), .im (.int q), y3, .emp]) (p' := p3) (by
          rw [ap_for]
          exact e3)]
        rfl
      · have := Nat.mul_le_mul_right l' (Nat.pow_pos (n := k + 1) (show 0 < q by omega))
        omega)
  rw [seq_nx (env' := [.im (.int n), .im told, .im (.int l), .im (.int a), x, y, .emp]) (p' := p') (by
    subst ht
    exact e2)]
  have : l = 1 := by
    have := hl.1
    rw [Nat.zero_add, List.length_map, List.drop_length] at this
    exact this
  subst this
  rfl
theorem p1 (p : Pn) : sem_primes_of [.int 1] p = some (.val (.tup []), p) := by
  refine fn_ret rfl ?_
  unfold m_primes_of
  rw [seq_nx (env' := [.im (.int 1), .emp, .emp, .emp]) (p' := p) (by rfl), seq_nx (env' := [.im (.int 1), .own [], .im (.int 1), .im (.int 2)]) (p' := p) (by rfl), seq_nx (sWhile_end (p1 := p) rfl)]
  rfl
theorem p2047 (p : Pn) : sem_primes_of [.int 2047] p = some (.val (.tup [.int 23, .int 89]), p) := by
  refine fn_ret rfl ?_
  unfold m_primes_of
  rw [seq_nx (env' := [.im (.int 2047), .emp, .emp, .emp]) (p' := p) (by rfl), seq_nx (env' := [.im (.int 2047), .own [], .im (.int 2047), .im (.int 2)]) (p' := p) (by rfl)]
  rw [seq_nx (env' := [.im (.int 2047), .own [.int 23], .im (.int 89), .im (.int 25)]) (p' := p) ?_]
  · rfl
  refine sWhile_step (p1 := p) (p' := p) (env' := [.im (.int 2047), .own [], .im (.int 2047), .im (.int 3)]) rfl rfl ?_
  refine sWhile_step (p1 := p) (p' := p) (env' := [.im (.int 2047), .own [], .im (.int 2047), .im (.int 5)]) rfl rfl ?_
  refine sWhile_step (p1 := p) (p' := p) (env' := [.im (.int 2047), .own [], .im (.int 2047), .im (.int 7)]) rfl rfl ?_
  refine sWhile_step (p1 := p) (p' := p) (env' := [.im (.int 2047), .own [], .im (.int 2047), .im (.int 9)]) rfl rfl ?_
  refine sWhile_step (p1 := p) (p' := p) (env' := [.im (.int 2047), .own [], .im (.int 2047), .im (.int 11)]) rfl rfl ?_
  refine sWhile_step (p1 := p) (p' := p) (env' := [.im (.int 2047), .own [], .im (.int 2047), .im (.int 13)]) rfl rfl ?_
  refine sWhile_step (p1 := p) (p' := p) (env' := [.im (.int 2047), .own [], .im (.int 2047), .im (.int 15)]) rfl rfl ?_
  refine sWhile_step (p1 := p) (p' := p) (env' := [.im (.int 2047), .own [], .im (.int 2047), .im (.int 17)]) rfl rfl ?_
  refine sWhile_step (p1 := p) (p' := p) (env' := [.im (.int 2047), .own [], .im (.int 2047), .im (.int 19)]) rfl rfl ?_
  refine sWhile_step (p1 := p) (p' := p) (env' := [.im (.int 2047), .own [], .im (.int 2047), .im (.int 21)]) rfl rfl ?_
  refine sWhile_step (p1 := p) (p' := p) (env' := [.im (.int 2047), .own [], .im (.int 2047), .im (.int 23)]) rfl rfl ?_
  refine sWhile_step (p1 := p) (p' := p) (env' := [.im (.int 2047), .own [.int 23], .im (.int 89), .im (.int 25)]) rfl ?_ (sWhile_end rfl)
  rw [seq_nx (env' := [.im (.int 2047), .own [.int 23], .im (.int 89), .im (.int 23)]) (p' := p) ?_]
  · rfl
  rw [ap_if]
  rw [show (m2 eqD (m2 modI (mVar 2) (mVar 3)) (mC (.int 0))) [.im (.int 2047), .own [], .im (.int 2047), .im (.int 23)] p = some (.val (.bl true), p) from rfl]
  dsimp only
  rw [if_pos rfl, seq_nx (env' := [.im (.int 2047), .own [.int 23], .im (.int 2047), .im (.int 23)]) (p' := p) (by rfl)]
  refine sWhile_step (p1 := p) (p' := p) (env' := [.im (.int 2047), .own [.int 23], .im (.int 89), .im (.int 23)]) rfl rfl (sWhile_end rfl)
def sm : List Int := [2, 2, 2, 3, 3, 5, 7, 11, 13, 31, 47, 73, 89, 97]
def wide : List Int := [1009 * 1013, 8191 * 8191, 8191 * 65537, 10007 * 10009, 2 * 8191 * 8191, 997 * 999983, 1013 * 1013 * 2]
theorem rightI {n : Int} (p : Pn) (h1 : 1 ≤ n) (h2 : n ≤ 1000000000) : sem__law_right [.int n] p = some (.val (.bl true), p) := by
  have := right (n := n.toNat) p (by omega) (by omega)
  rw [show ((n.toNat : Nat) : Int) = n by omega] at this
  exact this
theorem body {n : Nat} {p : Pn} {x y z : Sl} (hp : PenOk (n + 7) p) : ∃ y' z' p', (sSeq (sSet 4 (mC (.int 1))) (sSeq (sFor (wR1 (aCons (mArgs sem__law_draw (aCons (mVar 1) (aCons (mC (.int 5)) aNil))) aNil)) (bName 5) (sSet 4 (m2 mulI (mVar 4) (mArgs sem__law_pick (aCons (mVar 1) (aCons (mVar 2) aNil)))))) (sSeq (sSet 4 (m2 mulI (mVar 4) (mArgs sem__law_pick (aCons (mVar 1) (aCons (mB lstD (aCons (mC (.int 1)) (aCons (mC (.int 1)) (aCons (mC (.int 127)) (aCons (mC (.int 601)) (aCons (mC (.int 683)) (aCons (mC (.int 997)) aNil))))))) aNil))))) (sIf (mOr (mAnd (m2 leI (mVar 4) (m2 powI (mC (.int 10)) (mC (.int 9)))) (mNot (mArgs sem__law_right (aCons (mVar 4) aNil)))) (mNot (mArgs sem__law_right (aCons (m2 addG (mC (.int 1)) (mArgs sem__law_draw (aCons (mVar 1) (aCons (m2 powI (mC (.int 10)) (mC (.int 6))) aNil)))) aNil)))) (sRet (mC (.bl false))) sNil)))) [.emp, .im .pen, .im (.lst (sm.map .int)), x, y, z, .emp, .emp, .emp] p = some (.nx [.emp, .im .pen, .im (.lst (sm.map .int)), x, y', z', .emp, .emp, .emp], p') ∧ PenOk n p' := by
  obtain ⟨r, p1, e1, r0, r1, hp1⟩ := draw (n := n + 6) (many := 5) hp (by omega) (by omega)
  rw [seq_nx (env' := [.emp, .im .pen, .im (.lst (sm.map .int)), x, .im (.int 1), z, .emp, .emp, .emp]) (p' := p) (by rfl)]
  obtain ⟨env', p', e2, m, z', rfl, m1, m2', hp2⟩ := for_inv (g := bName 5) (b := (sSet 4 (m2 mulI (mVar 4) (mArgs sem__law_pick (aCons (mVar 1) (aCons (mVar 2) aNil))))))
    (fun i env p0 => ∃ (m : Int) (z' : Sl), env = [.emp, .im .pen, .im (.lst (sm.map .int)), x, .im (.int m), z', .emp, .emp, .emp] ∧ 1 ≤ m ∧ m ≤ 97 ^ i ∧ PenOk (n + 6 - i) p0) (rangeD 0 r) 0 [.emp, .im .pen, .im (.lst (sm.map .int)), x, .im (.int 1), z, .emp, .emp, .emp] p1 ⟨1, z, rfl, by omega, by simp, hp1⟩ (by
      rintro i d env p0 hd ⟨m, z', rfl, m1, m2', hp2⟩
      rw [Nat.zero_add] at m2' hp2 ⊢
      have hi : i < 4 := by
        have := (List.getElem?_eq_some_iff.mp hd).1
        simp [rangeD] at this
        omega
      have b97 : (97 : Int) ^ i ≤ 97 ^ 4 := by
        match i, hi with
        | 0, _ => decide
        | 1, _ => decide
        | 2, _ => decide
        | 3, _ => decide
      rw [show n + 6 - i = (n + 6 - (i + 1)) + 1 by omega] at hp2
      obtain ⟨k, p3, hk, e3, hp3⟩ := pick (ns := sm) hp2 (by decide) (by decide)
      have kb : 1 ≤ k ∧ k ≤ 97 := by
        have : ∀ k ∈ sm, 1 ≤ k ∧ k ≤ 97 := by decide
        exact this k hk
      refine ⟨[.emp, .im .pen, .im (.lst (sm.map .int)), x, .im (.int m), .im d, .emp, .emp, .emp], _, p3, rfl, ?_, m * k, .im d, rfl, ?_, ?_, hp3⟩
      · simp only [ap_set, ap_2, ap_args, ap_ac, ap_an, ap_var, List.getElem?_cons_succ, List.getElem?_cons_zero, bnd_val, bndL_vals, okD_s, e3, mul_ok (show m.natAbs < 2 ^ 64 by omega)]
        rfl
      · have := Int.mul_le_mul m1 kb.1 (by omega) (by omega)
        omega
      · rw [Int.pow_succ]
        exact Int.mul_le_mul m2' kb.2 (by omega) (by omega))
  have hr : (rangeD 0 r).length ≤ 4 := by simp [rangeD]; omega
  rw [Nat.zero_add] at m2' hp2
  generalize (rangeD 0 r).length = len at *
  have b97 : (97 : Int) ^ len ≤ 97 ^ 4 := by
    match len, hr with
    | 0, _ => decide
    | 1, _ => decide
    | 2, _ => decide
    | 3, _ => decide
    | 4, _ => decide
  rw [seq_nx (env' := [.emp, .im .pen, .im (.lst (sm.map .int)), x, .im (.int m), z', .emp, .emp, .emp]) (p' := p') (by
    have w : wR1 (aCons (mArgs sem__law_draw (aCons (mVar 1) (aCons (mC (.int 5)) aNil))) aNil) [.emp, .im .pen, .im (.lst (sm.map .int)), x, .im (.int 1), z, .emp, .emp, .emp] p = some (.vals (rangeD 0 r), p1) := by
      unfold wR1
      simp [e1]
      omega
    rw [ap_for, w]
    exact e2)]
  obtain ⟨k, p3, hk, e3, hp3⟩ := pick (n := n + 1) (ns := [1, 1, 127, 601, 683, 997]) (hp2.mono (by omega)) (by decide) (by decide)
  have kb : 1 ≤ k ∧ k ≤ 997 := by
    have : ∀ k ∈ ([1, 1, 127, 601, 683, 997] : List Int), 1 ≤ k ∧ k ≤ 997 := by decide
    exact this k hk
  have mk : 1 ≤ m * k := by
    have := Int.mul_le_mul m1 kb.1 (by omega) (by omega)
    omega
  rw [seq_nx (env' := [.emp, .im .pen, .im (.lst (sm.map .int)), x, .im (.int (m * k)), z', .emp, .emp, .emp]) (p' := p3) (by
    have l6 : lstD [.int 1, .int 1, .int 127, .int 601, .int 683, .int 997] = some (.lst ([1, 1, 127, 601, 683, 997].map .int)) := rfl
    simp only [ap_set, ap_2, ap_args, ap_b, ap_ac, ap_an, ap_var, ap_c, List.getElem?_cons_succ, List.getElem?_cons_zero, bnd_val, bndL_vals, okD_s, l6, e3, mul_ok (show m.natAbs < 2 ^ 64 by omega)]
    rfl)]
  obtain ⟨j, p4, e4, j0, j1, hp4⟩ := draw (n := n) (many := 10 ^ 6) hp3 (by omega) (by omega)
  refine ⟨.im (.int (m * k)), z', p4, ?_, hp4⟩
  have t9 : powI (.int 10) (.int 9) = some (.int (10 ^ 9)) := pow_ok (n := 9) (by omega) (by omega)
  have t6 : powI (.int 10) (.int 6) = some (.int (10 ^ 6)) := pow_ok (n := 6) (by omega) (by omega)
  have R2 := rightI (n := 1 + j) p4 (by omega) (by omega)
  generalize m * k = w at mk
  by_cases hw : w ≤ 10 ^ 9
  · have R1 := rightI (n := w) p3 mk (by omega)
    simp only [ap_if, ap_or, ap_and, ap_not, ap_2, ap_args, ap_ac, ap_an, ap_var, ap_c, List.getElem?_cons_succ, List.getElem?_cons_zero, bnd_val, bndL_vals, okD_s, t9, t6, leI_i, decide_eq_true hw, R1, R2, e4, addG_i, if_true]
    rfl
  · simp only [ap_if, ap_or, ap_and, ap_not, ap_2, ap_args, ap_ac, ap_an, ap_var, ap_c, List.getElem?_cons_succ, List.getElem?_cons_zero, bnd_val, bndL_vals, okD_s, t9, t6, leI_i, decide_eq_false hw, R2, e4, addG_i]
    simp only [Bool.false_eq_true, if_false, bndL_vals, e4, bnd_val, okD_s, R2, addG_i]
    rfl
theorem law_true : LawTrue 9 m_law := by
  intro ns _
  have t9 : powI (.int 10) (.int 9) = some (.int (10 ^ 9)) := pow_ok (n := 9) (by omega) (by omega)
  have hp := pen0_ok ns
  generalize pen0 ns = p at hp
  unfold m_law
  rw [show env1 9 = [.emp, .im .pen, .emp, .emp, .emp, .emp, .emp, .emp, .emp] from rfl]
  rw [seq_nx (env' := [.emp, .im .pen, .im (.lst (sm.map .int)), .emp, .emp, .emp, .emp, .emp, .emp]) (p' := p) (by rfl)]
  obtain ⟨env', p2, e2, x, y, z, rfl, hp2⟩ := for_inv (g := bName 3) (b := (sSeq (sSet 4 (mC (.int 1))) (sSeq (sFor (wR1 (aCons (mArgs sem__law_draw (aCons (mVar 1) (aCons (mC (.int 5)) aNil))) aNil)) (bName 5) (sSet 4 (m2 mulI (mVar 4) (mArgs sem__law_pick (aCons (mVar 1) (aCons (mVar 2) aNil)))))) (sSeq (sSet 4 (m2 mulI (mVar 4) (mArgs sem__law_pick (aCons (mVar 1) (aCons (mB lstD (aCons (mC (.int 1)) (aCons (mC (.int 1)) (aCons (mC (.int 127)) (aCons (mC (.int 601)) (aCons (mC (.int 683)) (aCons (mC (.int 997)) aNil))))))) aNil))))) (sIf (mOr (mAnd (m2 leI (mVar 4) (m2 powI (mC (.int 10)) (mC (.int 9)))) (mNot (mArgs sem__law_right (aCons (mVar 4) aNil)))) (mNot (mArgs sem__law_right (aCons (m2 addG (mC (.int 1)) (mArgs sem__law_draw (aCons (mVar 1) (aCons (m2 powI (mC (.int 10)) (mC (.int 6))) aNil)))) aNil)))) (sRet (mC (.bl false))) sNil)))))
    (fun i env p0 => ∃ x y z, env = [.emp, .im .pen, .im (.lst (sm.map .int)), x, y, z, .emp, .emp, .emp] ∧ PenOk (10000 - 7 * i) p0) (rangeD 0 8) 0 [.emp, .im .pen, .im (.lst (sm.map .int)), .emp, .emp, .emp, .emp, .emp, .emp] p ⟨.emp, .emp, .emp, rfl, hp⟩ (by
      rintro i d env p0 hd ⟨x, y, z, rfl, hp0⟩
      rw [Nat.zero_add] at hp0 ⊢
      have hi : i < 8 := by
        have := (List.getElem?_eq_some_iff.mp hd).1
        simpa [rangeD] using this
      rw [show 10000 - 7 * i = 10000 - 7 * (i + 1) + 7 by omega] at hp0
      obtain ⟨y', z', p', e, hp'⟩ := body (x := .im d) (y := y) (z := z) hp0
      exact ⟨_, _, p', rfl, e, .im d, y', z', rfl, hp'⟩)
  rw [seq_nx (env' := [.emp, .im .pen, .im (.lst (sm.map .int)), x, y, z, .emp, .emp, .emp]) (p' := p2) (by exact e2)]
  rw [seq_nx (env' := [.emp, .im .pen, .im (.lst (sm.map .int)), x, y, z, .im (.lst [D.int 0, .int (-7), .bl true, .non, .int 1000000001, .str "12", .tup [.int 12], .lst [.int 12]]), .emp, .emp]) (p' := p2) (by rfl)]
  rw [seq_nx (env' := [.emp, .im .pen, .im (.lst (sm.map .int)), x, y, z, .im (.lst [D.int 0, .int (-7), .bl true, .non, .int 1000000001, .str "12", .tup [.int 12], .lst [.int 12]]), .emp, .emp]) (p' := p2) (by
    have lc : mLc (wSeq (mVar 6)) [8] (bName 8) (mNot (mArgs sem__law_refused (aCons (mVar 8) aNil))) (mVar 8) [.emp, .im .pen, .im (.lst (sm.map .int)), x, y, z, .im (.lst [D.int 0, .int (-7), .bl true, .non, .int 1000000001, .str "12", .tup [.int 12], .lst [.int 12]]), .emp, .emp] p2 = some (.val (.lst []), p2) := by
      refine lc_val (xs := [D.int 0, .int (-7), .bl true, .non, .int 1000000001, .str "12", .tup [.int 12], .lst [.int 12]]) rfl rfl (lc_none fun v hv => ⟨_, rfl, ?_⟩) (by simp)
      have R := refused p2 v hv
      simp only [ap_not, ap_args, ap_ac, ap_an, ap_var, List.set_cons_succ, List.set_cons_zero, List.getElem?_cons_succ, List.getElem?_cons_zero, bnd_val, bndL_vals, R]
      rfl
    simp only [ap_if, ap_2, ap_b, ap_an, lc, bnd_val, bndL_vals]
    rfl)]
  rw [seq_nx (env' := [.emp, .im .pen, .im (.lst (sm.map .int)), x, y, z, .im (.lst [D.int 0, .int (-7), .bl true, .non, .int 1000000001, .str "12", .tup [.int 12], .lst [.int 12]]), .im (.lst (wide.map .int)), .emp]) (p' := p2) (by rfl)]
  obtain ⟨k, p3, hk, e3, hp3⟩ := pick (n := 5) (ns := wide) (hp2.mono (by simp [rangeD])) (by decide) (by decide)
  have kb : 1 ≤ k ∧ k ≤ 1000000000 := by
    have : ∀ k ∈ wide, 1 ≤ k ∧ k ≤ 1000000000 := by decide
    exact this k hk
  rw [seq_nx (env' := [.emp, .im .pen, .im (.lst (sm.map .int)), x, y, z, .im (.lst [D.int 0, .int (-7), .bl true, .non, .int 1000000001, .str "12", .tup [.int 12], .lst [.int 12]]), .im (.lst (wide.map .int)), .emp]) (p' := p3) (by
    have R1 := rightI (n := k) p3 kb.1 kb.2
    have R2 := rightI (n := 1009 * 1013) p3 (by decide) (by decide)
    simp only [ap_if, ap_or, ap_not, ap_2, ap_args, ap_ac, ap_an, ap_var, ap_c, List.getElem?_cons_succ, List.getElem?_cons_zero, bnd_val, bndL_vals, okD_s, e3, R1, mul_ok (show (1009 : Int).natAbs < 2 ^ 64 by decide), R2]
    rfl)]
  refine ⟨p3, ?_⟩
  have R := rightI (n := 10 ^ 9) p3 (by decide) (by decide)
  simp only [ap_ret, ap_and, ap_2, ap_args, ap_b, ap_ac, ap_an, ap_c, bnd_val, bndL_vals, okD_s, t9, R, p1, p2047, if_true]
  rfl
end K15
set_option Elab.async false
set_option linter.all false
set_option maxRecDepth 100000
set_option maxHeartbeats 0
namespace K15
open PySem PySem.Spec PyProof.Rows L2 MS
theorem run (w : World) : HandSHeadRun.RunEq R (PySem.W.view R.prog [18]) hk ob 4000 loose w := by
  intro os
  kernel_rfl
end K15
open PySem PySem.W PySem.Calls PyProof.Rows
theorem K15.finish (hm : MS.LawTrue 9 K15.m_law) : PySem.Challenge.rw_mendsizes_k15_primes_of_numbers.Holds := by
  w_on; o_law
  refine HandSHeadRun.head_any (r := OpenLaw.row PySem.Challenge.rw_mendsizes_k15_primes_of_numbers) (q := view (OpenLaw.row PySem.Challenge.rw_mendsizes_k15_primes_of_numbers).prog [18]) (H := K15.hk) (ob := K15.ob) (M := 4000) (loose := K15.loose) (d := HandSHeadRun.topDef (OpenLaw.row PySem.Challenge.rw_mendsizes_k15_primes_of_numbers).prog 18) (kwd := []) K15.ob_eq
    (by kernel_rfl) (fun s => by kernel_rfl) K15.run (by kernel_rfl) (by kernel_rfl) (by kernel_rfl) (by rfl) (by first | assumption | decide +kernel) (by decide +kernel) ⟨rfl, rfl, rfl, rfl, rfl, by decide +kernel⟩ ?hw ?hc
  case hw => w_witness2
  case hc =>
    refine MS.law_walk (l := PySem.Challenge.rw_mendsizes_k15_primes_of_numbers) (k := 5) (x := "_law_script") rfl (by kernel_rfl) ⟨⟨rfl, by decide, by decide⟩, rfl⟩ ?F
    intro w mg fa h Y G hmg0
    obtain ⟨K, KX, c⟩ := Y
    have T := K15.tp KX G c
    have hmg : mg ("law" : PySem.Str) = some (.ref fa) := by
      have e : (HandSHeadRun.topDef (OpenLaw.row PySem.Challenge.rw_mendsizes_k15_primes_of_numbers).prog 18).name = ("law" : PySem.Str) := by kernel_rfl
      rw [← e]
      exact hmg0
    have e : fa = MS.gaS K "law" := by
      have z := hmg.symm.trans T.g_law
      injection z with z
      injection z
    subst e
    have b := T.d_law.choose_spec.bindsA (ps := ["_law_script"]) fun _ _ _ _ _ _ us hl => match us, hl with | [_], _ => rfl
    exact ⟨K, _, KX, fun s v => b s [v] rfl, fun base _ _ => K15.a_law T hm⟩
theorem PySem.Challenge.cw_mendsizes_k15_primes_of_numbers_holds : PySem.Challenge.rw_mendsizes_k15_primes_of_numbers.Holds := by
  exact K15.finish K15.law_true
