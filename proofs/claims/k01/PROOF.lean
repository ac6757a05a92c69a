import PyProof.Rows.All
import Wide.All
import OpenK.AllK
import Wide.FinOn
import HandS.ForMost
import HandS.ForExc
import HandS.Wide
import HandS.WideBits
import HandS.Gcd
import HandS.TupAny
import HandS.TupMul
import HandS.Deep
import HandS.IsInst
import HandS.Zip
import HandS.ExcField
import KE.KExcIs
import KE.KTupSum
import HandS.TryOnly
import HandS.Exc
import HandS.ExcOwn
import HandS.Style
import HandS.More
import PySem.Challenge.RW_calmspot_k01_points_and_ways
set_option Elab.async false
set_option linter.all false
set_option maxRecDepth 100000
set_option maxHeartbeats 4000000
namespace FL
open PySem L2
/-! ## data, environments, results -/
inductive D where
  | non | bl (b : Bool) | int (i : Int) | str (x : Str)
  | lst (xs : List D) | tup (xs : List D) | scr (ns : List Int)
  | dik (ks : List Key) (vs : List D) | dit (ks : List (List Key)) (vs : List D)
  | ins (c : Nat) (fs : List Str) (vs : List D)
  /-- the exception that an except suite holds -/
  | exc (c : Nat) (fs : List Str) (vs : List D)
/-- where the classes stand; what the suite holds: the exception, its class, its dict -/
structure Cl where
  ad : Nat → Addr
  xa : Option (Addr × Value × Option Addr)
/-- the content of a list or dict that one slot alone holds -/
inductive Cn where
  | l (ds : List D) | t (ks : List (List Key)) (vs : List D) | k (ks : List Key) (vs : List D)
def Cn.d : Cn → D
  | .l ds => .lst ds
  | .t ks vs => .dit ks vs
  | .k ks vs => .dik ks vs
inductive Sl where
  | un | im (d : D) | ow (b : Bool) (c : Cn)
abbrev En := List Sl
inductive Res (α : Type) where
  | ok (a : α) | er (e : D) | bad
inductive Fl where
  | nx (ρ : En) | rt (d : D) | bk (ρ : En) | ct (ρ : En) | ex (e : D) (ρ : En)
section
variable (K : PySem.W.Frag) (cl : Cl)
mutual
inductive Rp (F : Hp) : V → D → Prop
  | non : Rp F .non .non
  | bl (b : Bool) : Rp F (.bl b) (.bl b)
  | int (i : Int) : Rp F (.int i) (.int i)
  | str (x : Str) : Rp F (.str x) (.str x)
  | lst {a : Addr} {xs : List V} {ds : List D} : F a = some (.lst xs) → RpA F xs ds → Rp F (.ref a) (.lst ds)
  | tup {a : Addr} {xs : List V} {ds : List D} : F a = some (.tup xs) → RpA F xs ds → Rp F (.ref a) (.tup ds)
  | scr {a : Addr} {ns : List Int} : SqL K F a (ns.map V.int) → Rp F (.ref a) (.scr ns)
  | dik {a : Addr} {kvs : List (Key × V)} {ks : List Key} {ds : List D} : F a = some (.dK kvs) → kvs.map (·.1) = ks → RpA F (kvs.map (·.2)) ds → Rp F (.ref a) (.dik ks ds)
  | dit {a : Addr} {kvs : List (List Key × V)} {ks : List (List Key)} {ds : List D} : F a = some (.dT kvs) → kvs.map (·.1) = ks → RpA F (kvs.map (·.2)) ds → Rp F (.ref a) (.dit ks ds)
  | xc0 {a : Addr} {c : Nat} : cl.xa = some (a, .ref (cl.ad c), none) → Rp F (.ref a) (.exc c [] [])
  | xc1 {a x : Addr} {c : Nat} {fs : List (Str × V)} {ns : List Str} {ds : List D} : cl.xa = some (a, .ref (cl.ad c), some x) → F x = some (.xd fs) → fs.map (·.1) = ns → RpA F (fs.map (·.2)) ds → Rp F (.ref a) (.exc c ns ds)
  | ins {a dx : Addr} {c : Nat} {fs : List (Str × V)} {ns : List Str} {ds : List D} : F a = some (.ins (cl.ad c) dx fs) → fs.map (·.1) = ns → RpA F (fs.map (·.2)) ds → Rp F (.ref a) (.ins c ns ds)
inductive RpA (F : Hp) : List V → List D → Prop
  | nil : RpA F [] []
  | cons {v : V} {vs : List V} {d : D} {ds : List D} : Rp F v d → RpA F vs ds → RpA F (v :: vs) (d :: ds)
end
def CnR (F : Hp) (c : Cn) (o : HO) : Prop := match c with
  | .l ds => ∃ vs, o = .lst vs ∧ RpA K cl F vs ds
  | .t ks ds => ∃ kvs, o = .dT kvs ∧ kvs.map (·.1) = ks ∧ RpA K cl F (kvs.map (·.2)) ds
  | .k ks ds => ∃ kvs, o = .dK kvs ∧ kvs.map (·.1) = ks ∧ RpA K cl F (kvs.map (·.2)) ds
/-- an exception's class and own dict -/
def XRp (F : Hp) (c : Value) (dd : Option Addr) (e : D) : Prop :=
  ∃ n, c = .ref (cl.ad n) ∧ ((e = .exc n [] [] ∧ dd = none) ∨ ∃ x fs ds, dd = some x ∧ F x = some (.xd fs) ∧ RpA K cl F (fs.map (·.2)) ds ∧ e = .exc n (fs.map (·.1)) ds)
end
theorem Same.seqL {K : PySem.W.Frag} {H H' : Hp} {a : Addr} {xs : List V} (e : Same H H') (h : SqL K H a xs) : SqL K H' a xs := e.seq h
section
variable {K : PySem.W.Frag} {cl : Cl} {F F' : Hp}
mutual
theorem Rp.mono (m : Same F F') : ∀ {d : D} {v : V}, Rp K cl F v d → Rp K cl F' v d
  | .non, _, h => by cases h; exact .non
  | .bl _, _, h => by cases h; exact .bl _
  | .int _, _, h => by cases h; exact .int _
  | .str _, _, h => by cases h; exact .str _
  | .lst ds, _, h => by cases h with | lst a b => exact .lst (m _ _ a) (RpA.mono m b)
  | .tup ds, _, h => by cases h with | tup a b => exact .tup (m _ _ a) (RpA.mono m b)
  | .scr ns, _, h => by cases h with | scr a => exact .scr (m.seq a)
  | .dik ks ds, _, h => by cases h with | dik a e b => exact .dik (m _ _ a) e (RpA.mono m b)
  | .dit ks ds, _, h => by cases h with | dit a e b => exact .dit (m _ _ a) e (RpA.mono m b)
  | .ins c ns ds, _, h => by cases h with | ins a e b => exact .ins (m _ _ a) e (RpA.mono m b)
  | .exc c ns ds, _, h => by
    cases h with
    | xc0 z => exact .xc0 z
    | xc1 z a e b => exact .xc1 z (m _ _ a) e (RpA.mono m b)
theorem RpA.mono (m : Same F F') : ∀ {ds : List D} {vs : List V}, RpA K cl F vs ds → RpA K cl F' vs ds
  | [], _, h => by cases h; exact .nil
  | d :: ds, _, h => by cases h with | cons a b => exact .cons (Rp.mono m a) (RpA.mono m b)
end
theorem RpA.length : ∀ {vs : List V} {ds : List D}, RpA K cl F vs ds → vs.length = ds.length
  | _, _, .nil => rfl
  | _, _, .cons _ h => by simp [RpA.length h]
theorem RpA.get : ∀ {vs : List V} {ds : List D} {i : Nat} {v : V}, RpA K cl F vs ds → vs[i]? = some v → ∃ d, ds[i]? = some d ∧ Rp K cl F v d
  | _, _, _, _, .nil, e => by simp at e
  | _, _, 0, _, .cons a _, e => by simp at e; subst e; exact ⟨_, rfl, a⟩
  | _, _, i + 1, v, .cons _ t, e => by
    obtain ⟨d, h1, h2⟩ := RpA.get (i := i) (v := v) t (by simpa using e)
    exact ⟨d, by simpa using h1, h2⟩
theorem RpA.get' : ∀ {vs : List V} {ds : List D} {i : Nat} {d : D}, RpA K cl F vs ds → ds[i]? = some d → ∃ v, vs[i]? = some v ∧ Rp K cl F v d
  | _, _, _, _, .nil, e => by simp at e
  | _, _, 0, _, .cons a _, e => by simp at e; subst e; exact ⟨_, rfl, a⟩
  | _, _, i + 1, d, .cons _ t, e => by
    obtain ⟨v, h1, h2⟩ := RpA.get' (i := i) (d := d) t (by simpa using e)
    exact ⟨v, by simpa using h1, h2⟩
theorem RpA.app : ∀ {vs us : List V} {ds es : List D}, RpA K cl F vs ds → RpA K cl F us es → RpA K cl F (vs ++ us) (ds ++ es)
  | _, _, _, _, .nil, s => s
  | _, _, _, _, .cons a t, s => .cons a (RpA.app t s)
theorem RpA.take : ∀ {vs : List V} {ds : List D} (n : Nat), RpA K cl F vs ds → RpA K cl F (vs.take n) (ds.take n)
  | _, _, 0, _ => .nil
  | _, _, _ + 1, .nil => .nil
  | _, _, n + 1, .cons a t => .cons a (RpA.take n t)
theorem RpA.drop : ∀ {vs : List V} {ds : List D} (n : Nat), RpA K cl F vs ds → RpA K cl F (vs.drop n) (ds.drop n)
  | _, _, 0, h => h
  | _, _, _ + 1, .nil => .nil
  | _, _, n + 1, .cons a t => RpA.drop n t
theorem RpA.set : ∀ {vs : List V} {ds : List D} {v : V} {d : D} (n : Nat), RpA K cl F vs ds → Rp K cl F v d → RpA K cl F (vs.set n v) (ds.set n d)
  | _, _, _, _, _, .nil, _ => .nil
  | _, _, _, _, 0, .cons a t, h => .cons h t
  | _, _, _, _, n + 1, .cons a t, h => .cons a (RpA.set n t h)
theorem CnR.mono {c : Cn} {o : HO} (m : Same F F') (h : CnR K cl F c o) : CnR K cl F' c o := by
  cases c with
  | l ds => obtain ⟨vs, e, h⟩ := h; exact ⟨vs, e, h.mono m⟩
  | t ks ds => obtain ⟨vs, e, e2, h⟩ := h; exact ⟨vs, e, e2, h.mono m⟩
  | k ks ds => obtain ⟨vs, e, e2, h⟩ := h; exact ⟨vs, e, e2, h.mono m⟩
theorem CnR.rp {c : Cn} {o : HO} {a : Addr} (h : CnR K cl F c o) (e : F a = some o) : Rp K cl F (.ref a) c.d := by
  cases c with
  | l ds => obtain ⟨vs, rfl, h⟩ := h; exact .lst e h
  | t ks ds => obtain ⟨vs, rfl, e2, h⟩ := h; exact .dit e e2 h
  | k ks ds => obtain ⟨vs, rfl, e2, h⟩ := h; exact .dik e e2 h
theorem XRp.mono {c : Value} {dd : Option Addr} {e : D} (m : Same F F') (h : XRp K cl F c dd e) : XRp K cl F' c dd e := by
  obtain ⟨n, e1, h | ⟨x, fs, ds, e2, e3, e4, e5⟩⟩ := h
  · exact ⟨n, e1, .inl h⟩
  · exact ⟨n, e1, .inr ⟨x, fs, ds, e2, m _ _ e3, e4.mono m, e5⟩⟩
end
/-! ## the state -/
/-- B: the heap at the def's entry (kept as it is); F0: what was frozen there; F: what is frozen now -/
structure SOk (K : PySem.W.Frag) (cl : Cl) (B F0 F : Hp) (σ : L2.St) (H : Hp) (ρ : En) : Prop where
  f0 : Same F0 F
  fh : Same F H
  bh : Same B H
  bf : ∀ a, B a ≠ none → F a = F0 a
  len : σ.length = ρ.length
  im : ∀ (i : Nat) (d : D), ρ[i]? = some (.im d) → ∃ v, σ[i]? = some (some v) ∧ Rp K cl F v d
  ow : ∀ (i : Nat) (b : Bool) (c : Cn), ρ[i]? = some (.ow b c) → ∃ (a : Addr) (o : HO), σ[i]? = some (some (.ref a)) ∧ F a = none ∧ B a = none ∧ H a = some o ∧ CnR K cl F c o
  ap : ∀ (i j : Nat) (b : Bool) (c : Cn) (b' : Bool) (c' : Cn) (a : Addr), i ≠ j → ρ[i]? = some (.ow b c) → ρ[j]? = some (.ow b' c') → σ[i]? = some (some (.ref a)) → σ[j]? ≠ some (some (.ref a))
/-- what an expression does to the heaps: it adds -/
structure Gr (F H F' H' : Hp) : Prop where
  f : Same F F'
  fh : Same F' H'
  h : Same H H'
  n : ∀ a, H a ≠ none → F' a = F a
theorem Gr.refl {F H : Hp} (h : Same F H) : Gr F H F H := ⟨Same.refl _, h, Same.refl _, fun _ _ => rfl⟩
theorem Gr.trans {F H F1 H1 F2 H2 : Hp} (a : Gr F H F1 H1) (b : Gr F1 H1 F2 H2) : Gr F H F2 H2 :=
  ⟨a.f.trans b.f, b.fh, a.h.trans b.h, fun x hx => by
    have h1 : H1 x ≠ none := by
      cases e : H x with
      | none => exact absurd e hx
      | some o => rw [a.h x o e]; simp
    rw [b.n x h1, a.n x hx]⟩
/-- a new object, frozen at once -/
theorem Gr.new {F H : Hp} {p : Addr} {o : HO} (fh : Same F H) (hp : H p = none) : Gr F H (upd F p o) (upd H p o) where
  f := fun a u e => by
    have : a ≠ p := fun z => by subst z; rw [fh _ _ e] at hp; cases hp
    rw [upd_ne this]; exact e
  fh := fun a u e => by
    by_cases h : a = p
    · subst h; rw [upd_same] at e ⊢; exact e
    · rw [upd_ne h] at e ⊢; exact fh _ _ e
  h := fun a u e => by
    have : a ≠ p := fun z => by subst z; rw [e] at hp; cases hp
    rw [upd_ne this]; exact e
  n := fun a ha => by
    have : a ≠ p := fun z => by subst z; exact ha hp
    rw [upd_ne this]
/-- a new object that is not frozen -/
theorem Gr.own {F H : Hp} {p : Addr} {o : HO} (fh : Same F H) (hp : H p = none) : Gr F H F (upd H p o) where
  f := Same.refl _
  fh := fun a u e => by
    have : a ≠ p := fun z => by subst z; rw [fh _ _ e] at hp; cases hp
    rw [upd_ne this]; exact fh _ _ e
  h := fun a u e => by
    have : a ≠ p := fun z => by subst z; rw [e] at hp; cases hp
    rw [upd_ne this]; exact e
  n := fun a ha => rfl
section
variable {K : PySem.W.Frag} {cl : Cl} {B F0 F F' H H' : Hp} {σ : L2.St} {ρ : En}
theorem SOk.grow (s : SOk K cl B F0 F σ H ρ) (g : Gr F H F' H') : SOk K cl B F0 F' σ H' ρ where
  f0 := s.f0.trans g.f
  fh := g.fh
  bh := s.bh.trans g.h
  bf := fun a ha => by
    have h1 : H a ≠ none := by
      cases e : B a with
      | none => exact absurd e ha
      | some o => rw [s.bh a o e]; simp
    rw [g.n a h1, s.bf a ha]
  len := s.len
  im := fun i d e => by
    obtain ⟨v, h1, h2⟩ := s.im i d e
    exact ⟨v, h1, h2.mono g.f⟩
  ow := fun i b c e => by
    obtain ⟨a, o, h1, h2, h3, h4, h5⟩ := s.ow i b c e
    exact ⟨a, o, h1, by rw [g.n a (by rw [h4]; simp)]; exact h2, h3, g.h _ _ h4, h5.mono g.f⟩
  ap := s.ap
end
/-! ## expressions -/
/-- what is wanted of a result -/
def PostE (K : PySem.W.Frag) (cl : Cl) (W : WX) (σ : L2.St) (F H : Hp) (r : Res D) (Q : VK) : Prop := match r with
  | .ok d => ∀ v F' H', Gr F H F' H' → Rp K cl F' v d → Q v H'
  | .er e => ∀ c dd F' H', Gr F H F' H' → XRp K cl F' c dd e → W c dd σ H'
  | .bad => False
def PostC (K : PySem.W.Frag) (cl : Cl) (W : WX) (σ : L2.St) (F H : Hp) (r : Res Cn) (Q : VK) : Prop := match r with
  | .ok c => ∀ a o F' H', Gr F H F' H' → H a = none → F' a = none → H' a = some o → CnR K cl F' c o → Q (.ref a) H'
  | .er e => ∀ c dd F' H', Gr F H F' H' → XRp K cl F' c dd e → W c dd σ H'
  | .bad => False
def PostA (K : PySem.W.Frag) (cl : Cl) (W : WX) (σ : L2.St) (F H : Hp) (r : Res (List D)) (Q : List V → Hp → Prop) : Prop := match r with
  | .ok ds => ∀ vs F' H', Gr F H F' H' → RpA K cl F' vs ds → Q vs H'
  | .er e => ∀ c dd F' H', Gr F H F' H' → XRp K cl F' c dd e → W c dd σ H'
  | .bad => False
def PostT (K : PySem.W.Frag) (cl : Cl) (W : WX) (σ : L2.St) (F H : Hp) (r : Res Bool) (Q : Bool → Hp → Prop) : Prop := match r with
  | .ok b => ∀ F' H', Gr F H F' H' → Q b H'
  | .er e => ∀ c dd F' H', Gr F H F' H' → XRp K cl F' c dd e → W c dd σ H'
  | .bad => False
def tM (K : PySem.W.Frag) (cl : Cl) (W : WX) (m : En → Res D) : TE := fun σ H Q => ∃ B F0 F ρ, SOk K cl B F0 F σ H ρ ∧ PostE K cl W σ F H (m ρ) Q
def tC' (K : PySem.W.Frag) (cl : Cl) (W : WX) (m : En → Res Cn) : TE := fun σ H Q => ∃ B F0 F ρ, SOk K cl B F0 F σ H ρ ∧ PostC K cl W σ F H (m ρ) Q
def tA (K : PySem.W.Frag) (cl : Cl) (W : WX) (m : En → Res (List D)) : TA := fun σ H Q => ∃ B F0 F ρ, SOk K cl B F0 F σ H ρ ∧ PostA K cl W σ F H (m ρ) Q
def tT (K : PySem.W.Frag) (cl : Cl) (W : WX) (m : En → Res Bool) : TT := fun σ H Q => ∃ B F0 F ρ, SOk K cl B F0 F σ H ρ ∧ PostT K cl W σ F H (m ρ) Q
theorem _root_.L2.PE.of {X : Cx} {e : Expr} {t u : TE} (h : PE X e t) (i : ∀ σ H Q, u σ H Q → t σ H Q) : PE X e u := ⟨fun p s σ H Q I q => h.run p s σ H Q I (i σ H Q q)⟩
theorem _root_.L2.PA.of {X : Cx} {e : List Expr} {t u : TA} (h : PA X e t) (i : ∀ σ H Q, u σ H Q → t σ H Q) : PA X e u := ⟨fun pos p s σ H Q I q => h.run pos p s σ H Q I (i σ H Q q)⟩
theorem _root_.L2.PT.of {X : Cx} {e : Expr} {t u : TT} (h : PT X e t) (i : ∀ σ H Q, u σ H Q → t σ H Q) : PT X e u := ⟨fun p s σ H Q I q => h.run p s σ H Q I (i σ H Q q)⟩
theorem _root_.L2.PW.of {X : Cx} {e : Expr} {t u : TT} (h : PW X e t) (i : ∀ σ H Q, u σ H Q → t σ H Q) : PW X e u := ⟨fun w p s σ H Q I q => h.run w p s σ H Q I (i σ H Q q)⟩
theorem _root_.L2.PS.of {X : Cx} {e : Stmt} {t u : TS} (h : PS X e t) (i : ∀ D σ H, u D σ H → t D σ H) : PS X e u := ⟨fun p s σ H D I q => h.run p s σ H D I (i D σ H q)⟩
theorem _root_.L2.PSs.of {X : Cx} {e : List Stmt} {t u : TS} (h : PSs X e t) (i : ∀ D σ H, u D σ H → t D σ H) : PSs X e u := ⟨fun p s σ H D I q => h.run p s σ H D I (i D σ H q)⟩
def Res.bind {α β : Type} (r : Res α) (f : α → Res β) : Res β := match r with
  | .ok a => f a
  | .er e => .er e
  | .bad => .bad
def Res.ofO {α : Type} : Option α → Res α
  | some a => .ok a
  | none => .bad
def mVar (i : Nat) : En → Res D := fun ρ => match ρ[i]? with
  | some (.im d) => .ok d
  | _ => .bad
def mC (d : D) : En → Res D := fun _ => .ok d
def mOp1 (f : D → Option D) (ma : En → Res D) : En → Res D := fun ρ => (ma ρ).bind fun x => .ofO (f x)
def mOp2 (f : D → D → Option D) (ma mb : En → Res D) : En → Res D := fun ρ => (ma ρ).bind fun x => (mb ρ).bind fun y => .ofO (f x y)
def mNil : En → Res (List D) := fun _ => .ok []
def mCons (m : En → Res D) (ms : En → Res (List D)) : En → Res (List D) := fun ρ => (m ρ).bind fun x => (ms ρ).bind fun xs => .ok (x :: xs)
def mTup (ms : En → Res (List D)) : En → Res D := fun ρ => (ms ρ).bind fun xs => if xs.length < 16777216 then .ok (.tup xs) else .bad
def mLst (ms : En → Res (List D)) : En → Res Cn := fun ρ => (ms ρ).bind fun xs => if xs.length < 16777216 then .ok (.l xs) else .bad
/-- a fresh list, frozen -/
def mFz (m : En → Res Cn) : En → Res D := fun ρ => (m ρ).bind fun c => .ok c.d
section
variable {X : Cx} {cl : Cl} {W : WX} {e a b : Expr} {es : List Expr} {ma mb m : En → Res D} {ms : En → Res (List D)} {pos : Pos}
abbrev SE (X : Cx) (cl : Cl) (W : WX) (e : Expr) (m : En → Res D) : Prop := PE X e (tM X.K cl W m)
abbrev SC (X : Cx) (cl : Cl) (W : WX) (e : Expr) (m : En → Res Cn) : Prop := PE X e (tC' X.K cl W m)
abbrev SA (X : Cx) (cl : Cl) (W : WX) (es : List Expr) (m : En → Res (List D)) : Prop := PA X es (tA X.K cl W m)
abbrev SB (X : Cx) (cl : Cl) (W : WX) (e : Expr) (m : En → Res Bool) : Prop := PT X e (tT X.K cl W m)
theorem so_var (i : Nat) (h : PE X e (tVar i)) : SE X cl W e (mVar i) := h.of fun σ H Q ⟨B, F0, F, ρ, s, p⟩ => by
  unfold mVar at p
  split at p
  · rename_i d e
    obtain ⟨v, h1, h2⟩ := s.im i d e
    exact ⟨v, h1, p v F H (.refl s.fh) h2⟩
  · exact p.elim
theorem so_c {v : V} {d : D} (h : PE X e (L2.tC v)) (r : ∀ F, Rp X.K cl F v d) : SE X cl W e (mC d) := h.of fun σ H Q ⟨B, F0, F, ρ, s, p⟩ => p v F H (.refl s.fh) (r F)
theorem so_int {i j pos} : SE X cl W (.Constant (.int i) j pos) (mC (.int i)) := so_c pe_int fun _ => .int i
theorem so_bl {i j pos} : SE X cl W (.Constant (.bool i) j pos) (mC (.bl i)) := so_c pe_bl fun _ => .bl i
theorem so_non {j pos} : SE X cl W (.Constant .none j pos) (mC .non) := so_c pe_non fun _ => .non
theorem so_str {i j pos} : SE X cl W (.Constant (.str i) j pos) (mC (.str i)) := so_c pe_str fun _ => .str i
/-- the first part of two -/
theorem step1 {K : PySem.W.Frag} {σ : L2.St} {B F0 F H : Hp} {ρ : En} {r : Res D} {g : D → Res D} {Q : VK} (s : SOk K cl B F0 F σ H ρ) (p : PostE K cl W σ F H (r.bind g) Q) :
    PostE K cl W σ F H r fun v H' => ∃ d F', r = .ok d ∧ Gr F H F' H' ∧ Rp K cl F' v d ∧ PostE K cl W σ F' H' (g d) Q := by
  cases r with
  | bad => exact p
  | er e => exact p
  | ok d =>
    intro v F' H' g1 h1
    refine ⟨d, F', rfl, g1, h1, ?_⟩
    show PostE K cl W σ F' H' (g d) Q
    have p : PostE K cl W σ F H (g d) Q := p
    cases q : g d with
    | bad => rw [q] at p; exact p
    | er e => rw [q] at p; exact fun c dd F2 H2 g2 h2 => p c dd F2 H2 (g1.trans g2) h2
    | ok d2 => rw [q] at p; exact fun v F2 H2 g2 h2 => p v F2 H2 (g1.trans g2) h2
/-- what is wanted of an operation's answer -/
def PostO (K : PySem.W.Frag) (cl : Cl) (F H : Hp) (r : Option D) (Q : VK) : Prop := match r with
  | some d => ∀ v F' H', Gr F H F' H' → Rp K cl F' v d → Q v H'
  | none => False
theorem PostO.of {K : PySem.W.Frag} {σ : L2.St} {F H : Hp} {r : Option D} {Q : VK} (p : PostE K cl W σ F H (.ofO r) Q) : PostO K cl F H r Q := by
  cases r with
  | none => exact p
  | some d => exact p
def Op1 (K : PySem.W.Frag) (cl : Cl) (r : V → Hp → VK → Prop) (f : D → Option D) : Prop := ∀ F H x dx Q, Same F H → Rp K cl F x dx → PostO K cl F H (f dx) Q → r x H Q
def Op2 (K : PySem.W.Frag) (cl : Cl) (r : R2) (f : D → D → Option D) : Prop := ∀ F H x y dx dy Q, Same F H → Rp K cl F x dx → Rp K cl F y dy → PostO K cl F H (f dx dy) Q → r x y H Q
theorem op1_in {r : V → Hp → VK → Prop} {f : D → Option D} (hr : Op1 X.K cl r f) : ∀ σ H Q, tM X.K cl W (mOp1 f ma) σ H Q → tUn r (tM X.K cl W ma) σ H Q := by
  rintro σ H Q ⟨B, F0, F, ρ, s, p⟩
  refine ⟨B, F0, F, ρ, s, ?_⟩
  have p1 := step1 s p
  cases q : ma ρ with
  | bad => rw [q] at p1; exact p1
  | er e => rw [q] at p1; exact p1
  | ok d =>
    rw [q] at p1
    intro v F' H' g1 h1
    obtain ⟨d', F2, e, g2, h2, p2⟩ := p1 v F' H' g1 h1
    exact hr F2 H' v d' Q g2.fh h2 (.of p2)
theorem op2_in {r : R2} {f : D → D → Option D} (hr : Op2 X.K cl r f) : ∀ σ H Q, tM X.K cl W (mOp2 f ma mb) σ H Q → tOp r (tM X.K cl W ma) (tM X.K cl W mb) σ H Q := by
  rintro σ H Q ⟨B, F0, F, ρ, s, p⟩
  refine ⟨B, F0, F, ρ, s, ?_⟩
  have p1 := step1 s p
  cases q : ma ρ with
  | bad => rw [q] at p1; exact p1
  | er e => rw [q] at p1; exact p1
  | ok d =>
    rw [q] at p1
    intro v F' H' g1 h1
    obtain ⟨d', F2, e, g2, h2, p2⟩ := p1 v F' H' g1 h1
    have s2 := s.grow g2
    refine ⟨B, F0, F2, ρ, s2, ?_⟩
    have p3 := step1 s2 p2
    cases q2 : mb ρ with
    | bad => rw [q2] at p3; exact p3
    | er e => rw [q2] at p3; exact p3
    | ok d2 =>
      rw [q2] at p3
      intro u F3 H3 g3 h3
      obtain ⟨d'', F4, e4, g4, h4, p4⟩ := p3 u F3 H3 g3 h3
      exact hr F4 H3 v u d' d'' Q g4.fh (h2.mono g4.f) h4 (.of p4)
theorem so_bin {op : Operator} {r : R2} {f : D → D → Option D} (ho : OpR X (binaryOp op) r) (hr : Op2 X.K cl r f) (ha : SE X cl W a ma) (hb : SE X cl W b mb) : SE X cl W (.BinOp a op b pos) (mOp2 f ma mb) :=
  (pe_op ho ha hb).of (op2_in hr)
theorem so_un {op : UnaryOp} {r : V → Hp → VK → Prop} {f : D → Option D} (ho : UnR X (unaryOp op) r) (hr : Op1 X.K cl r f) (ha : SE X cl W a ma) : SE X cl W (.UnaryOp op a pos) (mOp1 f ma) :=
  (pe_un ho ha).of (op1_in hr)
theorem so_cmp {op : CmpOp} {r : R2} {f : D → D → Option D} (ho : OpR X (compareOp op) r) (hr : Op2 X.K cl r f) (ha : SE X cl W a ma) (hb : SE X cl W b mb) (hm : behindInMarks op b = false) : SE X cl W (.Compare a [op] [b] pos) (mOp2 f ma mb) :=
  (pe_cmpR ho ha hb hm).of (op2_in hr)
theorem so_ix {r : R2} {f : D → D → Option D} (ho : IxR X r) (hr : Op2 X.K cl r f) (ha : SE X cl W a ma) (hb : SE X cl W b mb) (hs : PlainIx b) : SE X cl W (.Subscript a b pos) (mOp2 f ma mb) :=
  (pe_ix ho ha hb hs).of (op2_in hr)
/-! argument lists -/
theorem sa_nil : SA X cl W [] mNil := pa_nil.of fun σ H Q ⟨B, F0, F, ρ, s, p⟩ => p [] F H (.refl s.fh) .nil
theorem sa_cons (ha : SE X cl W e m) (hr : SA X cl W es ms) (hs : starEach (e :: es) X.env = (false, eval e X.env) :: starEach es X.env := by rfl) : SA X cl W (e :: es) (mCons m ms) := by
  refine (pa_cons ha hr hs).of ?_
  rintro σ H Q ⟨B, F0, F, ρ, s, p⟩
  refine ⟨B, F0, F, ρ, s, ?_⟩
  unfold mCons at p
  cases q : m ρ with
  | bad => rw [q] at p; exact p
  | er e => rw [q] at p; exact p
  | ok d =>
    rw [q] at p
    intro v F' H' g1 h1
    refine ⟨B, F0, F', ρ, s.grow g1, ?_⟩
    have p : PostA X.K cl W σ F H ((ms ρ).bind fun xs => .ok (d :: xs)) Q := p
    cases q2 : ms ρ with
    | bad => rw [q2] at p; exact p
    | er e => rw [q2] at p; exact fun c dd F2 H2 g2 h2 => p c dd F2 H2 (g1.trans g2) h2
    | ok ds => rw [q2] at p; exact fun vs F2 H2 g2 h2 => p (v :: vs) F2 H2 (g1.trans g2) (.cons (h1.mono g2.f) h2)
theorem so_tup {x1} (h : SA X cl W es ms) : SE X cl W (.Tuple es x1 pos) (mTup ms) := by
  refine (pe_tup h).of ?_
  rintro σ H Q ⟨B, F0, F, ρ, s, p⟩
  refine ⟨B, F0, F, ρ, s, ?_⟩
  unfold mTup at p
  cases q : ms ρ with
  | bad => rw [q] at p; exact p
  | er e => rw [q] at p; exact p
  | ok ds =>
    rw [q] at p
    intro vs F' H' g1 h1
    have p : PostE X.K cl W σ F H (if ds.length < 16777216 then .ok (.tup ds) else .bad) Q := p
    by_cases hl : ds.length < 16777216
    · rw [if_pos hl] at p
      refine ⟨by rw [h1.length, sizeLine_eq]; omega, fun pp hp => ?_⟩
      have g2 := Gr.new (o := .tup vs) g1.fh hp
      exact p _ _ _ (g1.trans g2) (.tup upd_same (h1.mono g2.f))
    · rw [if_neg hl] at p; exact p.elim
theorem sc_lst (h : SA X cl W es ms) : SC X cl W (.List es pos) (mLst ms) := by
  refine (pe_lst h).of ?_
  rintro σ H Q ⟨B, F0, F, ρ, s, p⟩
  refine ⟨B, F0, F, ρ, s, ?_⟩
  unfold mLst at p
  cases q : ms ρ with
  | bad => rw [q] at p; exact p
  | er e => rw [q] at p; exact p
  | ok ds =>
    rw [q] at p
    intro vs F' H' g1 h1
    have p : PostC X.K cl W σ F H (if ds.length < 16777216 then .ok (.l ds) else .bad) Q := p
    by_cases hl : ds.length < 16777216
    · rw [if_pos hl] at p
      refine ⟨by rw [h1.length, sizeLine_eq]; omega, fun pp hp => ?_⟩
      have g2 := Gr.own (o := .lst vs) g1.fh hp
      have hH : H pp = none := Same.free g1.h hp
      exact p pp _ _ _ (g1.trans g2) hH (by cases z : F' pp with | none => rfl | some o => rw [g1.fh _ _ z] at hp; cases hp) upd_same ⟨vs, rfl, h1⟩
    · rw [if_neg hl] at p; exact p.elim
/-- freezing what is fresh -/
theorem so_fz {m : En → Res Cn} (h : SC X cl W e m) : SE X cl W e (mFz m) := by
  refine PE.of h ?_
  rintro σ H Q ⟨B, F0, F, ρ, s, p⟩
  refine ⟨B, F0, F, ρ, s, ?_⟩
  unfold mFz at p
  cases q : m ρ with
  | bad => rw [q] at p; exact p
  | er e => rw [q] at p; exact p
  | ok c =>
    rw [q] at p
    have p : ∀ v F' H', Gr F H F' H' → Rp X.K cl F' v c.d → Q v H' := p
    intro a o F' H' g hn hf ho hc
    have m1 : Same F' (upd F' a o) := fun b u e => by
      have : b ≠ a := fun z => by subst z; rw [e] at hf; cases hf
      rw [upd_ne this]; exact e
    refine p (.ref a) (upd F' a o) H' ⟨g.f.trans m1, fun b u e => ?_, g.h, fun b hb => ?_⟩ ((hc.mono m1).rp upd_same)
    · by_cases z : b = a
      · subst z; rw [upd_same] at e; cases e; exact ho
      · rw [upd_ne z] at e; exact g.fh _ _ e
    · have : b ≠ a := fun z => by subst z; exact hb hn
      rw [upd_ne this]; exact g.n b hb
end
end FL
namespace L2
open PySem PySem.Spec PyProof.Rows
theorem tuple_mulW1 (l : Addr) (items : Array Value) (n : Nat) (dd : Option Addr) (sl : Array (Option Value)) (x : Int) (u : Tok) (c0 : (decide (x < -(2 ^ 63)) || decide (x ≥ 2 ^ 63)) = false) (c1 : (items.isEmpty || x == 1) = true) :
    Meets (Builtin.«tuple.__mul__» ⟨[.ref l, .int x u], []⟩) (fun _ R s => s.heap.get? l = some { cls := .type "tuple", dict := dd, data := .seq items n, slots := sl } ∧
      R (.ok (.ret (Value.ref l))) s) :=
  .of_wp fun prog w A R s h => by
    obtain ⟨hp, g, d, tk, os⟩ := s
    obtain ⟨hl, h⟩ := h
    have f1 := AutoSeq1.idx_int
    wp_walk using wpAny_loadPart' hl
    repeat (first
      | (refine wpAny_ite_false (decide_eq_false (by rw [c0]; exact Bool.false_ne_true)) ?_; wp_walk using wpAny_loadPart' hl)
      | (refine wpAny_ite_true (decide_eq_true c1) ?_; wp_walk using wpAny_loadPart' hl))
    exact ⟨_, rfl, h⟩
theorem tuple_mulW0 (l : Addr) (items : Array Value) (n : Nat) (dd : Option Addr) (sl : Array (Option Value)) (x : Int) (u : Tok) (c0 : (decide (x < -(2 ^ 63)) || decide (x ≥ 2 ^ 63)) = false) (c1 : (items.isEmpty || x == 1) = false) (c2 : (decide (x ≤ 0) || items.isEmpty) = true) :
    Meets (Builtin.«tuple.__mul__» ⟨[.ref l, .int x u], []⟩) (fun _ R s => s.heap.get? l = some { cls := .type "tuple", dict := dd, data := .seq items n, slots := sl } ∧
      R (.ok (.ret (Value.ref s.heap.objs.size))) { s with heap := s.heap.push { cls := Value.type "tuple", data := Data.seq #[] }, toks := s.toks }) :=
  .of_wp fun prog w A R s h => by
    obtain ⟨hp, g, d, tk, os⟩ := s
    obtain ⟨hl, h⟩ := h
    have f1 := AutoSeq1.idx_int
    wp_walk using wpAny_loadPart' hl
    repeat (first
      | (refine wpAny_ite_false (decide_eq_false (by rw [c0]; exact Bool.false_ne_true)) ?_; wp_walk using wpAny_loadPart' hl)
      | (refine wpAny_ite_false (decide_eq_false (by rw [c1]; exact Bool.false_ne_true)) ?_; wp_walk using wpAny_loadPart' hl)
      | (refine wpAny_ite_true (decide_eq_true c2) ?_; wp_walk using wpAny_loadPart' hl))
    exact ⟨_, rfl, h⟩
def rRepT1 (K : PySem.W.Frag) : R2 := fun x y H Q => ∃ l k xs, x = .ref l ∧ y = .int k ∧ SqT K H l xs ∧ k = 1 ∧ Q (.ref l) H
def rRepT0 (K : PySem.W.Frag) : R2 := fun x y H Q => ∃ l k xs, x = .ref l ∧ y = .int k ∧ SqT K H l xs ∧ xs ≠ [] ∧ -(2 ^ 63) ≤ k ∧ k ≤ 0 ∧ ∀ p, H p = none → Q (.ref p) (upd H p (.tup []))
section
variable {X : Cx}
theorem op_repT1 : OpR X (binaryOp .Mult) (rRepT1 X.K) := by
  intro pins s σ H x y v u Q I rx ry h
  obtain ⟨l, k, xs, rfl, rfl, hT, h1, q⟩ := h
  cases rx
  obtain ⟨t, rfl⟩ := ry
  subst h1
  obtain ⟨its, r, ⟨⟨cls, dd, data, sl⟩, ho, hc, n, hd⟩, hs⟩ := I.tuple hT
  simp only at hc hd
  subst hc hd
  have c1 : (its.toArray.isEmpty || (1 : Int) == 1) = true := by simp
  refine wpAny_binaryOp_repeat_ref (T := "tuple") (U := "int") (by decide) ⟨_, ho, rfl⟩ (fun s' => typeIs_int s' 1 t) noFill_tuple_mul F.fills_int_mul F.slot_int_rmul repeat_tuple F.slot_int_index.lookup
    (call_meets F.slot_int_rmul (typeIs_int s 1 t) F.entry_int_rmul (F.args_int_rmul_2 _ _) (int_rmul_tuple 1 t l its.toArray n dd sl)
      ⟨ho, rfl, ⟨_, ho, rfl⟩, call_meets F.slot_tuple_mul ⟨_, ho, rfl⟩ F.entry_tuple_mul (F.args_tuple_mul_2 _ _) (tuple_mulW1 l its.toArray n dd sl 1 t (by decide) c1) ⟨ho, ?_⟩⟩)
  exact ⟨.ref l, H, I, rfl, q⟩
theorem op_repT0 : OpR X (binaryOp .Mult) (rRepT0 X.K) := by
  intro pins s σ H x y v u Q I rx ry h
  obtain ⟨l, k, xs, rfl, rfl, hT, hne, h1, h2, q⟩ := h
  cases rx
  obtain ⟨t, rfl⟩ := ry
  obtain ⟨its, r, ⟨⟨cls, dd, data, sl⟩, ho, hc, n, hd⟩, hs⟩ := I.tuple hT
  simp only at hc hd
  subst hc hd
  have hle : its.length = xs.length := r.length.symm
  have hn : its ≠ [] := fun e => hne (by
    rw [e] at hle
    exact List.eq_nil_of_length_eq_zero hle.symm)
  have hi : its.toArray.isEmpty = false := by
    cases its with
    | nil => exact absurd rfl hn
    | cons a b => rfl
  have c0 : (decide (k < -(2 ^ 63)) || decide (k ≥ 2 ^ 63)) = false := by
    rw [decide_eq_false (by omega), decide_eq_false (by omega)] <;> rfl
  have c1 : (its.toArray.isEmpty || k == 1) = false := by
    rw [hi, Bool.false_or]
    exact beq_eq_false_iff_ne.mpr (by omega)
  have c2 : (decide (k ≤ 0) || its.toArray.isEmpty) = true := by
    rw [decide_eq_true h2]; rfl
  refine wpAny_binaryOp_repeat_ref (T := "tuple") (U := "int") (by decide) ⟨_, ho, rfl⟩ (fun s' => typeIs_int s' k t) noFill_tuple_mul F.fills_int_mul F.slot_int_rmul repeat_tuple F.slot_int_index.lookup
    (call_meets F.slot_int_rmul (typeIs_int s k t) F.entry_int_rmul (F.args_int_rmul_2 _ _) (int_rmul_tuple k t l its.toArray n dd sl)
      ⟨ho, rfl, ⟨_, ho, rfl⟩, call_meets F.slot_tuple_mul ⟨_, ho, rfl⟩ F.entry_tuple_mul (F.args_tuple_mul_2 _ _) (tuple_mulW0 l its.toArray n dd sl k t c0 c1 c2) ⟨ho, ?_⟩⟩)
  refine ⟨.ref s.heap.objs.size, _, I.laid (t' := s.toks) (o := .tup []) (fun b ob q => Heap.get?_push_of_some _ q) (Nat.le_refl _) ?_, rfl, q _ (I.hok.fresh (Nat.le_refl _))⟩
  exact ⟨Nat.zero_le _, [], .nil, IsTup.new _ _⟩
end
end L2
namespace FL
open PySem L2
/-! ## equality of data -/
mutual
def D.eqv : D → D → Bool
  | .non, .non => true
  | .bl a, .bl b => a == b
  | .bl a, .int j => (if a then 1 else 0) == j
  | .int i, .bl b => i == (if b then 1 else 0)
  | .int i, .int j => i == j
  | .str x, .str y => x == y
  | .lst xs, .lst ys => D.eqvA xs ys
  | .tup xs, .tup ys => D.eqvA xs ys
  | _, _ => false
def D.eqvA : List D → List D → Bool
  | [], [] => true
  | x :: xs, y :: ys => D.eqv x y && D.eqvA xs ys
  | _, _ => false
end
mutual
def D.shp : D → Nat → Bool
  | .non, _ => true
  | .bl _, _ => true
  | .int _, _ => true
  | .str x, _ => PyData.strOk x
  | .lst xs, n + 1 => D.shpA xs n
  | .tup xs, n + 1 => D.shpA xs n
  | _, _ => false
def D.shpA : List D → Nat → Bool
  | [], _ => true
  | x :: xs, n => D.shp x n && D.shpA xs n
end
mutual
def D.py : D → PyData
  | .non => .none
  | .bl b => .bool b
  | .int i => .int i
  | .str x => .str x
  | .lst xs => .list (D.pyA xs)
  | .tup xs => .tuple (D.pyA xs)
  | _ => .dict []
def D.pyA : List D → List PyData
  | [] => []
  | x :: xs => D.py x :: D.pyA xs
end
mutual
theorem shp_ok : ∀ (d : D) (n : Nat), d.shp n = true → d.py.canLay0 = true ∧ d.py.depth ≤ n
  | .non, n, h => ⟨rfl, Nat.zero_le _⟩
  | .bl b, n, h => ⟨rfl, Nat.zero_le _⟩
  | .int i, n, h => ⟨rfl, Nat.zero_le _⟩
  | .str x, n, h => ⟨by simpa [D.py, PyData.canLay0, D.shp] using h, Nat.zero_le _⟩
  | .lst xs, n + 1, h => by
    have := shpA_ok xs n (by simpa [D.shp] using h)
    exact ⟨by simpa [D.py, PyData.canLay0] using this.1, by simpa [D.py, PyData.depth] using this.2⟩
  | .tup xs, n + 1, h => by
    have := shpA_ok xs n (by simpa [D.shp] using h)
    exact ⟨by simpa [D.py, PyData.canLay0] using this.1, by simpa [D.py, PyData.depth] using this.2⟩
  | .lst xs, 0, h => by simp [D.shp] at h
  | .tup xs, 0, h => by simp [D.shp] at h
  | .scr _, n, h => by cases n <;> simp [D.shp] at h
  | .dik _ _, n, h => by cases n <;> simp [D.shp] at h
  | .dit _ _, n, h => by cases n <;> simp [D.shp] at h
  | .ins _ _ _, n, h => by cases n <;> simp [D.shp] at h
  | .exc _ _ _, n, h => by cases n <;> simp [D.shp] at h
theorem shpA_ok : ∀ (ds : List D) (n : Nat), D.shpA ds n = true → PyData.canLayAll0 (D.pyA ds) = true ∧ PyData.depthAll (D.pyA ds) ≤ n
  | [], n, h => ⟨rfl, Nat.zero_le _⟩
  | d :: ds, n, h => by
    simp only [D.shpA, Bool.and_eq_true] at h
    have h1 := shp_ok d n h.1
    have h2 := shpA_ok ds n h.2
    refine ⟨by simp [D.pyA, PyData.canLayAll0, h1.1, h2.1], ?_⟩
    simp only [D.pyA, PyData.depthAll]
    omega
end
mutual
theorem rp_dp {K : PySem.W.Frag} {cl : Cl} {F H : Hp} (m : Same F H) : ∀ (d : D) (n : Nat) (v : V), d.shp n = true → Rp K cl F v d → Dp K H v d.py
  | .non, n, v, h, r => by cases r; exact .non
  | .bl b, n, v, h, r => by cases r; exact .bl _
  | .int i, n, v, h, r => by cases r; exact .int _
  | .str x, n, v, h, r => by cases r; exact .str _
  | .lst xs, n + 1, v, h, r => by
    cases r with
    | lst a b => exact .lst (SqL.of (m _ _ a)) (rpA_dp m xs n _ (by simpa [D.shp] using h) b)
  | .tup xs, n + 1, v, h, r => by
    cases r with
    | tup a b => exact .tup (SqT.of (m _ _ a)) (rpA_dp m xs n _ (by simpa [D.shp] using h) b)
  | .lst xs, 0, v, h, r => by simp [D.shp] at h
  | .tup xs, 0, v, h, r => by simp [D.shp] at h
  | .scr _, n, v, h, r => by cases n <;> simp [D.shp] at h
  | .dik _ _, n, v, h, r => by cases n <;> simp [D.shp] at h
  | .dit _ _, n, v, h, r => by cases n <;> simp [D.shp] at h
  | .ins _ _ _, n, v, h, r => by cases n <;> simp [D.shp] at h
  | .exc _ _ _, n, v, h, r => by cases n <;> simp [D.shp] at h
theorem rpA_dp {K : PySem.W.Frag} {cl : Cl} {F H : Hp} (m : Same F H) : ∀ (ds : List D) (n : Nat) (vs : List V), D.shpA ds n = true → RpA K cl F vs ds → DpAll K H vs (D.pyA ds)
  | [], n, vs, h, r => by cases r; exact .nil
  | d :: ds, n, vs, h, r => by
    simp only [D.shpA, Bool.and_eq_true] at h
    cases r with
    | cons a b => exact .cons (rp_dp m d n _ h.1 a) (rpA_dp m ds n _ h.2 b)
end
mutual
theorem eqv_py : ∀ (d e : D) (n k : Nat), d.shp n = true → e.shp k = true → PyData.eqv d.py e.py = D.eqv d e := fun d e n k h1 h2 => by
  cases d <;> cases e <;> first
    | rfl
    | (cases n <;> simp [D.shp] at h1; done)
    | (cases k <;> simp [D.shp] at h2; done)
    | (cases n with
       | zero => simp [D.shp] at h1
       | succ n => cases k with
         | zero => simp [D.shp] at h2
         | succ k =>
           simp only [D.shp] at h1 h2
           simp only [D.py, PyData.eqv, D.eqv]
           exact eqvA_py _ _ n k h1 h2)
    | (cases n <;> simp [D.shp] at h1 <;> simp [D.py, PyData.eqv, D.eqv]; done)
    | (cases k <;> simp [D.shp] at h2 <;> simp [D.py, PyData.eqv, D.eqv]; done)
theorem eqvA_py : ∀ (ds es : List D) (n k : Nat), D.shpA ds n = true → D.shpA es k = true → PyData.eqvAll (D.pyA ds) (D.pyA es) = D.eqvA ds es
  | [], [], _, _, _, _ => rfl
  | [], _ :: _, _, _, _, _ => rfl
  | _ :: _, [], _, _, _, _ => rfl
  | d :: ds, e :: es, n, k, h1, h2 => by
    simp only [D.shpA, Bool.and_eq_true] at h1 h2
    simp only [D.pyA, PyData.eqvAll, D.eqvA]
    rw [eqv_py d e n k h1.1 h2.1, eqvA_py ds es n k h1.2 h2.2]
end
def shp (d : D) : Bool := d.shp 64
theorem shp_sh {d : D} (h : shp d = true) : SeqAt.shaped d.py = true := by
  obtain ⟨h1, h2⟩ := shp_ok d 64 h
  unfold SeqAt.shaped
  rw [h1, Bool.true_and]
  exact decide_eq_true h2
theorem shp_eqv {d e : D} (h : shp d = true) (h' : shp e = true) : PyData.eqv d.py e.py = D.eqv d e := eqv_py d e 64 64 h h'
theorem shp_dp {K : PySem.W.Frag} {cl : Cl} {F H : Hp} {d : D} {v : V} (m : Same F H) (h : shp d = true) (r : Rp K cl F v d) : Dp K H v d.py := rp_dp m d 64 v h r
/-! ## operations -/
def okMul (i j : Int) : Bool := decide (Builtin.Int.intBits i + Builtin.Int.intBits j ≤ 134217728)
def okDiv (i j : Int) : Bool := decide (j ≠ 0) && !Builtin.divisionGoesByPylong i j
def repD (ds : List D) (k : Int) : List D := (List.replicate k.toNat ds).flatten
def fAdd : D → D → Option D
  | .int i, .int j => some (.int (i + j))
  | .tup xs, .tup ys => if xs.length + ys.length < 16777216 then some (.tup (xs ++ ys)) else none
  | .lst xs, .lst ys => if xs.length + ys.length < 16777216 then some (.lst (xs ++ ys)) else none
  | .str x, .str y => if x.length + y.length < 16777216 then some (.str (x ++ y)) else none
  | _, _ => none
def fSub : D → D → Option D
  | .int i, .int j => some (.int (i - j))
  | _, _ => none
def fMul : D → D → Option D
  | .int i, .int j => if okMul i j then some (.int (i * j)) else none
  | .tup xs, .int k => if decide (-1000 ≤ k) && decide (k ≤ 1000) && decide (xs.length ≤ 1000) && !xs.isEmpty then some (.tup (repD xs k)) else none
  | .lst xs, .int k => if decide (-1000 ≤ k) && decide (k ≤ 1000) && decide (xs.length ≤ 1000) then some (.lst (repD xs k)) else none
  | _, _ => none
def fFdiv : D → D → Option D
  | .int i, .int j => if okDiv i j then some (.int (i.fdiv j)) else none
  | _, _ => none
def fMod : D → D → Option D
  | .int i, .int j => if j ≠ 0 then some (.int (i.fmod j)) else none
  | _, _ => none
def okPow (i j : Int) : Bool := decide (0 ≤ j) && decide (j ≤ 1000000) && decide (i.natAbs < 2 ^ 64)
def fPow : D → D → Option D
  | .int i, .int j => if okPow i j then some (.int (i ^ j.toNat)) else none
  | _, _ => none
def fShl : D → D → Option D
  | .int i, .int j => if okPow i j then some (.int (i * 2 ^ j.toNat)) else none
  | _, _ => none
def fShr : D → D → Option D
  | .int i, .int j => if 0 ≤ j then some (.int (i / 2 ^ j.toNat)) else none
  | _, _ => none
def fAnd : D → D → Option D
  | .int i, .int j => some (.int (Builtin.bitAnd i j))
  | _, _ => none
def fOr : D → D → Option D
  | .int i, .int j => some (.int (Builtin.bitOr i j))
  | _, _ => none
def fXor : D → D → Option D
  | .int i, .int j => some (.int (Builtin.bitXor i j))
  | _, _ => none
def fNeg : D → Option D
  | .int i => some (.int (-i))
  | _ => none
def fLt : D → D → Option D
  | .int i, .int j => some (.bl (decide (i < j)))
  | _, _ => none
def fLe : D → D → Option D
  | .int i, .int j => some (.bl (decide (i ≤ j)))
  | _, _ => none
def fGt : D → D → Option D
  | .int i, .int j => some (.bl (decide (j < i)))
  | _, _ => none
def fGe : D → D → Option D
  | .int i, .int j => some (.bl (decide (j ≤ i)))
  | _, _ => none
def fEq (x y : D) : Option D := if shp x && shp y then some (.bl (D.eqv x y)) else none
def fNe (x y : D) : Option D := if shp x && shp y then some (.bl (!D.eqv x y)) else none
def fIsN (x : D) (y : D) : Option D := match y with
  | .non => match x with
    | .non => some (.bl true)
    | _ => some (.bl false)
  | _ => none
def fNotN (x : D) (y : D) : Option D := match y with
  | .non => match x with
    | .non => some (.bl false)
    | _ => some (.bl true)
  | _ => none
def inD (x : D) (ds : List D) : Bool := ds.any fun z => D.eqv z x
def fIn : D → D → Option D
  | x, .lst ds => if shp x && shp (.lst ds) then some (.bl (inD x ds)) else none
  | x, .tup ds => if shp x && shp (.tup ds) then some (.bl (inD x ds)) else none
  | _, _ => none
def fNotIn : D → D → Option D
  | x, .lst ds => if shp x && shp (.lst ds) then some (.bl (!inD x ds)) else none
  | x, .tup ds => if shp x && shp (.tup ds) then some (.bl (!inD x ds)) else none
  | _, _ => none
def fIx : D → D → Option D
  | .lst ds, .int i => atI ds i
  | .tup ds, .int i => atI ds i
  | .scr ns, .int i => (atI ns i).map .int
  | _, _ => none
section
variable {K : PySem.W.Frag} {cl : Cl} {X : Cx}
theorem PostO.int {F H : Hp} {d : D} {v : V} {Q : VK} (m : Same F H) (p : PostO K cl F H (some d) Q) (r : Rp K cl F v d) : Q v H := p v F H (.refl m) r
theorem PostO.new {F H : Hp} {d : D} {Q : VK} {o : HO} {p : Addr} (m : Same F H) (q : PostO K cl F H (some d) Q) (hp : H p = none) (r : ∀ F', Same F F' → F' p = some o → Rp K cl F' (.ref p) d) : Q (.ref p) (upd H p o) := by
  have g := Gr.new (o := o) m hp
  exact q _ _ _ g (r _ g.f upd_same)
/-- an operation on two ints alone -/
theorem op2_I {f : D → D → Option D} {C : Int → Int → Prop} {k : Int → Int → V} {kd : Int → Int → D}
    (hf : ∀ x y z, f x y = some z → ∃ i j, x = .int i ∧ y = .int j ∧ C i j ∧ z = kd i j) (hk : ∀ F i j, Rp K cl F (k i j) (kd i j)) : Op2 K cl (rI C k) f := by
  intro F H x y dx dy Q m rx ry p
  cases q : f dx dy with
  | none => rw [q] at p; exact p.elim
  | some z =>
    rw [q] at p
    obtain ⟨i, j, rfl, rfl, hc, rfl⟩ := hf _ _ _ q
    cases rx; cases ry
    exact ⟨i, j, rfl, rfl, hc, p.int m (hk F i j)⟩
theorem op2_I0 {f : D → D → Option D} {k : Int → Int → V} {kd : Int → Int → D}
    (hf : ∀ x y z, f x y = some z → ∃ i j, x = .int i ∧ y = .int j ∧ z = kd i j) (hk : ∀ F i j, Rp K cl F (k i j) (kd i j)) : Op2 K cl (rI0 k) f := by
  intro F H x y dx dy Q m rx ry p
  cases q : f dx dy with
  | none => rw [q] at p; exact p.elim
  | some z =>
    rw [q] at p
    obtain ⟨i, j, rfl, rfl, rfl⟩ := hf _ _ _ q
    cases rx; cases ry
    exact ⟨i, j, rfl, rfl, p.int m (hk F i j)⟩
theorem o_sub : Op2 K cl (rI0 fun i j => .int (i - j)) fSub := op2_I0 (kd := fun i j => .int (i - j)) (fun x y z h => by cases x <;> cases y <;> simp [fSub] at h; exact ⟨_, _, rfl, rfl, h.symm⟩) fun F i j => .int _
theorem o_fdiv : Op2 K cl (rI (fun i j => okDiv i j = true) fun i j => .int (i.fdiv j)) fFdiv := op2_I (kd := fun i j => .int (i.fdiv j)) (fun x y z h => by cases x <;> cases y <;> simp [fFdiv] at h; exact ⟨_, _, rfl, rfl, h.1, h.2.symm⟩) fun F i j => .int _
theorem op_fdivX : OpR X (binaryOp .FloorDiv) (rI (fun i j => okDiv i j = true) fun i j => .int (i.fdiv j)) := opI fun i j _ _ _ _ _ hc q => by
  unfold okDiv at hc
  simp only [Bool.and_eq_true, decide_eq_true_eq, Bool.not_eq_true'] at hc
  exact PyProof.Rows.floordiv_int hc.1 q (.inl hc.2)
theorem o_mod : Op2 K cl (rI (fun _ j => j ≠ 0) fun i j => .int (i.fmod j)) fMod := op2_I (kd := fun i j => .int (i.fmod j)) (fun x y z h => by cases x <;> cases y <;> simp [fMod] at h; exact ⟨_, _, rfl, rfl, h.1, h.2.symm⟩) fun F i j => .int _
theorem okPow_c {i j : Int} (h : okPow i j = true) : CPow i j := by
  unfold okPow at h
  simp only [Bool.and_eq_true, decide_eq_true_eq] at h
  exact ⟨h.1.1, h.1.2, h.2⟩
theorem o_pow : Op2 K cl (rI CPow fun i j => .int (i ^ j.toNat)) fPow := op2_I (kd := fun i j => .int (i ^ j.toNat)) (fun x y z h => by cases x <;> cases y <;> simp [fPow] at h; exact ⟨_, _, rfl, rfl, okPow_c h.1, h.2.symm⟩) fun F i j => .int _
theorem o_shl : Op2 K cl (rI CPow fun i j => .int (i * 2 ^ j.toNat)) fShl := op2_I (kd := fun i j => .int (i * 2 ^ j.toNat)) (fun x y z h => by cases x <;> cases y <;> simp [fShl] at h; exact ⟨_, _, rfl, rfl, okPow_c h.1, h.2.symm⟩) fun F i j => .int _
theorem o_shr : Op2 K cl (rI (fun _ j => 0 ≤ j) fun i j => .int (i / 2 ^ j.toNat)) fShr := op2_I (kd := fun i j => .int (i / 2 ^ j.toNat)) (fun x y z h => by cases x <;> cases y <;> simp [fShr] at h; exact ⟨_, _, rfl, rfl, h.1, h.2.symm⟩) fun F i j => .int _
theorem o_and : Op2 K cl (rI0 fun i j => .int (Builtin.bitAnd i j)) fAnd := op2_I0 (kd := fun i j => .int (Builtin.bitAnd i j)) (fun x y z h => by cases x <;> cases y <;> simp [fAnd] at h; exact ⟨_, _, rfl, rfl, h.symm⟩) fun F i j => .int _
theorem o_or : Op2 K cl (rI0 fun i j => .int (Builtin.bitOr i j)) fOr := op2_I0 (kd := fun i j => .int (Builtin.bitOr i j)) (fun x y z h => by cases x <;> cases y <;> simp [fOr] at h; exact ⟨_, _, rfl, rfl, h.symm⟩) fun F i j => .int _
theorem o_xor : Op2 K cl (rI0 fun i j => .int (Builtin.bitXor i j)) fXor := op2_I0 (kd := fun i j => .int (Builtin.bitXor i j)) (fun x y z h => by cases x <;> cases y <;> simp [fXor] at h; exact ⟨_, _, rfl, rfl, h.symm⟩) fun F i j => .int _
theorem o_lt : Op2 K cl (rI0 fun i j => .bl (decide (i < j))) fLt := op2_I0 (kd := fun i j => .bl (decide (i < j))) (fun x y z h => by cases x <;> cases y <;> simp [fLt] at h; exact ⟨_, _, rfl, rfl, h.symm⟩) fun F i j => .bl _
theorem o_le : Op2 K cl (rI0 fun i j => .bl (decide (i ≤ j))) fLe := op2_I0 (kd := fun i j => .bl (decide (i ≤ j))) (fun x y z h => by cases x <;> cases y <;> simp [fLe] at h; exact ⟨_, _, rfl, rfl, h.symm⟩) fun F i j => .bl _
theorem o_gt : Op2 K cl (rI0 fun i j => .bl (decide (j < i))) fGt := op2_I0 (kd := fun i j => .bl (decide (j < i))) (fun x y z h => by cases x <;> cases y <;> simp [fGt] at h; exact ⟨_, _, rfl, rfl, h.symm⟩) fun F i j => .bl _
theorem o_ge : Op2 K cl (rI0 fun i j => .bl (decide (j ≤ i))) fGe := op2_I0 (kd := fun i j => .bl (decide (j ≤ i))) (fun x y z h => by cases x <;> cases y <;> simp [fGe] at h; exact ⟨_, _, rfl, rfl, h.symm⟩) fun F i j => .bl _
theorem o_neg : Op1 K cl (rU fun i => .int (-i)) fNeg := by
  intro F H x dx Q m rx p
  cases rx <;> simp only [fNeg] at p <;> first | exact p.elim | exact ⟨_, rfl, p.int m (.int _)⟩
def rAddU (K : PySem.W.Frag) : R2 := fun x y H Q => (rI0 fun i j => .int (i + j)) x y H Q ∨ rCatA K x y H Q ∨ rCat x y H Q ∨ (∃ i j, x = .str i ∧ y = .str j ∧ i.length + j.length ≤ sizeLine ∧ Q (.str (i ++ j)) H)
theorem op_addU : OpR X (binaryOp .Add) (rAddU X.K) := op_add.or (op_catA.or (op_cat.or op_add_str))
theorem o_add : Op2 K cl (rAddU K) fAdd := by
  intro F H x y dx dy Q m rx ry p
  cases rx <;> cases ry <;> simp only [fAdd] at p <;> try exact p.elim
  · exact .inl ⟨_, _, rfl, rfl, p.int m (.int _)⟩
  · rename_i a b
    refine .inr (.inr (.inr ⟨_, _, rfl, rfl, ?_⟩))
    split at p
    · exact ⟨by rw [sizeLine_eq]; omega, p.int m (.str _)⟩
    · exact p.elim
  · rename_i a xs ds ha ra b ys es hb rb
    split at p
    · refine .inr (.inr (.inl ⟨_, _, _, _, rfl, rfl, m _ _ ha, m _ _ hb, by rw [ra.length, rb.length, sizeLine_eq]; omega, fun q hq => ?_⟩))
      exact p.new m hq fun F' hF e => .lst e ((ra.mono hF).app (rb.mono hF))
    · exact p.elim
  · rename_i a xs ds ha ra b ys es hb rb
    split at p
    · refine .inr (.inl ⟨_, _, _, _, rfl, rfl, .of (m _ _ ha), .of (m _ _ hb), by rw [ra.length, rb.length, sizeLine_eq]; omega, fun hx => ?_, fun hx hy => ?_, fun hx hy q hq => ?_⟩)
      · subst hx; cases ra; exact p.int m (.tup hb rb)
      · subst hy; cases rb; rw [List.append_nil] at p; exact p.int m (.tup ha ra)
      · exact p.new m hq fun F' hF e => .tup e ((ra.mono hF).app (rb.mono hF))
    · exact p.elim
theorem RpA.flat {F : Hp} {vs : List V} {ds : List D} (h : RpA K cl F vs ds) : ∀ n : Nat, RpA K cl F (List.replicate n vs).flatten (List.replicate n ds).flatten
  | 0 => .nil
  | n + 1 => by
    rw [List.replicate_succ, List.replicate_succ, List.flatten_cons, List.flatten_cons]
    exact h.app (RpA.flat h n)
def rMulU (K : PySem.W.Frag) : R2 := fun x y H Q => (rI CMulX fun i j => .int (i * j)) x y H Q ∨ rRepT K x y H Q ∨ rRep x y H Q ∨ rRepT1 K x y H Q ∨ rRepT0 K x y H Q
theorem op_mulU : OpR X (binaryOp .Mult) (rMulU X.K) := op_mulX.or (op_repT.or (op_rep.or (op_repT1.or op_repT0)))
theorem o_mul : Op2 K cl (rMulU K) fMul := by
  intro F H x y dx dy Q m rx ry p
  cases rx <;> cases ry <;> simp only [fMul] at p <;> try exact p.elim
  · split at p
    · rename_i h
      exact .inl ⟨_, _, rfl, rfl, by unfold okMul at h; have := of_decide_eq_true h; unfold CMulX; omega, p.int m (.int _)⟩
    · exact p.elim
  · rename_i a xs ds ha ra k
    split at p
    · rename_i h
      simp only [Bool.and_eq_true, decide_eq_true_eq] at h
      have hl := ra.length
      refine .inr (.inr (.inl ⟨_, _, _, rfl, rfl, m _ _ ha, by omega, by omega, ?_, fun q hq => ?_⟩))
      · rw [sizeLine_eq]
        have h1 : xs.length * k.toNat ≤ 1000 * 1000 := Nat.mul_le_mul (by omega) (by omega)
        omega
      · exact p.new m hq fun F' hF e => .lst e ((ra.mono hF).flat _)
    · exact p.elim
  · rename_i a xs ds ha ra k
    split at p
    · rename_i h
      simp only [Bool.and_eq_true, decide_eq_true_eq, Bool.not_eq_true'] at h
      have hl := ra.length
      have hne : xs ≠ [] := by intro e; subst e; cases ra; simp at h
      by_cases h2 : 2 ≤ k
      · exact .inr (.inl ⟨_, _, _, rfl, rfl, .of (m _ _ ha), hne, h2, by omega, by omega, fun q hq => p.new m hq fun F' hF e => .tup e ((ra.mono hF).flat _)⟩)
      · by_cases h1 : k = 1
        · subst h1
          have e : repD ds 1 = ds := by simp [repD]
          rw [e] at p
          exact .inr (.inr (.inr (.inl ⟨_, _, _, rfl, rfl, .of (m _ _ ha), rfl, p.int m (.tup ha ra)⟩)))
        · have e : repD ds k = [] := by
            have : k.toNat = 0 := by omega
            simp [repD, this]
          rw [e] at p
          exact .inr (.inr (.inr (.inr ⟨_, _, _, rfl, rfl, .of (m _ _ ha), hne, by omega, by omega, fun q hq => p.new m hq fun F' hF e => .tup e .nil⟩)))
    · exact p.elim
theorem o_eq : Op2 K cl (rEqD K) fEq := by
  intro F H x y dx dy Q m rx ry p
  unfold fEq at p
  split at p
  · rename_i h
    rw [Bool.and_eq_true] at h
    exact ⟨_, _, shp_dp m h.1 rx, shp_dp m h.2 ry, shp_sh h.1, shp_sh h.2, by rw [shp_eqv h.1 h.2]; exact p.int m (.bl _)⟩
  · exact p.elim
theorem o_ne : Op2 K cl (rNeD K) fNe := by
  intro F H x y dx dy Q m rx ry p
  unfold fNe at p
  split at p
  · rename_i h
    rw [Bool.and_eq_true] at h
    exact ⟨_, _, shp_dp m h.1 rx, shp_dp m h.2 ry, shp_sh h.1, shp_sh h.2, by rw [shp_eqv h.1 h.2]; exact p.int m (.bl _)⟩
  · exact p.elim
theorem o_isN : Op2 K cl (fun x y H Q => y = .non ∧ Q (.bl (decide (x = .non))) H) fIsN := by
  intro F H x y dx dy Q m rx ry p
  unfold fIsN at p
  cases ry <;> simp only at p <;> try exact p.elim
  refine ⟨rfl, ?_⟩
  cases rx <;> exact p.int m (.bl _)
theorem o_notN : Op2 K cl (fun x y H Q => y = .non ∧ Q (.bl (!decide (x = .non))) H) fNotN := by
  intro F H x y dx dy Q m rx ry p
  unfold fNotN at p
  cases ry <;> simp only at p <;> try exact p.elim
  refine ⟨rfl, ?_⟩
  cases rx <;> exact p.int m (.bl _)
/-! in, not in -/
def rInU (K : PySem.W.Frag) : R2 := fun x y H Q => ∃ d ds, Dp K H x d ∧ (Dp K H y (.list ds) ∧ SeqAt.shaped (.list ds) = true ∨ Dp K H y (.tuple ds) ∧ SeqAt.shaped (.tuple ds) = true) ∧ SeqAt.shaped d = true ∧ Q (.bl (ds.any fun z => PyData.eqv z d)) H
def rNotInU (K : PySem.W.Frag) : R2 := fun x y H Q => ∃ d ds, Dp K H x d ∧ (Dp K H y (.list ds) ∧ SeqAt.shaped (.list ds) = true ∨ Dp K H y (.tuple ds) ∧ SeqAt.shaped (.tuple ds) = true) ∧ SeqAt.shaped d = true ∧ Q (.bl (!ds.any fun z => PyData.eqv z d)) H
theorem room_in {A : Around} {d : PyData} {xs : List PyData} (sd : SeqAt.shaped d = true) (hu : A.units + 65 < cLine) : A.units + 1 + min (PyData.depthAll xs) d.depth < cLine := by
  have h1 := SeqAt.depth_of_shaped sd
  have h2 : min (PyData.depthAll xs) d.depth ≤ d.depth := Nat.min_le_right _ _
  omega
theorem op_inU (hu : X.A.units + 65 < cLine) : OpR X (compareOp .In) (rInU X.K) := by
  intro pins s σ H x y v u Q I rx ry h
  obtain ⟨d, ds, hd, he, sd, q⟩ := h
  obtain ⟨as, r1⟩ := Dp.reads I d x v hd rx
  rcases he with ⟨he, se⟩ | ⟨he, se⟩
  · obtain ⟨bs, r2⟩ := Dp.reads I (.list ds) y u he ry
    exact SeqAt.in_list_reads r2 r1 (SeqAt.canLay_of_shaped se) (SeqAt.canLay_of_shaped sd) (room_in sd hu) ⟨.bl _, H, I, rfl, q⟩
  · obtain ⟨bs, r2⟩ := Dp.reads I (.tuple ds) y u he ry
    exact SeqAt.in_tuple_reads r2 r1 (SeqAt.canLay_of_shaped se) (SeqAt.canLay_of_shaped sd) (room_in sd hu) ⟨.bl _, H, I, rfl, q⟩
theorem op_notInU (hu : X.A.units + 65 < cLine) : OpR X (compareOp .NotIn) (rNotInU X.K) := by
  intro pins s σ H x y v u Q I rx ry h
  obtain ⟨d, ds, hd, he, sd, q⟩ := h
  obtain ⟨as, r1⟩ := Dp.reads I d x v hd rx
  rcases he with ⟨he, se⟩ | ⟨he, se⟩
  · obtain ⟨bs, r2⟩ := Dp.reads I (.list ds) y u he ry
    exact SeqAt.notIn_list_reads r2 r1 (SeqAt.canLay_of_shaped se) (SeqAt.canLay_of_shaped sd) (room_in sd hu) ⟨.bl _, H, I, rfl, q⟩
  · obtain ⟨bs, r2⟩ := Dp.reads I (.tuple ds) y u he ry
    exact SeqAt.notIn_tuple_reads r2 r1 (SeqAt.canLay_of_shaped se) (SeqAt.canLay_of_shaped sd) (room_in sd hu) ⟨.bl _, H, I, rfl, q⟩
theorem pyA_any {x : D} (hx : shp x = true) : ∀ (ds : List D) (n : Nat), D.shpA ds n = true → ((D.pyA ds).any fun z => PyData.eqv z x.py) = inD x ds
  | [], _, _ => rfl
  | d :: ds, n, h => by
    simp only [D.shpA, Bool.and_eq_true] at h
    have e := pyA_any hx ds n h.2
    unfold inD at e ⊢
    simp only [D.pyA, List.any_cons]
    rw [e, eqv_py d x n 64 h.1 hx]
theorem o_in : Op2 K cl (rInU K) fIn := by
  intro F H x y dx dy Q m rx ry p
  cases ry with
  | lst a b =>
    simp only [fIn] at p
    split at p
    · rename_i h
      rw [Bool.and_eq_true] at h
      refine ⟨_, _, shp_dp m h.1 rx, .inl ⟨shp_dp m h.2 (.lst a b), shp_sh h.2⟩, shp_sh h.1, ?_⟩
      rw [pyA_any h.1 _ 63 (by simpa [shp, D.shp] using h.2)]
      exact p.int m (.bl _)
    · exact p.elim
  | tup a b =>
    simp only [fIn] at p
    split at p
    · rename_i h
      rw [Bool.and_eq_true] at h
      refine ⟨_, _, shp_dp m h.1 rx, .inr ⟨shp_dp m h.2 (.tup a b), shp_sh h.2⟩, shp_sh h.1, ?_⟩
      rw [pyA_any h.1 _ 63 (by simpa [shp, D.shp] using h.2)]
      exact p.int m (.bl _)
    · exact p.elim
  | _ => simp only [fIn] at p; exact p.elim
theorem o_notIn : Op2 K cl (rNotInU K) fNotIn := by
  intro F H x y dx dy Q m rx ry p
  cases ry with
  | lst a b =>
    simp only [fNotIn] at p
    split at p
    · rename_i h
      rw [Bool.and_eq_true] at h
      refine ⟨_, _, shp_dp m h.1 rx, .inl ⟨shp_dp m h.2 (.lst a b), shp_sh h.2⟩, shp_sh h.1, ?_⟩
      rw [pyA_any h.1 _ 63 (by simpa [shp, D.shp] using h.2)]
      exact p.int m (.bl _)
    · exact p.elim
  | tup a b =>
    simp only [fNotIn] at p
    split at p
    · rename_i h
      rw [Bool.and_eq_true] at h
      refine ⟨_, _, shp_dp m h.1 rx, .inr ⟨shp_dp m h.2 (.tup a b), shp_sh h.2⟩, shp_sh h.1, ?_⟩
      rw [pyA_any h.1 _ 63 (by simpa [shp, D.shp] using h.2)]
      exact p.int m (.bl _)
    · exact p.elim
  | _ => simp only [fNotIn] at p; exact p.elim
/-! items -/
def rIxU (K : PySem.W.Frag) : R2 := fun x y H Q => rIxL K x y H Q ∨ rIxT K x y H Q
theorem ix_U : IxR X (rIxU X.K) := ix_list.or ix_tup
theorem atI_rp {F : Hp} {vs : List V} {ds : List D} {i : Int} {d : D} (h : RpA K cl F vs ds) (e : atI ds i = some d) : ∃ v, atI vs i = some v ∧ Rp K cl F v d := by
  unfold atI at e ⊢
  rw [h.length]
  cases q : ixN ds.length i with
  | none => rw [q] at e; cases e
  | some j =>
    rw [q] at e
    exact h.get' e
theorem atI_map {α β : Type} (f : α → β) (xs : List α) (i : Int) : atI (xs.map f) i = (atI xs i).map f := by
  unfold atI
  rw [List.length_map]
  cases ixN xs.length i with
  | none => rfl
  | some j => simp
theorem o_ix : Op2 K cl (rIxU K) fIx := by
  intro F H x y dx dy Q m rx ry p
  cases rx <;> cases ry <;> simp only [fIx] at p <;> try exact p.elim
  · rename_i a xs ds ha ra i
    cases q : atI ds i with
    | none => rw [q] at p; exact p.elim
    | some d =>
      rw [q] at p
      obtain ⟨v, h1, h2⟩ := atI_rp ra q
      exact .inl ⟨_, _, _, _, rfl, rfl, .of (m _ _ ha), h1, p.int m h2⟩
  · rename_i a xs ds ha ra i
    cases q : atI ds i with
    | none => rw [q] at p; exact p.elim
    | some d =>
      rw [q] at p
      obtain ⟨v, h1, h2⟩ := atI_rp ra q
      exact .inr ⟨_, _, _, _, rfl, rfl, .of (m _ _ ha), h1, p.int m h2⟩
  · rename_i a ns ha i
    cases q : atI ns i with
    | none => rw [q] at p; exact p.elim
    | some d =>
      rw [q] at p
      exact .inl ⟨_, _, _, _, rfl, rfl, m.seq ha, by rw [atI_map, q]; rfl, p.int m (.int _)⟩
end
end FL
namespace FL
open PySem L2
/-! ## in, with dicts -/
def keyOf : D → Option Key
  | .int i => some (.inl i)
  | .str x => some (.inr x)
  | _ => none
def keysOf : List D → Option (List Key)
  | [] => some []
  | d :: ds => match keyOf d, keysOf ds with
    | some k, some ks => some (k :: ks)
    | _, _ => none
def hasK {κ : Type} [DecidableEq κ] (ks : List κ) (k : κ) : Bool := ks.any fun j => decide (j = k)
def dmap : D → D → Option Bool
  | x, .dik ks _ => (keyOf x).map fun k => hasK ks k
  | .tup ds, .dit ks _ => (keysOf ds).map fun k => hasK ks k
  | _, _ => none
def gIn (x y : D) : Option D := match dmap x y with
  | some b => some (.bl b)
  | none => fIn x y
def gNotIn (x y : D) : Option D := match dmap x y with
  | some b => some (.bl (!b))
  | none => fNotIn x y
section
variable {K : PySem.W.Frag} {cl : Cl} {X : Cx}
theorem keyOf_rp {F : Hp} {d : D} {v : V} {k : Key} (r : Rp K cl F v d) (e : keyOf d = some k) : v = kV k := by
  cases r <;> simp [keyOf] at e <;> subst e <;> rfl
theorem keysOf_rp {F : Hp} : ∀ {ds : List D} {vs : List V} {ks : List Key}, RpA K cl F vs ds → keysOf ds = some ks → vs = ks.map kV
  | [], _, _, r, e => by cases r; simp [keysOf] at e; subst e; rfl
  | d :: ds, _, _, r, e => by
    cases r with
    | cons a b =>
      simp only [keysOf] at e
      split at e
      · rename_i k ks h1 h2
        cases e
        rw [keyOf_rp a h1, keysOf_rp b h2]; rfl
      · cases e
theorem valV_some {κ : Type} [DecidableEq κ] (k : κ) : ∀ kvs : List (κ × V), (valV kvs k).isSome = hasK (kvs.map (·.1)) k
  | [] => rfl
  | p :: r => by
    by_cases h : p.1 = k
    · rw [valV_pos h]; simp [h, hasK]
    · rw [valV_neg h, valV_some k r]; simp [h, hasK]
theorem dmap_get {F H : Hp} {x y : V} {dx dy : D} {b : Bool} (m : Same F H) (rx : Rp K cl F x dx) (ry : Rp K cl F y dy) (e : dmap dx dy = some b) : ∃ a o, y = .ref a ∧ DGet H a x o ∧ o.isSome = b := by
  cases ry with
  | dik a e2 h =>
    rename_i ad kvs ks ds
    have e : (keyOf dx).map (fun k => hasK ks k) = some b := by cases dx <;> exact e
    cases q : keyOf dx with
    | none => rw [q] at e; cases e
    | some k =>
      rw [q] at e; cases e
      have := keyOf_rp rx q; subst this
      exact ⟨_, _, rfl, .k (m _ _ a), by rw [valV_some, e2]⟩
  | dit a e2 h =>
    rename_i ad kvs ks ds
    cases rx with
    | tup ha hr =>
      rename_i ax xv xs
      have e : (keysOf xs).map (fun k => hasK ks k) = some b := e
      cases q : keysOf xs with
      | none => rw [q] at e; cases e
      | some k =>
        rw [q] at e; cases e
        have := keysOf_rp hr q; subst this
        exact ⟨_, _, rfl, .t (m _ _ a) (m _ _ ha), by rw [valV_some, e2]⟩
    | _ => cases e
  | _ => cases rx <;> cases e
def rInA (K : PySem.W.Frag) : R2 := fun x y H Q => (∃ a o, y = .ref a ∧ DGet H a x o ∧ Q (.bl o.isSome) H) ∨ rInU K x y H Q
def rNotInA (K : PySem.W.Frag) : R2 := fun x y H Q => (∃ a o, y = .ref a ∧ DGet H a x o ∧ Q (.bl (!o.isSome)) H) ∨ rNotInU K x y H Q
theorem op_inDict (hu : X.A.units + 65 < cLine) : OpR X (compareOp .In) (fun x y H Q => ∃ a o, y = .ref a ∧ DGet H a x o ∧ Q (.bl o.isSome) H) := by
  intro pins s σ H x y v u Q I rx ry h
  obtain ⟨a, o, rfl, g, q⟩ := h
  cases ry
  exact d_in (by omega) I g rx fun s' I' => ⟨.bl _, H, I', rfl, q⟩
theorem op_notInDict (hu : X.A.units + 65 < cLine) : OpR X (compareOp .NotIn) (fun x y H Q => ∃ a o, y = .ref a ∧ DGet H a x o ∧ Q (.bl (!o.isSome)) H) := by
  intro pins s σ H x y v u Q I rx ry h
  obtain ⟨a, o, rfl, g, q⟩ := h
  cases ry
  exact d_notIn (by omega) I g rx fun s' I' => ⟨.bl _, H, I', rfl, q⟩
theorem op_inA (hu : X.A.units + 65 < cLine) : OpR X (compareOp .In) (rInA X.K) := (op_inDict hu).or (op_inU hu)
theorem op_notInA (hu : X.A.units + 65 < cLine) : OpR X (compareOp .NotIn) (rNotInA X.K) := (op_notInDict hu).or (op_notInU hu)
theorem o_inA : Op2 K cl (rInA K) gIn := by
  intro F H x y dx dy Q m rx ry p
  unfold gIn at p
  split at p
  · rename_i b e
    obtain ⟨a, o, h1, h2, h3⟩ := dmap_get m rx ry e
    exact .inl ⟨a, o, h1, h2, by rw [h3]; exact p.int m (.bl _)⟩
  · exact .inr (o_in F H x y dx dy Q m rx ry p)
theorem o_notInA : Op2 K cl (rNotInA K) gNotIn := by
  intro F H x y dx dy Q m rx ry p
  unfold gNotIn at p
  split at p
  · rename_i b e
    obtain ⟨a, o, h1, h2, h3⟩ := dmap_get m rx ry e
    exact .inl ⟨a, o, h1, h2, by rw [h3]; exact p.int m (.bl _)⟩
  · exact .inr (o_notIn F H x y dx dy Q m rx ry p)
end
/-! ## tests -/
def tru : D → Option Bool
  | .non => some false
  | .bl b => some b
  | .int i => some (i != 0)
  | .str x => if x.length < 16777216 then some ((x.length : Int) != 0) else none
  | .lst ds => some (!ds.isEmpty)
  | .tup ds => some (!ds.isEmpty)
  | _ => none
def mTru (m : En → Res D) : En → Res Bool := fun ρ => (m ρ).bind fun d => .ofO (tru d)
def isBl : D → Option Bool
  | .bl b => some b
  | _ => none
def mTst (m : En → Res D) : En → Res Bool := fun ρ => (m ρ).bind fun d => .ofO (isBl d)
def mtNot (m : En → Res Bool) : En → Res Bool := fun ρ => (m ρ).bind fun b => .ok (!b)
def mtAnd (m n : En → Res Bool) : En → Res Bool := fun ρ => (m ρ).bind fun b => if b then n ρ else .ok false
def mtOr (m n : En → Res Bool) : En → Res Bool := fun ρ => (m ρ).bind fun b => if b then .ok true else n ρ
def mAnd (m n : En → Res D) : En → Res D := fun ρ => (m ρ).bind fun d => match isBl d with
  | some true => n ρ
  | some false => .ok (.bl false)
  | none => .bad
def mOr (m n : En → Res D) : En → Res D := fun ρ => (m ρ).bind fun d => match isBl d with
  | some true => .ok (.bl true)
  | some false => n ρ
  | none => .bad
def mNot (m : En → Res D) : En → Res D := fun ρ => (m ρ).bind fun d => match isBl d with
  | some b => .ok (.bl (!b))
  | none => .bad
def mIf (t : En → Res Bool) (m n : En → Res D) : En → Res D := fun ρ => (t ρ).bind fun b => if b then m ρ else n ρ
section
variable {X : Cx} {cl : Cl} {W : WX} {e a b : Expr} {es : List Expr} {ma mb m n : En → Res D} {ms : En → Res (List D)} {pos : Pos} {t u : En → Res Bool}
theorem PostE.gr {K : PySem.W.Frag} {σ : L2.St} {F H F' H' : Hp} {r : Res D} {Q : VK} (p : PostE K cl W σ F H r Q) (g : Gr F H F' H') : PostE K cl W σ F' H' r Q := by
  cases r with
  | bad => exact p
  | er e => exact fun c dd F2 H2 g2 h2 => p c dd F2 H2 (g.trans g2) h2
  | ok d => exact fun v F2 H2 g2 h2 => p v F2 H2 (g.trans g2) h2
theorem PostT.gr {K : PySem.W.Frag} {σ : L2.St} {F H F' H' : Hp} {r : Res Bool} {Q : Bool → Hp → Prop} (p : PostT K cl W σ F H r Q) (g : Gr F H F' H') : PostT K cl W σ F' H' r Q := by
  cases r with
  | bad => exact p
  | er e => exact fun c dd F2 H2 g2 h2 => p c dd F2 H2 (g.trans g2) h2
  | ok d => exact fun F2 H2 g2 => p F2 H2 (g.trans g2)
theorem isBl_rp {K : PySem.W.Frag} {F : Hp} {d : D} {v : V} {b : Bool} (r : Rp K cl F v d) (e : isBl d = some b) : v = .bl b := by
  cases r <;> simp [isBl] at e; subst e; rfl
theorem sb_tst (h : PT X e (tTest (tM X.K cl W m))) : SB X cl W e (mTst m) := by
  refine PT.of h ?_
  rintro σ H Q ⟨B, F0, F, ρ, s, p⟩
  refine ⟨B, F0, F, ρ, s, ?_⟩
  unfold mTst at p
  cases q : m ρ with
  | bad => rw [q] at p; exact p
  | er e => rw [q] at p; exact p
  | ok d =>
    rw [q] at p
    intro v F' H' g h
    cases q2 : isBl d with
    | none => rw [show (Res.ok d).bind (fun d => Res.ofO (isBl d)) = Res.bad by show Res.ofO (isBl d) = _; rw [q2]; rfl] at p; exact p.elim
    | some k =>
      rw [show (Res.ok d).bind (fun d => Res.ofO (isBl d)) = Res.ok k by show Res.ofO (isBl d) = _; rw [q2]; rfl] at p
      exact ⟨k, isBl_rp h q2, p F' H' g⟩
theorem sb_cmp {op : CmpOp} {r : R2} {f : D → D → Option D} (ho : OpR X (compareOp op) r) (hr : Op2 X.K cl r f) (ha : SE X cl W a ma) (hb : SE X cl W b mb) (hm : behindInMarks op b = false) : SB X cl W (.Compare a [op] [b] pos) (mTst (mOp2 f ma mb)) :=
  sb_tst ((pt_cmpR ho ha hb hm).of fun σ H Q h => op2_in hr σ H _ h)
theorem tru_rp {K : PySem.W.Frag} {F H : Hp} {d : D} {v : V} {b : Bool} (fh : Same F H) (r : Rp K cl F v d) (e : tru d = some b) : TruV K v H b := by
  cases r with
  | non => simp [tru] at e; subst e; exact rfl
  | bl b => simp [tru] at e; subst e; exact rfl
  | int i => simp [tru] at e; subst e; rfl
  | str x =>
    simp only [tru] at e
    split at e
    · cases e
      refine ⟨?_, rfl⟩
      rw [sizeLine_eq]
      omega
    · cases e
  | lst a h =>
    rename_i aa xs ds
    simp only [tru, Option.some.injEq] at e
    subst e
    exact .inl ⟨_, .of (fh _ _ a), by have := h.length; cases xs <;> cases ds <;> simp_all⟩
  | tup a h =>
    rename_i aa xs ds
    simp only [tru, Option.some.injEq] at e
    subst e
    exact .inr (.inl ⟨_, .of (fh _ _ a), by have := h.length; cases xs <;> cases ds <;> simp_all⟩)
  | _ => simp [tru] at e
theorem sb_val (h : SE X cl W e m) (he : ∀ whole, isTrue e X.env whole = (do let v ← whole; standAt e.pos; holding [v] (truthy v)) := by intro _; rfl) : SB X cl W e (mTru m) := by
  refine (pt_truth h he).of ?_
  rintro σ H Q ⟨B, F0, F, ρ, s, p⟩
  refine ⟨B, F0, F, ρ, s, ?_⟩
  unfold mTru at p
  cases q : m ρ with
  | bad => rw [q] at p; exact p
  | er e => rw [q] at p; exact p
  | ok d =>
    rw [q] at p
    intro v F' H' g h
    cases q2 : tru d with
    | none => rw [show (Res.ok d).bind (fun d => Res.ofO (tru d)) = Res.bad by show Res.ofO (tru d) = _; rw [q2]; rfl] at p; exact p.elim
    | some k =>
      rw [show (Res.ok d).bind (fun d => Res.ofO (tru d)) = Res.ok k by show Res.ofO (tru d) = _; rw [q2]; rfl] at p
      exact ⟨k, tru_rp g.fh h q2, p F' H' g⟩
/-- the second part behind a test -/
theorem stepT {K : PySem.W.Frag} {σ : L2.St} {B F0 F H : Hp} {ρ : En} {r : Res Bool} {g : Bool → Res D} {Q : VK} (s : SOk K cl B F0 F σ H ρ) (p : PostE K cl W σ F H (r.bind g) Q) :
    PostT K cl W σ F H r fun b H' => ∃ F', Gr F H F' H' ∧ PostE K cl W σ F' H' (g b) Q := by
  cases r with
  | bad => exact p
  | er e => exact p
  | ok d =>
    intro F' H' g1
    have p : PostE K cl W σ F H (g d) Q := p
    exact ⟨F', g1, p.gr g1⟩
theorem stepTT {K : PySem.W.Frag} {σ : L2.St} {B F0 F H : Hp} {ρ : En} {r : Res Bool} {g : Bool → Res Bool} {Q : Bool → Hp → Prop} (s : SOk K cl B F0 F σ H ρ) (p : PostT K cl W σ F H (r.bind g) Q) :
    PostT K cl W σ F H r fun b H' => ∃ F', Gr F H F' H' ∧ PostT K cl W σ F' H' (g b) Q := by
  cases r with
  | bad => exact p
  | er e => exact p
  | ok d =>
    intro F' H' g1
    have p : PostT K cl W σ F H (g d) Q := p
    exact ⟨F', g1, p.gr g1⟩
theorem PostT.imp {K : PySem.W.Frag} {σ : L2.St} {F H : Hp} {r : Res Bool} {Q Q' : Bool → Hp → Prop} (p : PostT K cl W σ F H r Q) (h : ∀ b H', Q b H' → Q' b H') : PostT K cl W σ F H r Q' := by
  cases r with
  | bad => exact p
  | er e => exact p
  | ok b => exact fun F' H' g => h _ _ (p F' H' g)
theorem PostE.imp {K : PySem.W.Frag} {σ : L2.St} {F H : Hp} {r : Res D} {Q Q' : VK} (p : PostE K cl W σ F H r Q) (h : ∀ b H', Q b H' → Q' b H') : PostE K cl W σ F H r Q' := by
  cases r with
  | bad => exact p
  | er e => exact p
  | ok b => exact fun v F' H' g r => h _ _ (p v F' H' g r)
theorem sb_not (h : SB X cl W a t) : SB X cl W (.UnaryOp .Not a pos) (mtNot t) := by
  refine (pt_not h).of ?_
  rintro σ H Q ⟨B, F0, F, ρ, s, p⟩
  refine ⟨B, F0, F, ρ, s, (stepTT s p).imp ?_⟩
  rintro b H' ⟨F', g, p⟩
  exact p F' H' (.refl g.fh)
abbrev SW (X : Cx) (cl : Cl) (W : WX) (e : Expr) (m : En → Res Bool) : Prop := PW X e (tT X.K cl W m)
variable {rest : List Expr}
theorem sw_and1 (h : SB X cl W a t) : SW X cl W (.BoolOp .And [a] pos) t := pw_and1 h
theorem sw_or1 (h : SB X cl W a t) : SW X cl W (.BoolOp .Or [a] pos) t := pw_or1 h
theorem sw_and (ha : SB X cl W a t) (hb : SW X cl W (.BoolOp .And (b :: rest) pos) u) : SW X cl W (.BoolOp .And (a :: b :: rest) pos) (mtAnd t u) := by
  refine (pw_and ha hb).of ?_
  rintro σ H Q ⟨B, F0, F, ρ, s, p⟩
  refine ⟨B, F0, F, ρ, s, (stepTT s p).imp ?_⟩
  rintro b H' ⟨F', g, p⟩
  cases b with
  | true => exact ⟨B, F0, F', ρ, s.grow g, p⟩
  | false => exact p F' H' (.refl g.fh)
theorem sw_or (ha : SB X cl W a t) (hb : SW X cl W (.BoolOp .Or (b :: rest) pos) u) : SW X cl W (.BoolOp .Or (a :: b :: rest) pos) (mtOr t u) := by
  refine (pw_or ha hb).of ?_
  rintro σ H Q ⟨B, F0, F, ρ, s, p⟩
  refine ⟨B, F0, F, ρ, s, (stepTT s p).imp ?_⟩
  rintro b H' ⟨F', g, p⟩
  cases b with
  | false => exact ⟨B, F0, F', ρ, s.grow g, p⟩
  | true => exact p F' H' (.refl g.fh)
theorem sw_b (h : SW X cl W e t) : SB X cl W e t := h.pt
theorem so_one {op} (h : SE X cl W a m) : SE X cl W (.BoolOp op [a] pos) m := pe_one h
theorem so_and (ha : SE X cl W a m) (hb : SE X cl W (.BoolOp .And (b :: rest) pos) n) : SE X cl W (.BoolOp .And (a :: b :: rest) pos) (mAnd m n) := by
  refine (pe_and ha hb).of ?_
  rintro σ H Q ⟨B, F0, F, ρ, s, p⟩
  refine ⟨B, F0, F, ρ, s, (step1 s p).imp ?_⟩
  rintro v H' ⟨d, F', e, g, r, p⟩
  cases q : isBl d with
  | none => rw [q] at p; exact p.elim
  | some b =>
    rw [q] at p
    refine ⟨b, isBl_rp r q, ?_⟩
    cases b with
    | true => exact ⟨B, F0, F', ρ, s.grow g, p⟩
    | false => exact p _ F' H' (.refl g.fh) (.bl _)
theorem so_or (ha : SE X cl W a m) (hb : SE X cl W (.BoolOp .Or (b :: rest) pos) n) : SE X cl W (.BoolOp .Or (a :: b :: rest) pos) (mOr m n) := by
  refine (pe_or ha hb).of ?_
  rintro σ H Q ⟨B, F0, F, ρ, s, p⟩
  refine ⟨B, F0, F, ρ, s, (step1 s p).imp ?_⟩
  rintro v H' ⟨d, F', e, g, r, p⟩
  cases q : isBl d with
  | none => rw [q] at p; exact p.elim
  | some b =>
    rw [q] at p
    refine ⟨b, isBl_rp r q, ?_⟩
    cases b with
    | false => exact ⟨B, F0, F', ρ, s.grow g, p⟩
    | true => exact p _ F' H' (.refl g.fh) (.bl _)
theorem so_not (ha : SE X cl W a m) : SE X cl W (.UnaryOp .Not a pos) (mNot m) := by
  refine (pe_not ha).of ?_
  rintro σ H Q ⟨B, F0, F, ρ, s, p⟩
  refine ⟨B, F0, F, ρ, s, (step1 s p).imp ?_⟩
  rintro v H' ⟨d, F', e, g, r, p⟩
  cases q : isBl d with
  | none => rw [q] at p; exact p.elim
  | some b =>
    rw [q] at p
    exact ⟨b, isBl_rp r q, p _ F' H' (.refl g.fh) (.bl _)⟩
theorem so_if {c : Expr} (hc : SB X cl W c t) (ha : SE X cl W a m) (hb : SE X cl W b n) : SE X cl W (.IfExp c a b pos) (mIf t m n) := by
  refine (pe_ifExp hc ha hb).of ?_
  rintro σ H Q ⟨B, F0, F, ρ, s, p⟩
  refine ⟨B, F0, F, ρ, s, (stepT s p).imp ?_⟩
  rintro b H' ⟨F', g, p⟩
  cases b with
  | true => exact ⟨B, F0, F', ρ, s.grow g, p⟩
  | false => exact ⟨B, F0, F', ρ, s.grow g, p⟩
end
/-! ## calls of built-ins -/
def OpA (K : PySem.W.Frag) (cl : Cl) (r : List V → Hp → VK → Prop) (f : List D → Option D) : Prop := ∀ F H vs ds Q, Same F H → RpA K cl F vs ds → PostO K cl F H (f ds) Q → r vs H Q
def mOpA (f : List D → Option D) (ms : En → Res (List D)) : En → Res D := fun ρ => (ms ρ).bind fun ds => .ofO (f ds)
section
variable {X : Cx} {cl : Cl} {W : WX} {e a b : Expr} {es : List Expr} {ma mb m n : En → Res D} {ms : En → Res (List D)} {p pos : Pos} {x : Str} {id T : String} {r : List V → Hp → VK → Prop} {f : List D → Option D}
theorem PostA.imp {K : PySem.W.Frag} {σ : L2.St} {F H : Hp} {r : Res (List D)} {Q Q' : List V → Hp → Prop} (p : PostA K cl W σ F H r Q) (h : ∀ b H', Q b H' → Q' b H') : PostA K cl W σ F H r Q' := by
  cases r with
  | bad => exact p
  | er e => exact p
  | ok b => exact fun v F' H' g r => h _ _ (p v F' H' g r)
theorem stepA {K : PySem.W.Frag} {σ : L2.St} {B F0 F H : Hp} {ρ : En} {r : Res (List D)} {g : List D → Res D} {Q : VK} (s : SOk K cl B F0 F σ H ρ) (p : PostE K cl W σ F H (r.bind g) Q) :
    PostA K cl W σ F H r fun vs H' => ∃ ds F', r = .ok ds ∧ Gr F H F' H' ∧ RpA K cl F' vs ds ∧ PostE K cl W σ F' H' (g ds) Q := by
  cases r with
  | bad => exact p
  | er e => exact p
  | ok ds =>
    intro vs F' H' g1 h1
    have p : PostE K cl W σ F H (g ds) Q := p
    exact ⟨ds, F', rfl, g1, h1, p.gr g1⟩
theorem opA_in (hr : OpA X.K cl r f) : ∀ σ H Q, tM X.K cl W (mOpA f ms) σ H Q → tCB r (tA X.K cl W ms) σ H Q := by
  rintro σ H Q ⟨B, F0, F, ρ, s, p⟩
  refine ⟨B, F0, F, ρ, s, (stepA s p).imp ?_⟩
  rintro vs H' ⟨ds, F', e, g, h, p⟩
  exact hr F' H' vs ds Q g.fh h (.of p)
theorem so_callB (hc : CallR X (.builtin id) r) (hr : OpA X.K cl r f) (hg : Gl X x) (hm : X.mg x = none) (hv : bootBuiltins x = some (.builtin id)) (ha : SA X cl W (e :: es) ms) (hn : x ≠ "__name__" := by decide) (hdb : (x == ("__debug__" : Str)) = false := by decide)
    (he : starEach (e :: es) X.env = (false, eval e X.env) :: starEach es X.env := by rfl) (hpl : (backTo pos (starEach es X.env)).any (·.1) = false := by rfl) : SE X cl W (.Call (.Name x p) (e :: es) [] pos) (mOpA f ms) :=
  (pe_callB hc hg hm hv ha hn hdb he hpl).of (opA_in hr)
theorem so_callTy (hc : CallR X (.type T) r) (hr : OpA X.K cl r f) (hg : Gl X x) (hm : X.mg x = none) (hv : bootBuiltins x = some (.type T)) (ha : SA X cl W (e :: es) ms) (hn : x ≠ "__name__" := by decide) (hdb : (x == ("__debug__" : Str)) = false := by decide)
    (he : starEach (e :: es) X.env = (false, eval e X.env) :: starEach es X.env := by rfl) (hpl : (backTo pos (starEach es X.env)).any (·.1) = false := by rfl) : SE X cl W (.Call (.Name x p) (e :: es) [] pos) (mOpA f ms) :=
  (pe_callTy hc hg hm hv ha hn hdb he hpl).of (opA_in hr)
theorem so_callF (hc : CallR X (.builtin id) r) (hr : OpA X.K cl r f) (hg : Gl X x) (hm : X.mg x = some (.builtin id)) (ha : SA X cl W (e :: es) ms) (hdb : (x == ("__debug__" : Str)) = false := by decide)
    (he : starEach (e :: es) X.env = (false, eval e X.env) :: starEach es X.env := by rfl) (hpl : (backTo pos (starEach es X.env)).any (·.1) = false := by rfl) : SE X cl W (.Call (.Name x p) (e :: es) [] pos) (mOpA f ms) :=
  (pe_callBfun hc hg hm ha hdb he hpl).of (opA_in hr)
end
def intsOf : List D → Option (List Int)
  | [] => some []
  | .int i :: ds => (intsOf ds).map (i :: ·)
  | _ :: _ => none
def blsOf : List D → Option (List Bool)
  | [] => some []
  | .bl b :: ds => (blsOf ds).map (b :: ·)
  | _ :: _ => none
def fLen : List D → Option D
  | [.lst ds] => some (.int ds.length)
  | [.tup ds] => some (.int ds.length)
  | [.scr ns] => some (.int ns.length)
  | [.str x] => if x.length < 16777216 then some (.int x.length) else none
  | _ => none
def fAbs : List D → Option D
  | [.int i] => some (.int (if i < 0 then -i else i))
  | _ => none
def fInt : List D → Option D
  | [.int i] => some (.int i)
  | [.bl b] => some (.int (if b then 1 else 0))
  | _ => none
def fGcd : List D → Option D
  | [.int a, .int b] => some (.int ((Nat.gcd a.natAbs b.natAbs : Nat) : Int))
  | _ => none
def fTuple : List D → Option D
  | [.lst ds] => some (.tup ds)
  | [.tup ds] => some (.tup ds)
  | _ => none
def fList : List D → Option D
  | [.lst ds] => some (.lst ds)
  | [.tup ds] => some (.lst ds)
  | _ => none
def fSum : List D → Option D
  | [.lst ds] => (intsOf ds).map fun ns => .int ns.sum
  | [.tup ds] => (intsOf ds).map fun ns => .int ns.sum
  | _ => none
def minI : List Int → Option Int
  | [] => none
  | [a] => some a
  | a :: r => (minI r).map fun m => if a ≤ m then a else m
def maxI : List Int → Option Int
  | [] => none
  | [a] => some a
  | a :: r => (maxI r).map fun m => if m ≤ a then a else m
def fMin : List D → Option D
  | [.lst ds] => (intsOf ds).bind fun ns => (minI ns).map .int
  | [.int i, .int j] => some (.int (if j < i then j else i))
  | _ => none
def fMax : List D → Option D
  | [.lst ds] => (intsOf ds).bind fun ns => (maxI ns).map .int
  | [.int i, .int j] => some (.int (if j > i then j else i))
  | _ => none
def fAny : List D → Option D
  | [.lst ds] => (blsOf ds).map fun bs => .bl (bs.any id)
  | _ => none
def fAll : List D → Option D
  | [.lst ds] => (blsOf ds).map fun bs => .bl (bs.all id)
  | _ => none
section
variable {K : PySem.W.Frag} {cl : Cl} {X : Cx}
theorem RpA.one {F : Hp} {vs : List V} {d : D} (h : RpA K cl F vs [d]) : ∃ v, vs = [v] ∧ Rp K cl F v d := by
  cases h with
  | cons a b => cases b; exact ⟨_, rfl, a⟩
theorem RpA.two {F : Hp} {vs : List V} {d e : D} (h : RpA K cl F vs [d, e]) : ∃ v u, vs = [v, u] ∧ Rp K cl F v d ∧ Rp K cl F u e := by
  cases h with
  | cons a b => obtain ⟨u, rfl, h⟩ := b.one; exact ⟨_, _, rfl, a, h⟩
theorem intsOf_rp {F : Hp} : ∀ {ds : List D} {vs : List V} {ns : List Int}, RpA K cl F vs ds → intsOf ds = some ns → vs = ns.map V.int
  | [], _, _, r, e => by cases r; cases e; rfl
  | d :: ds, _, _, r, e => by
    cases r with
    | cons a b =>
      cases a <;> simp only [intsOf] at e <;> try cases e
      obtain ⟨ns, h1, rfl⟩ := Option.map_eq_some_iff.mp e
      rw [intsOf_rp b h1]; rfl
theorem blsOf_rp {F : Hp} : ∀ {ds : List D} {vs : List V} {ns : List Bool}, RpA K cl F vs ds → blsOf ds = some ns → vs = ns.map V.bl
  | [], _, _, r, e => by cases r; cases e; rfl
  | d :: ds, _, _, r, e => by
    cases r with
    | cons a b =>
      cases a <;> simp only [blsOf] at e <;> try cases e
      obtain ⟨ns, h1, rfl⟩ := Option.map_eq_some_iff.mp e
      rw [blsOf_rp b h1]; rfl
theorem a_len : OpA K cl (fun xs H Q => ∃ x n, xs = [x] ∧ LenV K x H n ∧ Q (.int n) H) fLen := by
  intro F H vs ds Q m r p
  unfold fLen at p
  split at p
  · obtain ⟨v, rfl, h⟩ := r.one
    cases h with | lst a b => exact ⟨_, _, rfl, .inl ⟨_, .of (m _ _ a), rfl⟩, by rw [b.length]; exact p.int m (.int _)⟩
  · obtain ⟨v, rfl, h⟩ := r.one
    cases h with | tup a b => exact ⟨_, _, rfl, .inr ⟨_, .of (m _ _ a), rfl⟩, by rw [b.length]; exact p.int m (.int _)⟩
  · obtain ⟨v, rfl, h⟩ := r.one
    cases h with | scr a => exact ⟨_, _, rfl, .inl ⟨_, m.seq a, rfl⟩, by rw [List.length_map]; exact p.int m (.int _)⟩
  · obtain ⟨v, rfl, h⟩ := r.one
    cases h
    split at p
    · exact ⟨_, _, rfl, ⟨by rw [sizeLine_eq]; omega, rfl⟩, p.int m (.int _)⟩
    · exact p.elim
  · exact p.elim
theorem a_abs : OpA K cl (fun xs H Q => ∃ i, xs = [.int i] ∧ Q (.int (if i < 0 then -i else i)) H) fAbs := by
  intro F H vs ds Q m r p
  unfold fAbs at p
  split at p
  · obtain ⟨v, rfl, h⟩ := r.one
    cases h; exact ⟨_, rfl, p.int m (.int _)⟩
  · exact p.elim
theorem a_int : OpA K cl (fun xs H Q => (∃ i, xs = [.int i] ∧ Q (.int i) H) ∨ ∃ k, xs = [.bl k] ∧ Q (.int (if k then 1 else 0)) H) fInt := by
  intro F H vs ds Q m r p
  unfold fInt at p
  split at p
  · obtain ⟨v, rfl, h⟩ := r.one
    cases h; exact .inl ⟨_, rfl, p.int m (.int _)⟩
  · obtain ⟨v, rfl, h⟩ := r.one
    cases h; exact .inr ⟨_, rfl, p.int m (.int _)⟩
  · exact p.elim
theorem a_gcd : OpA K cl rGcd fGcd := by
  intro F H vs ds Q m r p
  unfold fGcd at p
  split at p
  · obtain ⟨v, u, rfl, h, h2⟩ := r.two
    cases h; cases h2; exact ⟨_, _, rfl, p.int m (.int _)⟩
  · exact p.elim
theorem a_tuple : OpA K cl (fun xs H Q => ∃ p ys, xs = [.ref p] ∧ ((SqL K H p ys ∧ ∀ l, H l = none → Q (.ref l) (upd H l (.tup ys))) ∨ (SqT K H p ys ∧ Q (.ref p) H))) fTuple := by
  intro F H vs ds Q m r p
  unfold fTuple at p
  split at p
  · obtain ⟨v, rfl, h⟩ := r.one
    cases h with | lst a b => exact ⟨_, _, rfl, .inl ⟨.of (m _ _ a), fun l hl => p.new m hl fun F' hF e => .tup e (b.mono hF)⟩⟩
  · obtain ⟨v, rfl, h⟩ := r.one
    cases h with | tup a b => exact ⟨_, _, rfl, .inr ⟨.of (m _ _ a), p.int m (.tup a b)⟩⟩
  · exact p.elim
/-- sum of a tuple of ints -/
def rSumT (K : PySem.W.Frag) : List V → Hp → VK → Prop := fun vs H Q => ∃ (a : Addr) (ns : List Int), vs = [V.ref a] ∧ SqT K H a (ns.map V.int) ∧ Q (.int ns.sum) H
theorem cr_sumT (hc : X.calm = true) : CallR X (.builtin "sum") (rSumT X.K) := by
  intro pins s σ H vs us Q I r h
  obtain ⟨a, ns, rfl, hs, q⟩ := h
  obtain ⟨its, rv, hl, _⟩ := I.tuple hs
  have hl : s.heap.IsTuple a its.toArray := hl
  rw [Vals.ref1 r]
  obtain ⟨xs, hx⟩ := rv.ints.allInts.items
  have hn : PySem.numsOf (PySem.intItems xs).toList = ns := by rw [← hx]; exact rv.ints.numsOf
  rw [PySem.nums_intItems] at hn
  rw [hx] at hl
  refine PySem.W.ktm_sumG (I.ok.hd hc) hl fun h' tk t' hk => ⟨.int _, H, I.kept hk, ⟨_, rfl⟩, ?_⟩
  rw [PySem.preSum_eq, List.take_of_length_le (by simp), hn]
  exact q
theorem cr_sumU (hc : X.calm = true) : CallR X (.builtin "sum") (fun vs H Q => rSum X.K vs H Q ∨ rSumT X.K vs H Q) := (cr_sum hc).or (cr_sumT hc)
theorem a_sum : OpA K cl (fun vs H Q => rSum K vs H Q ∨ rSumT K vs H Q) fSum := by
  intro F H vs ds Q m r p
  unfold fSum at p
  split at p
  · obtain ⟨v, rfl, h⟩ := r.one
    cases h with
    | lst a b =>
      rename_i ds aa xs
      cases q : intsOf ds with
      | none => rw [q] at p; exact p.elim
      | some ns =>
        rw [q] at p
        have := intsOf_rp b q; subst this
        exact .inl ⟨_, _, rfl, .of (m _ _ a), p.int m (.int _)⟩
  · obtain ⟨v, rfl, h⟩ := r.one
    cases h with
    | tup a b =>
      rename_i ds aa xs
      cases q : intsOf ds with
      | none => rw [q] at p; exact p.elim
      | some ns =>
        rw [q] at p
        have := intsOf_rp b q; subst this
        exact .inr ⟨_, _, rfl, .of (m _ _ a), p.int m (.int _)⟩
  · exact p.elim
theorem minI_least : ∀ {ns : List Int} {m : Int}, m ∈ ns → (∀ y, y ∈ ns → m ≤ y) → minI ns = some m
  | [a], m, h, _ => by simp at h; subst h; rfl
  | a :: b :: r, m, h, l => by
    have e : ∃ k, minI (b :: r) = some k ∧ k ∈ (b :: r) := by
      have : ∀ (l : List Int), l ≠ [] → ∃ k, minI l = some k ∧ k ∈ l := by
        intro l
        induction l with
        | nil => intro h; exact absurd rfl h
        | cons x t ih =>
          intro _
          cases t with
          | nil => exact ⟨x, rfl, by simp⟩
          | cons y t =>
            obtain ⟨k, h1, h2⟩ := ih (by simp)
            refine ⟨if x ≤ k then x else k, by show (minI (y :: t)).map _ = _; rw [h1]; rfl, ?_⟩
            split
            · simp
            · exact List.mem_cons_of_mem _ h2
      exact this _ (by simp)
    obtain ⟨k, h1, h2⟩ := e
    have hk : ∀ y ∈ (b :: r), k ≤ y := by
      have key : ∀ (l : List Int) (k : Int), minI l = some k → ∀ y ∈ l, k ≤ y := by
        intro l
        induction l with
        | nil => intro k h; cases h
        | cons x t ih =>
          intro k h y hy
          cases t with
          | nil => simp [minI] at h; simp at hy; omega
          | cons z t =>
            simp only [minI] at h
            cases q : minI (z :: t) with
            | none =>
              rw [q] at h; cases h
            | some j =>
              rw [q] at h
              have e : (if x ≤ j then x else j) = k := by simpa using h
              rcases List.mem_cons.mp hy with rfl | hy
              · split at e <;> omega
              · have := ih j q y hy
                split at e <;> omega
      exact key _ _ h1
    show (minI (b :: r)).map _ = _
    rw [h1]
    have h3 := l k (List.mem_cons_of_mem _ h2)
    have h4 := l a (by simp)
    simp only [Option.map_some, Option.some.injEq]
    rcases List.mem_cons.mp h with e | e
    · subst e; rw [if_pos h3]
    · have h5 := hk m e
      split <;> omega
theorem maxI_most : ∀ {ns : List Int} {m : Int}, m ∈ ns → (∀ y, y ∈ ns → y ≤ m) → maxI ns = some m
  | [a], m, h, _ => by simp at h; subst h; rfl
  | a :: b :: r, m, h, l => by
    have e : ∃ k, maxI (b :: r) = some k ∧ k ∈ (b :: r) := by
      have : ∀ (l : List Int), l ≠ [] → ∃ k, maxI l = some k ∧ k ∈ l := by
        intro l
        induction l with
        | nil => intro h; exact absurd rfl h
        | cons x t ih =>
          intro _
          cases t with
          | nil => exact ⟨x, rfl, by simp⟩
          | cons y t =>
            obtain ⟨k, h1, h2⟩ := ih (by simp)
            refine ⟨if k ≤ x then x else k, by show (maxI (y :: t)).map _ = _; rw [h1]; rfl, ?_⟩
            split
            · simp
            · exact List.mem_cons_of_mem _ h2
      exact this _ (by simp)
    obtain ⟨k, h1, h2⟩ := e
    have hk : ∀ y ∈ (b :: r), y ≤ k := by
      have key : ∀ (l : List Int) (k : Int), maxI l = some k → ∀ y ∈ l, y ≤ k := by
        intro l
        induction l with
        | nil => intro k h; cases h
        | cons x t ih =>
          intro k h y hy
          cases t with
          | nil => simp [maxI] at h; simp at hy; omega
          | cons z t =>
            simp only [maxI] at h
            cases q : maxI (z :: t) with
            | none =>
              rw [q] at h; cases h
            | some j =>
              rw [q] at h
              have e : (if j ≤ x then x else j) = k := by simpa using h
              rcases List.mem_cons.mp hy with rfl | hy
              · split at e <;> omega
              · have := ih j q y hy
                split at e <;> omega
      exact key _ _ h1
    show (maxI (b :: r)).map _ = _
    rw [h1]
    have h3 := l k (List.mem_cons_of_mem _ h2)
    have h4 := l a (by simp)
    simp only [Option.map_some, Option.some.injEq]
    rcases List.mem_cons.mp h with e | e
    · subst e; rw [if_pos h3]
    · have h5 := hk m e
      split <;> omega
theorem minI_some {ns : List Int} {k : Int} (h : minI ns = some k) : 0 < ns.length := by
  cases ns with
  | nil => cases h
  | cons => simp
theorem maxI_some {ns : List Int} {k : Int} (h : maxI ns = some k) : 0 < ns.length := by
  cases ns with
  | nil => cases h
  | cons => simp
def rMinU (K : PySem.W.Frag) : List V → Hp → VK → Prop := fun xs H Q => rMin K xs H Q ∨ ∃ i j, xs = [.int i, .int j] ∧ Q (.int (if j < i then j else i)) H
def rMaxU (K : PySem.W.Frag) : List V → Hp → VK → Prop := fun xs H Q => rMax K xs H Q ∨ ∃ i j, xs = [.int i, .int j] ∧ Q (.int (if j > i then j else i)) H
theorem CallR.or {f : Value} {r r' : List V → Hp → VK → Prop} (h : CallR X f r) (h' : CallR X f r') : CallR X f fun xs H Q => r xs H Q ∨ r' xs H Q := by
  intro pins s σ H vs us Q I rr q
  rcases q with q | q
  · exact h pins s σ H vs us Q I rr q
  · exact h' pins s σ H vs us Q I rr q
theorem cr_minU (hc : X.calm = true) : CallR X (.builtin "min") (rMinU X.K) := CallR.or (cr_min hc) (call_min2 hc)
theorem cr_maxU (hc : X.calm = true) : CallR X (.builtin "max") (rMaxU X.K) := CallR.or (cr_max hc) (call_max2 hc)
theorem a_min : OpA K cl (rMinU K) fMin := by
  intro F H vs ds Q m r p
  unfold fMin at p
  split at p
  · obtain ⟨v, rfl, h⟩ := r.one
    cases h with
    | lst a b =>
      rename_i ds aa xs
      cases q : intsOf ds with
      | none => rw [q] at p; exact p.elim
      | some ns =>
        rw [q] at p
        have := intsOf_rp b q; subst this
        cases q2 : minI ns with
        | none => rw [show (some ns : Option (List Int)).bind (fun ns => (minI ns).map D.int) = none by show (minI ns).map _ = _; rw [q2]; rfl] at p; exact p.elim
        | some k =>
          rw [show (some ns : Option (List Int)).bind (fun ns => (minI ns).map D.int) = some (.int k) by show (minI ns).map _ = _; rw [q2]; rfl] at p
          refine .inl ⟨_, _, rfl, .of (m _ _ a), minI_some q2, fun j h1 h2 => ?_⟩
          have := minI_least h1 h2
          rw [q2] at this; cases this
          exact p.int m (.int _)
  · obtain ⟨v, u, rfl, h, h2⟩ := r.two
    cases h; cases h2
    exact .inr ⟨_, _, rfl, p.int m (.int _)⟩
  · exact p.elim
theorem a_max : OpA K cl (rMaxU K) fMax := by
  intro F H vs ds Q m r p
  unfold fMax at p
  split at p
  · obtain ⟨v, rfl, h⟩ := r.one
    cases h with
    | lst a b =>
      rename_i ds aa xs
      cases q : intsOf ds with
      | none => rw [q] at p; exact p.elim
      | some ns =>
        rw [q] at p
        have := intsOf_rp b q; subst this
        cases q2 : maxI ns with
        | none => rw [show (some ns : Option (List Int)).bind (fun ns => (maxI ns).map D.int) = none by show (maxI ns).map _ = _; rw [q2]; rfl] at p; exact p.elim
        | some k =>
          rw [show (some ns : Option (List Int)).bind (fun ns => (maxI ns).map D.int) = some (.int k) by show (maxI ns).map _ = _; rw [q2]; rfl] at p
          refine .inl ⟨_, _, rfl, .of (m _ _ a), maxI_some q2, fun j h1 h2 => ?_⟩
          have := maxI_most h1 h2
          rw [q2] at this; cases this
          exact p.int m (.int _)
  · obtain ⟨v, u, rfl, h, h2⟩ := r.two
    cases h; cases h2
    exact .inr ⟨_, _, rfl, p.int m (.int _)⟩
  · exact p.elim
theorem a_any : OpA K cl (rAny K) fAny := by
  intro F H vs ds Q m r p
  unfold fAny at p
  split at p
  · obtain ⟨v, rfl, h⟩ := r.one
    cases h with
    | lst a b =>
      rename_i ds aa xs
      cases q : blsOf ds with
      | none => rw [q] at p; exact p.elim
      | some ns =>
        rw [q] at p
        have := blsOf_rp b q; subst this
        exact ⟨_, _, rfl, .of (m _ _ a), p.int m (.bl _)⟩
  · exact p.elim
theorem a_all : OpA K cl (rAll K) fAll := by
  intro F H vs ds Q m r p
  unfold fAll at p
  split at p
  · obtain ⟨v, rfl, h⟩ := r.one
    cases h with
    | lst a b =>
      rename_i ds aa xs
      cases q : blsOf ds with
      | none => rw [q] at p; exact p.elim
      | some ns =>
        rw [q] at p
        have := blsOf_rp b q; subst this
        exact ⟨_, _, rfl, .of (m _ _ a), p.int m (.bl _)⟩
  · exact p.elim
end
end FL
namespace FL
open PySem L2
/-! ## calls of the text's own defs -/
def spOf (K : PySem.W.Frag) (cl : Cl) (n : Nat) (φ : List D → Res D) : Sp := fun vs H Q E => ∃ F ds, Same F H ∧ RpA K cl F vs ds ∧ vs.length = n ∧
  match φ ds with
  | .ok d => ∀ v F' H', Gr F H F' H' → Rp K cl F' v d → Q v H'
  | .er e => ∀ c dd F' H', Gr F H F' H' → XRp K cl F' c dd e → E c dd H'
  | .bad => False
def mCall (n : Nat) (φ : List D → Res D) (ms : En → Res (List D)) : En → Res D := fun ρ => (ms ρ).bind fun ds => if ds.length = n then φ ds else .bad
section
variable {X : Cx} {cl : Cl} {W : WX} {e a b : Expr} {es : List Expr} {ms : En → Res (List D)} {p pos : Pos} {x : Str}
theorem call_in {n : Nat} {φ : List D → Res D} : ∀ σ H Q, tM X.K cl W (mCall n φ ms) σ H Q → tCallS (spOf X.K cl n φ) (WE W) (tA X.K cl W ms) σ H Q := by
  rintro σ H Q ⟨B, F0, F, ρ, s, p⟩
  refine ⟨B, F0, F, ρ, s, (stepA s p).imp ?_⟩
  rintro vs H' ⟨ds, F', e, g, h, p⟩
  by_cases hl : ds.length = n
  · rw [if_pos hl] at p
    refine ⟨F', ds, g.fh, h, by rw [h.length, hl], ?_⟩
    cases q : φ ds with
    | bad => rw [q] at p; exact p
    | er e => rw [q] at p; exact p
    | ok d => rw [q] at p; exact p
  · rw [if_neg hl] at p; exact p.elim
theorem so_call {k : Nat} {f : Addr} {fd : FuncData} {ps : List Str} {n : Nat} {φ : List D → Res D} (F : FnOk X.prog X.w X.K X.mg X.base (L2.CX X.prog X.w) k f fd ps (spOf X.K cl n φ)) (hr : Room k X.A) (hg : Gl X x) (hm : X.mg x = some (.ref f))
    (hk : PySem.W.keepIn X.K (.ref f) = true) (hb : Binds X.K fd ps []) (tk : Takes X W) (ha : SA X cl W (e :: es) ms) (hdb : (x == ("__debug__" : Str)) = false := by decide)
    (he : starEach (e :: es) X.env = (false, eval e X.env) :: starEach es X.env := by rfl) (hpl : (backTo pos (starEach es X.env)).any (·.1) = false := by rfl) :
    SE X cl W (.Call (.Name x p) (e :: es) [] pos) (mCall n φ ms) :=
  (pe_callS F hr hg hm hk hb (passAt tk) ha hdb he hpl).of call_in
/-- a call without arguments -/
theorem so_call0 {k : Nat} {f : Addr} {fd : FuncData} {ps : List Str} {φ : List D → Res D} (F : FnOk X.prog X.w X.K X.mg X.base (L2.CX X.prog X.w) k f fd ps (spOf X.K cl 0 φ)) (hr : Room k X.A) (hg : Gl X x) (hm : X.mg x = some (.ref f))
    (hk : PySem.W.keepIn X.K (.ref f) = true) (hb : Binds X.K fd ps []) (tk : Takes X W) (hdb : (x == ("__debug__" : Str)) = false := by decide) :
    SE X cl W (.Call (.Name x p) [] [] pos) (mCall 0 φ mNil) := by
  refine ⟨fun pins s σ H Q I h => ?_⟩
  refine wpAny_Call_Name_kw (ld_glob I hg hm ?_ hdb)
  obtain ⟨B, F0, F1, ρ, so, p⟩ := h
  have h2 : tCallS (spOf X.K cl 0 φ) (WE W) (tA X.K cl W mNil) σ H Q := call_in σ H Q ⟨B, F0, F1, ρ, so, p⟩
  obtain ⟨B, F0, F1, ρ, so, p⟩ := h2
  exact PySem.W.callWith_K0 I.kIn hk (run_fnS (us := []) F hr hb (passAt tk σ) I .nil (p [] F1 H (.refl so.fh) .nil))
end
/-! ## slices, fresh copies, isinstance -/
def cutD (xs : List D) (lo hi : Option Int) : List D := (xs.drop (HT.sIx xs.length 0 lo)).take (HT.sIx xs.length xs.length hi - HT.sIx xs.length 0 lo)
def fSl : D → Option Int → Option Int → Option D
  | .lst ds, lo, hi => some (.lst (cutD ds lo hi))
  | .tup ds, lo, hi => some (.tup (cutD ds lo hi))
  | _, _, _ => none
def intOf : D → Option Int
  | .int i => some i
  | _ => none
def mPart (m : En → Res D) : En → Res (Option Int) := fun ρ => (m ρ).bind fun d => match intOf d with
  | some i => .ok (some i)
  | none => .bad
def mNoPart : En → Res (Option Int) := fun _ => .ok none
def mSl (m : En → Res D) (lo hi : En → Res (Option Int)) : En → Res D := fun ρ => (m ρ).bind fun d => (lo ρ).bind fun l => (hi ρ).bind fun h => .ofO (fSl d l h)
def PostP (K : PySem.W.Frag) (cl : Cl) (W : WX) (σ : L2.St) (F H : Hp) (r : Res (Option Int)) (Q : Option Int → Hp → Prop) : Prop := match r with
  | .ok o => ∀ F' H', Gr F H F' H' → Q o H'
  | .er e => ∀ c dd F' H', Gr F H F' H' → XRp K cl F' c dd e → W c dd σ H'
  | .bad => False
def tP (K : PySem.W.Frag) (cl : Cl) (W : WX) (m : En → Res (Option Int)) : TO := fun σ H Q => ∃ B F0 F ρ, SOk K cl B F0 F σ H ρ ∧ PostP K cl W σ F H (m ρ) Q
def isiTy (u : String) : D → Option Bool
  | .non => kitB "NoneType" u
  | .bl _ => kitB "bool" u
  | .int _ => kitB "int" u
  | .str _ => kitB "str" u
  | .lst _ => kitB "list" u
  | .tup _ => kitB "tuple" u
  | .dik _ _ => kitB "dict" u
  | .dit _ _ => kitB "dict" u
  | _ => none
def mIsiTy (u : String) (m : En → Res D) : En → Res D := fun ρ => (m ρ).bind fun d => match isiTy u d with
  | some b => .ok (.bl b)
  | none => .bad
section
variable {X : Cx} {cl : Cl} {W : WX} {e a b : Expr} {es : List Expr} {m : En → Res D} {ml mh : En → Res (Option Int)} {ms : En → Res (List D)} {p p2 pos : Pos} {x : Str}
abbrev SP' (X : Cx) (cl : Cl) (W : WX) (e : Option Expr) (m : En → Res (Option Int)) : Prop := PO X e (tP X.K cl W m)
theorem PO.of {e : Option Expr} {t u : TO} (h : PO X e t) (i : ∀ σ H Q, u σ H Q → t σ H Q) : PO X e u := ⟨fun p s σ H Q I q => h.run p s σ H Q I (i σ H Q q)⟩
theorem sp_none : SP' X cl W none mNoPart := PO.of po_none fun σ H Q ⟨B, F0, F, ρ, s, p⟩ => p F H (.refl s.fh)
theorem sp_some (h : SE X cl W e m) : SP' X cl W (some e) (mPart m) := PO.of (po_some h) (by
  rintro σ H Q ⟨B, F0, F, ρ, s, p⟩
  refine ⟨B, F0, F, ρ, s, ?_⟩
  unfold mPart at p
  cases q : m ρ with
  | bad => rw [q] at p; exact p
  | er e => rw [q] at p; exact p
  | ok d =>
    rw [q] at p
    intro v F' H' g r
    cases d with
    | int i => cases r; exact ⟨i, rfl, p F' H' g⟩
    | _ => exact p.elim)
theorem cutD_rp {K : PySem.W.Frag} {F : Hp} {vs : List V} {ds : List D} (h : RpA K cl F vs ds) (lo hi : Option Int) : RpA K cl F (cutV vs lo hi) (cutD ds lo hi) := by
  unfold cutV cutD
  rw [h.length]
  exact (h.drop _).take _
def rSlU (K : PySem.W.Frag) : V → Option Int → Option Int → Hp → VK → Prop := fun x lo hi H Q => rSlL K x lo hi H Q ∨ rSlA K x lo hi H Q
theorem sl_U : SlR X (rSlU X.K) := sl_list.or sl_tupA
theorem sl_ok {K : PySem.W.Frag} {F H : Hp} {x : V} {d : D} {lo hi : Option Int} {Q : VK} (m : Same F H) (r : Rp K cl F x d) (p : PostO K cl F H (fSl d lo hi) Q) : rSlU K x lo hi H Q := by
  cases r <;> simp only [fSl] at p <;> try exact p.elim
  · rename_i a xs ds ha ra
    exact .inl ⟨_, _, rfl, .of (m _ _ ha), fun q hq => p.new m hq fun F' hF e => .lst e (cutD_rp (ra.mono hF) _ _)⟩
  · rename_i a xs ds ha ra
    refine .inr ⟨_, _, rfl, .of (m _ _ ha), fun hw => ?_, fun _ q hq => p.new m hq fun F' hF e => .tup e (cutD_rp (ra.mono hF) _ _)⟩
    have e : cutD ds lo hi = ds := by
      unfold cutD
      rw [← ra.length, hw.1, hw.2]
      simp [ra.length]
    rw [e] at p
    exact p.int m (.tup ha ra)
theorem PostP.imp {K : PySem.W.Frag} {σ : L2.St} {F H : Hp} {r : Res (Option Int)} {Q Q' : Option Int → Hp → Prop} (p : PostP K cl W σ F H r Q) (h : ∀ b H', Q b H' → Q' b H') : PostP K cl W σ F H r Q' := by
  cases r with
  | bad => exact p
  | er e => exact p
  | ok b => exact fun F' H' g => h _ _ (p F' H' g)
theorem stepP {K : PySem.W.Frag} {σ : L2.St} {B F0 F H : Hp} {ρ : En} {r : Res (Option Int)} {g : Option Int → Res D} {Q : VK} (s : SOk K cl B F0 F σ H ρ) (p : PostE K cl W σ F H (r.bind g) Q) :
    PostP K cl W σ F H r fun o H' => ∃ F', Gr F H F' H' ∧ PostE K cl W σ F' H' (g o) Q := by
  cases r with
  | bad => exact p
  | er e => exact p
  | ok d =>
    intro F' H' g1
    have p : PostE K cl W σ F H (g d) Q := p
    exact ⟨F', g1, p.gr g1⟩
theorem so_sl {lo hi : Option Expr} (he : SE X cl W e m) (hl : SP' X cl W lo ml) (hu : SP' X cl W hi mh) : SE X cl W (.Subscript e (.Slice lo hi none p2) pos) (mSl m ml mh) := by
  refine (pe_slice sl_U he hl hu).of ?_
  rintro σ H Q ⟨B, F0, F, ρ, s, p⟩
  refine ⟨B, F0, F, ρ, s, (step1 s p).imp ?_⟩
  rintro v H1 ⟨d, F1, e, g1, r, p⟩
  refine ⟨B, F0, F1, ρ, s.grow g1, (stepP (s.grow g1) p).imp ?_⟩
  rintro l H2 ⟨F2, g2, p⟩
  have s2 := (s.grow g1).grow g2
  refine ⟨B, F0, F2, ρ, s2, (stepP s2 p).imp ?_⟩
  rintro u H3 ⟨F3, g3, p⟩
  exact sl_ok g3.fh ((r.mono g2.f).mono g3.f) (.of p)
def fRev : D → Option D
  | .lst ds => some (.lst ds.reverse)
  | _ => none
theorem RpA.rev {K : PySem.W.Frag} {F : Hp} : ∀ {vs : List V} {ds : List D}, RpA K cl F vs ds → RpA K cl F vs.reverse ds.reverse
  | _, _, .nil => .nil
  | _, _, .cons a t => by rw [List.reverse_cons, List.reverse_cons]; exact (RpA.rev t).app (.cons a .nil)
theorem so_rev {k : Nat} {p1 p2 p3 : Pos} (he : SE X cl W e m) : SE X cl W (.Subscript e (.Slice none none (some (.UnaryOp .USub (.Constant (.int 1) k p1) p2)) p3) pos) (mOp1 fRev m) := by
  refine (pe_revL he).of ?_
  rintro σ H Q ⟨B, F0, F, ρ, s, p⟩
  refine ⟨B, F0, F, ρ, s, (step1 s p).imp ?_⟩
  rintro v H1 ⟨d, F1, e, g1, r, p⟩
  cases r with
  | lst a b => exact ⟨_, _, rfl, .of (g1.fh _ _ a), fun q hq => (PostO.of p).new g1.fh hq fun F' hF e => .lst e (RpA.rev (b.mono hF))⟩
  | _ => exact p.elim
/-- list(x): fresh -/
def seqOf : D → Option (List D)
  | .lst ds => some ds
  | .tup ds => some ds
  | _ => none
def mList (m : En → Res D) : En → Res Cn := fun ρ => (m ρ).bind fun d => match seqOf d with
  | some ds => .ok (.l ds)
  | none => .bad
/-- a fresh answer of one value -/
theorem stepC {K : PySem.W.Frag} {σ : L2.St} {B F0 F H : Hp} {ρ : En} {r : Res D} {g : D → Res Cn} {Q : VK} (s : SOk K cl B F0 F σ H ρ) (p : PostC K cl W σ F H (r.bind g) Q) :
    PostE K cl W σ F H r fun v H' => ∃ d F', r = .ok d ∧ Gr F H F' H' ∧ Rp K cl F' v d ∧ PostC K cl W σ F' H' (g d) Q := by
  cases r with
  | bad => exact p
  | er e => exact p
  | ok d =>
    intro v F' H' g1 h1
    have p : PostC K cl W σ F H (g d) Q := p
    refine ⟨d, F', rfl, g1, h1, ?_⟩
    cases q : g d with
    | bad => rw [q] at p; exact p
    | er e => rw [q] at p; exact fun c dd F2 H2 g2 h2 => p c dd F2 H2 (g1.trans g2) h2
    | ok d2 => rw [q] at p; exact fun a o F2 H2 g2 hn => p a o F2 H2 (g1.trans g2) (Same.free g1.h hn)
theorem PostC.put {K : PySem.W.Frag} {σ : L2.St} {F H : Hp} {c : Cn} {Q : VK} {a : Addr} {o : HO} (p : PostC K cl W σ F H (.ok c) Q) (m : Same F H) (hn : H a = none) (h : CnR K cl F c o) : Q (.ref a) (upd H a o) :=
  p a o F _ (.own m hn) hn (by cases z : F a with | none => rfl | some u => rw [m _ _ z] at hn; cases hn) upd_same h
theorem sc_list {e : Expr} (hg : Gl X "list") (hm : X.mg "list" = none) (ha : SE X cl W e m)
    (hs : starEach (e :: []) X.env = (false, eval e X.env) :: starEach [] X.env := by rfl) (he : starEach (e :: []) X.env = (false, eval e X.env) :: starEach [] X.env := by rfl) (hpl : (backTo pos (starEach [] X.env)).any (·.1) = false := by rfl) :
    SC X cl W (.Call (.Name "list" p) [e] [] pos) (mList m) := by
  refine (pe_callTy call_list_of hg hm (by decide +kernel) (pa_cons ha pa_nil hs) (by decide) (by decide) he hpl).of ?_
  rintro σ H Q ⟨B, F0, F, ρ, s, p⟩
  refine ⟨B, F0, F, ρ, s, (stepC s p).imp ?_⟩
  rintro v H1 ⟨d, F1, e, g1, r, p⟩
  show ∃ q ys, [v] = [V.ref q] ∧ _
  cases r with
  | lst a b => exact ⟨_, _, rfl, .inl (.of (g1.fh _ _ a)), fun l hl => p.put g1.fh hl ⟨_, rfl, b⟩⟩
  | tup a b => exact ⟨_, _, rfl, .inr (.of (g1.fh _ _ a)), fun l hl => p.put g1.fh hl ⟨_, rfl, b⟩⟩
  | _ => exact p.elim
/-- isinstance(x, T), T built-in -/
theorem isiTy_rp {K : PySem.W.Frag} {F H : Hp} {v : V} {d : D} {u : String} {b : Bool} (m : Same F H) (r : Rp K cl F v d) (e : isiTy u d = some b) : ∃ t, TyX K H v (.type t) ∧ kitB t u = some b := by
  cases r with
  | non => exact ⟨_, .base .non, e⟩
  | bl => exact ⟨_, .base (.bl _), e⟩
  | int => exact ⟨_, .base (.int _), e⟩
  | str => exact ⟨_, .base (.str _), e⟩
  | lst a _ => exact ⟨_, .base (.lst (m _ _ a)), e⟩
  | tup a _ => exact ⟨_, .base (.tup (m _ _ a)), e⟩
  | dik a _ _ => exact ⟨_, .base (.dK (m _ _ a)), e⟩
  | dit a _ _ => exact ⟨_, .base (.dT (m _ _ a)), e⟩
  | _ => cases e
theorem so_isiTy {u : String} {x : Str} {px : Pos} (hg : Gl X "isinstance") (hm : X.mg "isinstance" = none) (hx : PE X (.Name x px) (L2.tC (.ty u))) (ha : SE X cl W e m)
    (hs1 : starEach (e :: [.Name x px]) X.env = (false, eval e X.env) :: starEach [.Name x px] X.env := by rfl) (hs2 : starEach [.Name x px] X.env = (false, eval (.Name x px) X.env) :: starEach [] X.env := by rfl)
    (hpl : (backTo pos (starEach [.Name x px] X.env)).any (·.1) = false := by rfl) :
    SE X cl W (.Call (.Name "isinstance" p) [e, .Name x px] [] pos) (mIsiTy u m) := by
  refine (pe_callB call_isi hg hm (by decide +kernel) (pa_cons ha (pa_cons hx pa_nil hs2) hs1) (by decide) (by decide) hs1 hpl).of ?_
  rintro σ H Q ⟨B, F0, F, ρ, s, p⟩
  refine ⟨B, F0, F, ρ, s, (step1 s p).imp ?_⟩
  rintro v H1 ⟨d, F1, e, g1, r, p⟩
  cases q : isiTy u d with
  | none => rw [q] at p; exact p.elim
  | some b =>
    rw [q] at p
    obtain ⟨t, h1, h2⟩ := isiTy_rp g1.fh r q
    exact ⟨v, .ty u, _, _, b, rfl, .ty u, h1, kit_ty h2, p _ F1 H1 (.refl g1.fh) (.bl _)⟩
end
end FL
namespace FL
open PySem L2
/-! ## what is walked -/
structure ItOk (K : PySem.W.Frag) (cl : Cl) (J : It) (F : Hp) (ds : List D) : Prop where
  go : ∀ i H, Same F H → i < ds.length → J.go i H
  stop : ∀ i H, Same F H → i = ds.length → J.stop i H
  yld : ∀ i H x H' d F1, Same F F1 → Same F1 H → J.yld i H x H' → ds[i]? = some d → ∃ F2, Gr F1 H F2 H' ∧ Rp K cl F2 x d
def PostI (K : PySem.W.Frag) (cl : Cl) (W : WX) (σ : L2.St) (F H : Hp) (r : Res (List D)) (R : It → Hp → Prop) : Prop := match r with
  | .ok ds => ∀ J F' H', Gr F H F' H' → ItOk K cl J F' ds → R J H'
  | .er e => ∀ c dd F' H', Gr F H F' H' → XRp K cl F' c dd e → W c dd σ H'
  | .bad => False
def tI (K : PySem.W.Frag) (cl : Cl) (W : WX) (m : En → Res (List D)) : TI := fun σ H R => ∃ B F0 F ρ, SOk K cl B F0 F σ H ρ ∧ PostI K cl W σ F H (m ρ) R
abbrev SI (X : Cx) (cl : Cl) (W : WX) (tg e : Expr) (m : En → Res (List D)) : Prop := PI X tg e (tI X.K cl W m)
def elems : D → Option (List D)
  | .lst ds => some ds
  | .tup ds => some ds
  | .scr ns => some (ns.map .int)
  | _ => none
def mSeq (m : En → Res D) : En → Res (List D) := fun ρ => (m ρ).bind fun d => .ofO (elems d)
def rngD (lo : Int) (n : Nat) : List D := (List.range n).map fun (k : Nat) => .int (lo + (k : Int))
theorem p62 : (2 : Int) ^ 62 = 4611686018427387904 := by decide
def rng1Of : List D → Option (List D)
  | [.int j] => if -4611686018427387904 ≤ j ∧ j < 4611686018427387904 then some (rngD 0 j.toNat) else none
  | _ => none
def rng2Of : List D → Option (List D)
  | [.int i, .int j] => if -4611686018427387904 ≤ i ∧ i < 4611686018427387904 ∧ -4611686018427387904 ≤ j ∧ j < 4611686018427387904 then some (rngD i (j - i).toNat) else none
  | _ => none
def mRng1 (ms : En → Res (List D)) : En → Res (List D) := fun ρ => (ms ρ).bind fun ds => .ofO (rng1Of ds)
def mRng2 (ms : En → Res (List D)) : En → Res (List D) := fun ρ => (ms ρ).bind fun ds => .ofO (rng2Of ds)
section
variable {X : Cx} {cl : Cl} {W : WX} {tg e a b : Expr} {es : List Expr} {m : En → Res D} {ms : En → Res (List D)} {p p2 pos : Pos} {x : Str}
theorem _root_.L2.PI.of {tg e : Expr} {t u : TI} (h : PI X tg e t) (i : ∀ σ H R, u σ H R → t σ H R) : PI X tg e u := ⟨fun p s σ H R I q => h.run p s σ H R I (i σ H R q)⟩
theorem it_list {K : PySem.W.Frag} {F : Hp} {a : Addr} {xs : List V} {ds : List D} (h : SqL K F a xs) (r : RpA K cl F xs ds) : ItOk K cl (Itl K a) F ds where
  go := fun i H m hi => ⟨xs, xs[i]'(by rw [r.length]; exact hi), m.seq h, by simp [r.length, hi]⟩
  stop := fun i H m hi => ⟨xs, m.seq h, by rw [r.length, hi]; exact Nat.le_refl _⟩
  yld := fun i H x H' d F1 m1 m2 y e => by
    obtain ⟨rfl, y⟩ := y
    obtain ⟨d', h1, h2⟩ := r.get (y xs ((m1.trans m2).seq h))
    rw [e] at h1; cases h1
    exact ⟨F1, .refl m2, h2.mono m1⟩
theorem Same.seqT {K : PySem.W.Frag} {H H' : Hp} {a : Addr} {xs : List V} (e : Same H H') (h : SqT K H a xs) : SqT K H' a xs := by
  rcases h with (h | ⟨o, h⟩) | h
  · exact .inl (.inl (e _ _ h))
  · exact .inl (.inr ⟨o, e _ _ h⟩)
  · exact .inr h
theorem it_tup {K : PySem.W.Frag} {F : Hp} {a : Addr} {xs : List V} {ds : List D} (h : SqT K F a xs) (r : RpA K cl F xs ds) : ItOk K cl (Itt K a) F ds where
  go := fun i H m hi => ⟨xs, xs[i]'(by rw [r.length]; exact hi), Same.seqT m h, by simp [r.length, hi]⟩
  stop := fun i H m hi => ⟨xs, Same.seqT m h, by rw [r.length, hi]; exact Nat.le_refl _⟩
  yld := fun i H x H' d F1 m1 m2 y e => by
    obtain ⟨rfl, y⟩ := y
    obtain ⟨d', h1, h2⟩ := r.get (y xs (Same.seqT (m1.trans m2) h))
    rw [e] at h1; cases h1
    exact ⟨F1, .refl m2, h2.mono m1⟩
theorem it_rng {K : PySem.W.Frag} {F : Hp} {lo : Int} {n : Nat} : ItOk K cl (Itr lo n) F (rngD lo n) where
  go := fun i H m hi => by have : i < n := by simpa [rngD] using hi
                           exact this
  stop := fun i H m hi => by have : i = n := by simpa [rngD] using hi
                             show n ≤ i
                             omega
  yld := fun i H x H' d F1 m1 m2 y e => by
    obtain ⟨rfl, rfl⟩ := y
    unfold rngD at e
    rw [List.getElem?_map] at e
    by_cases hi : i < n
    · rw [List.getElem?_range hi] at e
      cases e
      exact ⟨F1, .refl m2, .int _⟩
    · rw [List.getElem?_eq_none (by simpa using hi)] at e; cases e
theorem rp_ints {K : PySem.W.Frag} {F : Hp} : ∀ ns : List Int, RpA K cl F (ns.map V.int) (ns.map D.int)
  | [] => .nil
  | n :: ns => .cons (.int n) (rp_ints ns)
/-- a list or a tuple -/
def iSeqU (K : PySem.W.Frag) (tl : TE) : TI := fun σ H R => tl σ H fun x H1 => ∃ a, x = .ref a ∧ (((∃ xs, SqL K H1 a xs) ∧ R (Itl K a) H1) ∨ ((∃ xs, SqT K H1 a xs) ∧ R (Itt K a) H1))
theorem pi_seqU {l : Expr} {tl : TE} (hl : PE X l tl) : PI X tg l (iSeqU X.K tl) := by
  refine ⟨fun pins s σ H R I h => ?_⟩
  refine thn (hl.run pins s σ H _ I h) fun v s1 ⟨x, H1, I1, r1, q1⟩ => ?_
  obtain ⟨a, e, q⟩ := q1
  subst e
  cases r1
  rcases q with ⟨⟨xs, hq⟩, q⟩ | ⟨⟨xs, hq⟩, q⟩
  · obtain ⟨its, rv, p, hz⟩ := I1.list hq
    refine wpAny_pyIter_list p.isList ?_
    refine ⟨s1.heap.objs.size, [s1.heap.objs.size], _, _, H1, rfl, I1.kept (t' := s1.toks) fun b o e => Heap.get?_push_of_some _ e, turn_list a _, ⟨_, Heap.get?_push_size _ rfl, rfl, rfl⟩, fun b hb => ?_, q⟩
    have e : b = s1.heap.objs.size := by simpa using hb
    subst e
    exact I1.fpOk (Nat.le_refl _) (I1.hok.fresh (Nat.le_refl _))
  · obtain ⟨its, rv, p, hz⟩ := I1.tuple hq
    refine wpAny_pyIter_tuple (show s1.heap.IsTuple a its.toArray from p) ?_
    refine ⟨s1.heap.objs.size, [s1.heap.objs.size], _, _, H1, rfl, I1.kept (t' := s1.toks) fun b o e => Heap.get?_push_of_some _ e, turn_tuple a _, ⟨_, Heap.get?_push_size _ rfl, rfl, rfl⟩, fun b hb => ?_, q⟩
    have e : b = s1.heap.objs.size := by simpa using hb
    subst e
    exact I1.fpOk (Nat.le_refl _) (I1.hok.fresh (Nat.le_refl _))
theorem stepI {K : PySem.W.Frag} {σ : L2.St} {B F0 F H : Hp} {ρ : En} {r : Res D} {g : D → Res (List D)} {R : It → Hp → Prop} (s : SOk K cl B F0 F σ H ρ) (p : PostI K cl W σ F H (r.bind g) R) :
    PostE K cl W σ F H r fun v H' => ∃ d F', r = .ok d ∧ Gr F H F' H' ∧ Rp K cl F' v d ∧ PostI K cl W σ F' H' (g d) R := by
  cases r with
  | bad => exact p
  | er e => exact p
  | ok d =>
    intro v F' H' g1 h1
    have p : PostI K cl W σ F H (g d) R := p
    refine ⟨d, F', rfl, g1, h1, ?_⟩
    cases q : g d with
    | bad => rw [q] at p; exact p
    | er e => rw [q] at p; exact fun c dd F2 H2 g2 h2 => p c dd F2 H2 (g1.trans g2) h2
    | ok ds => rw [q] at p; exact fun J F2 H2 g2 h2 => p J F2 H2 (g1.trans g2) h2
theorem si_seq (h : SE X cl W e m) : SI X cl W tg e (mSeq m) := by
  refine (pi_seqU h).of ?_
  rintro σ H R ⟨B, F0, F, ρ, s, p⟩
  refine ⟨B, F0, F, ρ, s, (stepI s p).imp ?_⟩
  rintro v H1 ⟨d, F1, e, g1, r, p⟩
  cases r with
  | lst a b => exact ⟨_, rfl, .inl ⟨⟨_, .of (g1.fh _ _ a)⟩, p _ F1 H1 (.refl g1.fh) (it_list (.of a) b)⟩⟩
  | tup a b => exact ⟨_, rfl, .inr ⟨⟨_, .of (g1.fh _ _ a)⟩, p _ F1 H1 (.refl g1.fh) (it_tup (.of a) b)⟩⟩
  | scr a => exact ⟨_, rfl, .inl ⟨⟨_, g1.fh.seq a⟩, p _ F1 H1 (.refl g1.fh) (it_list a (rp_ints _))⟩⟩
  | _ => exact p.elim
theorem stepIA {K : PySem.W.Frag} {σ : L2.St} {B F0 F H : Hp} {ρ : En} {r : Res (List D)} {g : List D → Res (List D)} {R : It → Hp → Prop} (s : SOk K cl B F0 F σ H ρ) (p : PostI K cl W σ F H (r.bind g) R) :
    PostA K cl W σ F H r fun vs H' => ∃ ds F', r = .ok ds ∧ Gr F H F' H' ∧ RpA K cl F' vs ds ∧ PostI K cl W σ F' H' (g ds) R := by
  cases r with
  | bad => exact p
  | er e => exact p
  | ok d =>
    intro v F' H' g1 h1
    have p : PostI K cl W σ F H (g d) R := p
    refine ⟨d, F', rfl, g1, h1, ?_⟩
    cases q : g d with
    | bad => rw [q] at p; exact p
    | er e => rw [q] at p; exact fun c dd F2 H2 g2 h2 => p c dd F2 H2 (g1.trans g2) h2
    | ok ds => rw [q] at p; exact fun J F2 H2 g2 h2 => p J F2 H2 (g1.trans g2) h2
theorem si_rng1 (hg : Gl X "range") (hm : X.mg "range" = none) (ha : SA X cl W [a] ms) (hs : starEach [a] X.env = [(false, eval a X.env)] := by rfl) : SI X cl W tg (.Call (.Name "range" p) [a] [] pos) (mRng1 ms) := by
  refine (pi_range1 hg hm ha hs).of ?_
  rintro σ H R ⟨B, F0, F, ρ, s, p⟩
  refine ⟨B, F0, F, ρ, s, (stepIA s p).imp ?_⟩
  rintro vs H1 ⟨ds, F1, e, g1, r, p⟩
  cases q : rng1Of ds with
  | none => rw [q] at p; exact p.elim
  | some es =>
    rw [q] at p
    unfold rng1Of at q
    split at q
    · obtain ⟨v, rfl, h⟩ := r.one
      cases h
      split at q
      · rename_i hj
        cases q
        exact ⟨_, rfl, hj.1, hj.2, p _ F1 H1 (.refl g1.fh) it_rng⟩
      · cases q
    · cases q
theorem si_rng2 (hg : Gl X "range") (hm : X.mg "range" = none) (ha : SA X cl W [a, b] ms) (hs : starEach [a, b] X.env = [(false, eval a X.env), (false, eval b X.env)] := by rfl) (hs2 : starEach [b] X.env = [(false, eval b X.env)] := by rfl) :
    SI X cl W tg (.Call (.Name "range" p) [a, b] [] pos) (mRng2 ms) := by
  refine (pi_range2 hg hm ha hs hs2).of ?_
  rintro σ H R ⟨B, F0, F, ρ, s, p⟩
  refine ⟨B, F0, F, ρ, s, (stepIA s p).imp ?_⟩
  rintro vs H1 ⟨ds, F1, e, g1, r, p⟩
  cases q : rng2Of ds with
  | none => rw [q] at p; exact p.elim
  | some es =>
    rw [q] at p
    unfold rng2Of at q
    split at q
    · obtain ⟨v, u, rfl, h, h2⟩ := r.two
      cases h; cases h2
      split at q
      · rename_i hj
        cases q
        exact ⟨_, _, rfl, hj, p _ F1 H1 (.refl g1.fh) it_rng⟩
      · cases q
    · cases q
end
/-! ## targets -/
/-- a target that stores into the slots `is` -/
structure GOk (K : PySem.W.Frag) (cl : Cl) (g : TG) (is : List Nat) (bt : D → En → Option En) : Prop where
  run : ∀ B F0 F σ H ρ v d ρ' Q, SOk K cl B F0 F σ H ρ → Rp K cl F v d → bt d ρ = some ρ' → (∀ σ', SOk K cl B F0 F σ' H ρ' → σ'.length = σ.length → (∀ k, k ∉ is → σ'[k]? = σ[k]? ∧ ρ'[k]? = ρ[k]?) → Q σ' H) → g v σ H Q
  nol : ∀ d ρ ρ', bt d ρ = some ρ' → ∀ k, k ∈ is → ∀ b c, ρ'[k]? ≠ some (.ow b c)
def bName (i : Nat) : D → En → Option En := fun d ρ => some (ρ.set i (.im d))
def bNames : List Nat → List D → En → Option En
  | [], [], ρ => some ρ
  | i :: is, d :: ds, ρ => bNames is ds (ρ.set i (.im d))
  | _, _, _ => none
def bTup (is : List Nat) : D → En → Option En := fun d ρ => match d with
  | .tup ds => bNames is ds ρ
  | _ => none
section
variable {K : PySem.W.Frag} {cl : Cl} {X : Cx} {B F0 F H : Hp} {σ : L2.St} {ρ : En} {i : Nat} {d : D} {v : V}
/-- a slot holds a new frozen value -/
theorem SOk.set (s : SOk K cl B F0 F σ H ρ) (i : Nat) (r : Rp K cl F v d) : SOk K cl B F0 F (σ.set i (some v)) H (ρ.set i (.im d)) where
  f0 := s.f0
  fh := s.fh
  bh := s.bh
  bf := s.bf
  len := by simpa using s.len
  im := fun j d' e => by
    by_cases h : j = i
    · subst h
      by_cases hl : j < ρ.length
      · rw [List.getElem?_set_self hl] at e; cases e
        exact ⟨v, by rw [List.getElem?_set_self (by rw [s.len]; exact hl)], r⟩
      · rw [List.getElem?_eq_none (by simpa using hl)] at e; cases e
    · rw [List.getElem?_set_ne (Ne.symm h)] at e ⊢
      exact s.im j d' e
  ow := fun j b c e => by
    by_cases h : j = i
    · subst h
      by_cases hl : j < ρ.length
      · rw [List.getElem?_set_self hl] at e; cases e
      · rw [List.getElem?_eq_none (by simpa using hl)] at e; cases e
    · rw [List.getElem?_set_ne (Ne.symm h)] at e ⊢
      exact s.ow j b c e
  ap := fun j k b c b' c' a hjk e1 e2 e3 => by
    have key : ∀ {j : Nat} {b : Bool} {c : Cn}, (ρ.set i (.im d))[j]? = some (.ow b c) → j ≠ i ∧ ρ[j]? = some (.ow b c) := fun {j b c} e => by
      by_cases h : j = i
      · subst h
        by_cases hl : j < ρ.length
        · rw [List.getElem?_set_self hl] at e; cases e
        · rw [List.getElem?_eq_none (by simpa using hl)] at e; cases e
      · rw [List.getElem?_set_ne (Ne.symm h)] at e; exact ⟨h, e⟩
    obtain ⟨n1, q1⟩ := key e1
    obtain ⟨n2, q2⟩ := key e2
    rw [List.getElem?_set_ne (Ne.symm n1)] at e3
    rw [List.getElem?_set_ne (Ne.symm n2)]
    exact s.ap j k b c b' c' a hjk q1 q2 e3
theorem g_name (i : Nat) : GOk K cl (gName i) [i] (bName i) where
  run := fun B F0 F σ H ρ v d ρ' Q s r e q => by
    cases e
    exact q _ (s.set i r) (by simp) fun k hk => by
      have : k ≠ i := by simpa using hk
      rw [List.getElem?_set_ne (Ne.symm this), List.getElem?_set_ne (Ne.symm this)]
      exact ⟨rfl, rfl⟩
  nol := fun d ρ ρ' e k hk b c z => by
    cases e
    have : k = i := by simpa using hk
    subst this
    by_cases hl : k < ρ.length
    · rw [List.getElem?_set_self hl] at z; cases z
    · rw [List.getElem?_eq_none (by simpa using hl)] at z; cases z
/-- several names -/
def gNames : List Nat → TGs
  | [] => gNil
  | i :: is => gCons (gName i) (gNames is)
theorem gNames_run : ∀ (is : List Nat) {B F0 F : Hp} {σ : L2.St} {H : Hp} {ρ ρ' : En} {vs : List V} {ds : List D} {Q : L2.St → Hp → Prop}, SOk K cl B F0 F σ H ρ → RpA K cl F vs ds → bNames is ds ρ = some ρ' →
    (∀ σ', SOk K cl B F0 F σ' H ρ' → σ'.length = σ.length → (∀ k, k ∉ is → σ'[k]? = σ[k]? ∧ ρ'[k]? = ρ[k]?) → Q σ' H) → gNames is vs σ H Q
  | [], _, _, _, _, _, _, _, _, ds, _, s, r, e, q => by
    cases ds with
    | nil => cases r; cases e; exact ⟨rfl, q _ s rfl fun _ _ => ⟨rfl, rfl⟩⟩
    | cons => cases e
  | i :: is, _, _, _, _, _, _, _, _, ds, _, s, r, e, q => by
    cases ds with
    | nil => cases e
    | cons d ds =>
      cases r with
      | cons a b =>
        refine ⟨_, _, rfl, gNames_run is (s.set i a) b e fun σ' s' hl hk => q σ' s' (by simpa using hl) fun k hn => ?_⟩
        have n1 : k ≠ i := fun z => hn (by simp [z])
        have n2 : k ∉ is := fun z => hn (by simp [z])
        obtain ⟨h1, h2⟩ := hk k n2
        rw [List.getElem?_set_ne (Ne.symm n1)] at h1 h2
        exact ⟨h1, h2⟩
theorem bNames_nol : ∀ (is : List Nat) (ds : List D) (ρ ρ' : En), bNames is ds ρ = some ρ' → (∀ (k : Nat) (b : Bool) (c : Cn), k ∈ is → ρ'[k]? ≠ some (Sl.ow b c)) ∧ ∀ (k : Nat) (b : Bool) (c : Cn), ρ'[k]? = some (Sl.ow b c) → ρ[k]? = some (Sl.ow b c)
  | [], [], ρ, ρ', e => by cases e; exact ⟨fun k b c h => (nomatch h), fun k b c h => h⟩
  | [], _ :: _, ρ, ρ', e => by cases e
  | i :: is, [], ρ, ρ', e => by cases e
  | i :: is, d :: ds, ρ, ρ', e => by
    obtain ⟨h1, h2⟩ := bNames_nol is ds _ _ e
    have key : ∀ (k : Nat) (b : Bool) (c : Cn), ρ'[k]? = some (Sl.ow b c) → k ≠ i ∧ ρ[k]? = some (.ow b c) := fun k b c z => by
      have z := h2 k b c z
      by_cases h : k = i
      · subst h
        by_cases hl : k < ρ.length
        · rw [List.getElem?_set_self hl] at z; cases z
        · rw [List.getElem?_eq_none (by simpa using hl)] at z; cases z
      · rw [List.getElem?_set_ne (Ne.symm h)] at z; exact ⟨h, z⟩
    refine ⟨fun k b c hk z => ?_, fun k b c z => (key k b c z).2⟩
    rcases List.mem_cons.mp hk with rfl | hk
    · exact (key _ b c z).1 rfl
    · exact h1 k b c hk z
theorem g_tup (is : List Nat) : GOk K cl (gTup K is.length (gNames is)) is (bTup is) where
  run := fun B F0 F σ H ρ v d ρ' Q s r e q => by
    cases r <;> simp only [bTup] at e <;> try cases e
    rename_i a xs ds ha hr
    refine ⟨_, _, rfl, .of (s.fh _ _ ha), ?_, gNames_run is s hr e q⟩
    have : ∀ (is : List Nat) (ds : List D) (ρ ρ' : En), bNames is ds ρ = some ρ' → ds.length = is.length := by
      intro is
      induction is with
      | nil => intro ds ρ ρ' e; cases ds with
        | nil => rfl
        | cons => cases e
      | cons i is ih => intro ds ρ ρ' e; cases ds with
        | nil => cases e
        | cons d ds => simp [ih ds _ _ e]
    rw [hr.length, this is ds ρ ρ' e]
  nol := fun d ρ ρ' e k hk b c => by
    cases d <;> simp only [bTup] at e <;> try cases e
    exact (bNames_nol is _ _ _ e).1 k b c hk
end
end FL
namespace FL
open PySem L2
/-! ## list comprehensions -/
def wipeE (ρ : En) : List Nat → En
  | [] => ρ
  | v :: vs => (wipeE ρ vs).set v .un
def compL (bt : D → En → Option En) (mt : En → Res Bool) (me : En → Res D) (ρ : En) : List D → List D → Res Cn
  | [], acc => .ok (.l acc)
  | d :: ds, acc => match bt d ρ with
    | none => .bad
    | some ρ1 => match mt ρ1 with
      | .ok true => match me ρ1 with
        | .ok e => if acc.length < 16777215 then compL bt mt me ρ ds (acc ++ [e]) else .bad
        | _ => .bad
      | .ok false => compL bt mt me ρ ds acc
      | _ => .bad
def mLc (bt : D → En → Option En) (own : List Nat) (mi : En → Res (List D)) (mt : En → Res Bool) (me : En → Res D) : En → Res Cn := fun ρ => (mi ρ).bind fun ds => compL bt mt me (wipeE ρ own) ds []
def mYes : En → Res Bool := fun _ => .ok true
abbrev W0 : WX := fun _ _ _ _ => False
def tTs (K : PySem.W.Frag) (cl : Cl) (m : En → Res Bool) : TT := tT K cl W0 m
section
variable {K : PySem.W.Frag} {cl : Cl} {X : Cx} {B F0 F H : Hp} {σ σ' : L2.St} {ρ : En}
theorem wipe_get (σ : L2.St) : ∀ (vs : List Nat) (k : Nat), (wipe σ vs)[k]? = if k ∈ vs then (if k < σ.length then some none else none) else σ[k]?
  | [], k => by simp [wipe]
  | v :: vs, k => by
    unfold wipe
    by_cases h : k = v
    · subst h
      rw [if_pos (by simp)]
      split
      · rename_i hl
        rw [List.getElem?_set_self (by rw [wipe_length]; exact hl)]
      · rename_i hl
        rw [List.getElem?_eq_none (by rw [List.length_set, wipe_length]; omega)]
    · rw [List.getElem?_set_ne (Ne.symm h), wipe_get σ vs k]
      by_cases h2 : k ∈ vs
      · rw [if_pos h2, if_pos (List.mem_cons_of_mem _ h2)]
      · rw [if_neg h2, if_neg (by simp [h, h2])]
theorem wipe_eq {vs : List Nat} (hl : σ'.length = σ.length) (h : ∀ k, k ∉ vs → σ'[k]? = (wipe σ vs)[k]?) : wipe σ' vs = wipe σ vs := by
  apply List.ext_getElem?
  intro k
  rw [wipe_get σ' vs k]
  by_cases hk : k ∈ vs
  · rw [if_pos hk, wipe_get σ vs k, if_pos hk, hl]
  · rw [if_neg hk, h k hk]
theorem wipeE_get (ρ : En) : ∀ (vs : List Nat) (k : Nat), (wipeE ρ vs)[k]? = if k ∈ vs then (if k < ρ.length then some .un else none) else ρ[k]?
  | [], k => by simp [wipeE]
  | v :: vs, k => by
    have wl : ∀ vs : List Nat, (wipeE ρ vs).length = ρ.length := by
      intro vs
      induction vs with
      | nil => rfl
      | cons v vs ih => unfold wipeE; rw [List.length_set, ih]
    unfold wipeE
    by_cases h : k = v
    · subst h
      rw [if_pos (by simp)]
      split
      · rename_i hl
        rw [List.getElem?_set_self (by rw [wl]; exact hl)]
      · rename_i hl
        rw [List.getElem?_eq_none (by rw [List.length_set, wl]; omega)]
    · rw [List.getElem?_set_ne (Ne.symm h), wipeE_get ρ vs k]
      by_cases h2 : k ∈ vs
      · rw [if_pos h2, if_pos (List.mem_cons_of_mem _ h2)]
      · rw [if_neg h2, if_neg (by simp [h, h2])]
theorem wipeE_length (ρ : En) : ∀ vs : List Nat, (wipeE ρ vs).length = ρ.length
  | [] => rfl
  | v :: vs => by unfold wipeE; rw [List.length_set, wipeE_length ρ vs]
theorem SOk.wipe (s : SOk K cl B F0 F σ H ρ) (vs : List Nat) : SOk K cl B F0 F (wipe σ vs) H (wipeE ρ vs) := by
  have key : ∀ {k : Nat} {x : Sl}, (wipeE ρ vs)[k]? = some x → x ≠ .un → k ∉ vs ∧ ρ[k]? = some x := fun {k x} e n => by
    rw [wipeE_get] at e
    by_cases h : k ∈ vs
    · rw [if_pos h] at e
      split at e
      · cases e; exact absurd rfl n
      · cases e
    · rw [if_neg h] at e; exact ⟨h, e⟩
  refine ⟨s.f0, s.fh, s.bh, s.bf, by rw [wipe_length, wipeE_length, s.len], fun i d e => ?_, fun i b c e => ?_, fun i j b c b' c' a hij e1 e2 e3 => ?_⟩
  · obtain ⟨h, e⟩ := key e (by intro z; cases z)
    obtain ⟨v, h1, h2⟩ := s.im i d e
    exact ⟨v, by rw [wipe_get, if_neg h]; exact h1, h2⟩
  · obtain ⟨h, e⟩ := key e (by intro z; cases z)
    obtain ⟨a, o, h1, h2⟩ := s.ow i b c e
    exact ⟨a, o, by rw [wipe_get, if_neg h]; exact h1, h2⟩
  · obtain ⟨n1, e1⟩ := key e1 (by intro z; cases z)
    obtain ⟨n2, e2⟩ := key e2 (by intro z; cases z)
    rw [wipe_get, if_neg n1] at e3
    rw [wipe_get, if_neg n2]
    exact s.ap i j b c b' c' a hij e1 e2 e3
end
section
variable {X : Cx} {cl : Cl} {W : WX} {elt tg iter : Expr} {ifs : List Expr} {scope : Scope} {own : List (Str × Nat)} {pos pos' : Pos} {is : List Nat} {g : TG} {bt : D → En → Option En} {mi : En → Res (List D)} {mt : En → Res Bool} {me : En → Res D}
theorem lc_in (G : GOk X.K cl g is bt) (hsub : ∀ i ∈ is, i ∈ own.map (·.2)) : ∀ σ H Q, tC' X.K cl W (mLc bt (own.map (·.2)) mi mt me) σ H Q → tLc (tI X.K cl W mi) g (tTs X.K cl mt) (tM X.K cl W0 me) (own.map (·.2)) σ H Q := by
  rintro σ H Q ⟨B, F0, F, ρ, s, p⟩
  refine ⟨B, F0, F, ρ, s, ?_⟩
  unfold mLc at p
  cases q : mi ρ with
  | bad => rw [q] at p; exact p
  | er e => rw [q] at p; exact p
  | ok ds =>
    rw [q] at p
    have p : PostC X.K cl W σ F H (compL bt mt me (wipeE ρ (own.map (·.2))) ds []) Q := p
    intro J F1 H1 g1 io Da hD
    generalize hvs : own.map (·.2) = vs at *
    generalize hρw : wipeE ρ vs = ρw at *
    generalize hR : compL bt mt me ρw ds [] = R at *
    refine ⟨fun i m Hc => m = ds.length - i ∧ i ≤ ds.length ∧ ∃ Fc av ad, Same F1 Fc ∧ Same Fc Hc ∧ Same H1 Hc ∧ (∀ a, H1 a ≠ none → Fc a = F1 a) ∧ Fc Da = none ∧ Hc Da = some (.lst av) ∧ RpA X.K cl Fc av ad ∧ compL bt mt me ρw (ds.drop i) ad = R,
      ⟨ds.length, by simp, Nat.zero_le _, F1, [], [], Same.refl _, ?_, ?_, fun _ _ => rfl, ?_, upd_same, .nil, by simpa using hR⟩, ?_⟩
    · exact (Gr.own g1.fh hD).fh
    · exact (Gr.own g1.fh hD).h
    · cases z : F1 Da with | none => rfl | some o => rw [g1.fh _ _ z] at hD; cases hD
    rintro i m Hc ⟨rfl, hi, Fc, av, ad, m1, m2, m3, m4, hF, hH, hr, hR'⟩
    have gc : Gr F H Fc Hc := ⟨g1.f.trans m1, m2, g1.h.trans m3, fun a ha => by
      have h1 : H1 a ≠ none := by
        cases e : H a with
        | none => exact absurd e ha
        | some o => rw [g1.h a o e]; simp
      rw [m4 a h1, g1.n a ha]⟩
    by_cases hlt : i < ds.length
    · refine .inr ⟨io.go i Hc (m1.trans m2) hlt, fun H' => ∃ Fc av ad, Same F1 Fc ∧ Same Fc H' ∧ Same H1 H' ∧ (∀ a, H1 a ≠ none → Fc a = F1 a) ∧ Fc Da = none ∧ H' Da = some (.lst av) ∧ RpA X.K cl Fc av ad ∧ compL bt mt me ρw (ds.drop (i + 1)) ad = R, ?_, ?_⟩
      · intro H' h'
        exact ⟨ds.length - (i + 1), by omega, rfl, hlt, h'⟩
      intro x H' y
      have hd : ds[i]? = some ds[i] := by simp [hlt]
      obtain ⟨F2, g2, rx⟩ := io.yld i Hc x H' ds[i] Fc m1 m2 y hd
      have gt : Gr F H F2 H' := gc.trans g2
      have sw := (s.grow gt).wipe vs
      rw [hρw] at sw
      have ed : ds.drop i = ds[i] :: ds.drop (i + 1) := by rw [List.drop_eq_getElem_cons hlt]
      rw [ed] at hR'
      simp only [compL] at hR'
      cases qb : bt ds[i] ρw with
      | none => rw [qb] at hR'; simp only at hR'; rw [← hR'] at p; exact p.elim
      | some ρ1 =>
        rw [qb] at hR'
        simp only at hR'
        refine G.run B F0 F2 (wipe σ vs) H' ρw x ds[i] ρ1 _ sw rx qb fun σ2 s2 hl2 hk2 => ?_
        refine ⟨wipe_eq (by rw [hl2, wipe_length]) fun k hk => (hk2 k fun z => hk (hvs ▸ hsub k z)).1, B, F0, F2, ρ1, s2, ?_⟩
        -- what stands at Da
        have hDa : ∀ {Fx Hx : Hp}, Gr Fc Hc Fx Hx → Fx Da = none ∧ Hx Da = some (.lst av) := fun {Fx Hx} gx => ⟨by rw [gx.n Da (by rw [hH]; simp)]; exact hF, gx.h _ _ hH⟩
        cases qt : mt ρ1 with
        | bad => rw [qt] at hR'; simp only at hR'; rw [← hR'] at p; exact p.elim
        | er e => rw [qt] at hR'; simp only at hR'; rw [← hR'] at p; exact p.elim
        | ok b =>
          rw [qt] at hR'
          intro F3 H3 g3
          cases b with
          | false =>
            simp only at hR'
            show ∃ Fc av ad, _
            have gx := g2.trans g3
            obtain ⟨e1, e2⟩ := hDa gx
            exact ⟨F3, av, ad, m1.trans gx.f, gx.fh, m3.trans gx.h, fun a ha => by
              have : Hc a ≠ none := by
                cases e : H1 a with
                | none => exact absurd e ha
                | some o => rw [m3 a o e]; simp
              rw [gx.n a this, m4 a ha], e1, e2, hr.mono gx.f, hR'⟩
          | true =>
            simp only at hR'
            show tM X.K cl W0 me σ2 H3 _
            refine ⟨B, F0, F3, ρ1, s2.grow g3, ?_⟩
            cases qe : me ρ1 with
            | bad => rw [qe] at hR'; simp only at hR'; rw [← hR'] at p; exact p.elim
            | er e => rw [qe] at hR'; simp only at hR'; rw [← hR'] at p; exact p.elim
            | ok d =>
              rw [qe] at hR'
              simp only at hR'
              intro v F4 H4 g4 r4
              have gx := (g2.trans g3).trans g4
              obtain ⟨e1, e2⟩ := hDa gx
              by_cases hlen : ad.length < 16777215
              · rw [if_pos hlen] at hR'
                refine ⟨av, e2, by rw [hr.length, sizeLine_eq]; omega, F4, av ++ [v], ad ++ [d], m1.trans gx.f, fun a o e => ?_, fun a o e => ?_, fun a ha => ?_, e1, upd_same, (hr.mono gx.f).app (.cons r4 .nil), hR'⟩
                · have : a ≠ Da := fun z => by subst z; rw [e1] at e; cases e
                  rw [upd_ne this]; exact gx.fh _ _ e
                · have : a ≠ Da := fun z => by subst z; rw [hD] at e; cases e
                  rw [upd_ne this]; exact gx.h _ _ (m3 _ _ e)
                · have : Hc a ≠ none := by
                    cases e : H1 a with
                    | none => exact absurd e ha
                    | some o => rw [m3 a o e]; simp
                  rw [gx.n a this, m4 a ha]
              · rw [if_neg hlen] at hR'; rw [← hR'] at p; exact p.elim
    · have e : i = ds.length := by omega
      refine .inl ⟨io.stop i Hc (m1.trans m2) e, ?_⟩
      subst e
      rw [List.drop_length] at hR'
      simp only [compL] at hR'
      rw [← hR'] at p
      exact p Da (.lst av) Fc Hc gc (Same.free g1.h hD) hF hH ⟨av, rfl, hr⟩
/-- [elt for target in iter if ..] -/
theorem sc_lc (hc : X.calm = true) (hN : X.N.Nodup) (G : GOk X.K cl g is bt) (hsub : (is.all fun i => (own.map (·.2)).contains i) = true) (hi : SI X cl W tg iter mi) (ok : BlkOk X.N X.env.scope scope own)
    (hg : ∀ (s : Shared) (H : Hp) (C : Addr) (ce : List (Str × Addr)) (fp : List Addr), PG (X.blk s H scope (compEnvC scope ce C X.env) fp) tg g)
    (ht : ∀ (s : Shared) (H : Hp) (C : Addr) (ce : List (Str × Addr)) (fp : List Addr), PTs (X.blk s H scope (compEnvC scope ce C X.env) fp) ifs (tTs X.K cl mt))
    (he : ∀ (s : Shared) (H : Hp) (C : Addr) (ce : List (Str × Addr)) (fp : List Addr), PE (X.blk s H scope (compEnvC scope ce C X.env) fp) elt (tM X.K cl W0 me)) (hs : ∀ x, foldedSetIterable iter X.env x = pure x := by intro _; rfl) :
    SC X cl W (.ListComp elt [⟨tg, iter, ifs, 0⟩] scope pos) (mLc bt (own.map (·.2)) mi mt me) :=
  (pe_lc hc hN hi ok hg ht he hs).of (lc_in G fun i hi => by simpa using (List.all_eq_true.mp hsub i hi))
theorem ts_nil : PTs X [] (tTs X.K cl mYes) := ⟨fun pins s σ H Q I ⟨B, F0, F, ρ, so, p⟩ => pts_nil.run pins s σ H Q I (p F H (.refl so.fh))⟩
theorem ts_one {c : Expr} {K : PySem.W.Frag} (h : PT X c (tT K cl W0 mt)) : PTs X [c] (tTs K cl mt) := pts_one h
end
/-! ## statements -/
def Lk (ρ : En) (σ : L2.St) (ρ' : En) (σ' : L2.St) : Prop := ∀ (i : Nat) (c : Cn), ρ'[i]? = some (.ow true c) → ρ[i]? = some (.ow true c) ∧ σ'[i]? = σ[i]?
theorem Lk.refl (ρ : En) (σ : L2.St) : Lk ρ σ ρ σ := fun _ _ h => ⟨h, rfl⟩
theorem Lk.trans {ρ ρ1 ρ2 : En} {σ σ1 σ2 : L2.St} (a : Lk ρ σ ρ1 σ1) (b : Lk ρ1 σ1 ρ2 σ2) : Lk ρ σ ρ2 σ2 := fun i c h => by
  obtain ⟨h1, e1⟩ := b i c h
  obtain ⟨h2, e2⟩ := a i c h1
  exact ⟨h2, e1.trans e2⟩
def PostS (K : PySem.W.Frag) (cl : Cl) (W : WX) (B F0 : Hp) (σ : L2.St) (F : Hp) (ρ : En) (r : Option Fl) (D : Ends) : Prop := match r with
  | none => False
  | some (.nx ρ') => ∀ σ' F' H', Same F F' → SOk K cl B F0 F' σ' H' ρ' → Lk ρ σ ρ' σ' → D.nx σ' H'
  | some (.bk ρ') => ∀ σ' F' H', Same F F' → SOk K cl B F0 F' σ' H' ρ' → Lk ρ σ ρ' σ' → D.bk σ' H'
  | some (.ct ρ') => ∀ σ' F' H', Same F F' → SOk K cl B F0 F' σ' H' ρ' → Lk ρ σ ρ' σ' → D.ct σ' H'
  | some (.rt d) => ∀ v F' H', Same F F' → Same F' H' → Same B H' → (∀ a, B a ≠ none → F' a = F0 a) → Rp K cl F' v d → D.rt v H'
  | some (.ex e ρ') => ∀ c dd σ' F' H', Same F F' → SOk K cl B F0 F' σ' H' ρ' → Lk ρ σ ρ' σ' → XRp K cl F' c dd e → W c dd σ' H'
def tS (K : PySem.W.Frag) (cl : Cl) (W : WX) (ms : En → Option Fl) : TS := fun D σ H => ∃ B F0 F ρ, SOk K cl B F0 F σ H ρ ∧ PostS K cl W B F0 σ F ρ (ms ρ) D
abbrev SS (X : Cx) (cl : Cl) (W : WX) (st : Stmt) (m : En → Option Fl) : Prop := PS X st (tS X.K cl W m)
abbrev SSs (X : Cx) (cl : Cl) (W : WX) (st : List Stmt) (m : En → Option Fl) : Prop := PSs X st (tS X.K cl W m)
section
variable {K : PySem.W.Frag} {cl : Cl} {W : WX} {B F0 F F1 H H1 : Hp} {σ σ1 : L2.St} {ρ ρ1 : En} {D D' : Ends}
theorem PostS.tr {r : Option Fl} (p : PostS K cl W B F0 σ F ρ r D) (m : Same F F1) (l : Lk ρ σ ρ1 σ1) : PostS K cl W B F0 σ1 F1 ρ1 r D := by
  cases r with
  | none => exact p
  | some f =>
    cases f with
    | nx ρ' => exact fun σ' F' H' m' s' l' => p σ' F' H' (m.trans m') s' (l.trans l')
    | bk ρ' => exact fun σ' F' H' m' s' l' => p σ' F' H' (m.trans m') s' (l.trans l')
    | ct ρ' => exact fun σ' F' H' m' s' l' => p σ' F' H' (m.trans m') s' (l.trans l')
    | rt d => exact fun v F' H' m' => p v F' H' (m.trans m')
    | ex e ρ' => exact fun c dd σ' F' H' m' s' l' => p c dd σ' F' H' (m.trans m') s' (l.trans l')
end
def runE {α : Type} (ρ : En) (r : Res α) (f : α → Option Fl) : Option Fl := match r with
  | .ok a => f a
  | .er e => some (.ex e ρ)
  | .bad => none
def sSeq (a b : En → Option Fl) : En → Option Fl := fun ρ => match a ρ with
  | some (.nx ρ1) => b ρ1
  | r => r
def sNop : En → Option Fl := fun ρ => some (.nx ρ)
def sSet (i : Nat) (m : En → Res D) : En → Option Fl := fun ρ => runE ρ (m ρ) fun d => some (.nx (ρ.set i (.im d)))
def sOwn (i : Nat) (m : En → Res Cn) : En → Option Fl := fun ρ => runE ρ (m ρ) fun c => some (.nx (ρ.set i (.ow false c)))
def sAsg (bt : D → En → Option En) (m : En → Res D) : En → Option Fl := fun ρ => runE ρ (m ρ) fun d => match bt d ρ with
  | some ρ' => some (.nx ρ')
  | none => none
def sRet (m : En → Res D) : En → Option Fl := fun ρ => runE ρ (m ρ) fun d => some (.rt d)
def sRetN : En → Option Fl := fun _ => some (.rt .non)
def sExp (m : En → Res D) : En → Option Fl := fun ρ => runE ρ (m ρ) fun _ => some (.nx ρ)
def sIf (c : En → Res Bool) (a b : En → Option Fl) : En → Option Fl := fun ρ => runE ρ (c ρ) fun k => if k then a ρ else b ρ
def sBrk : En → Option Fl := fun ρ => some (.bk ρ)
def sCnt : En → Option Fl := fun ρ => some (.ct ρ)
def forL (bt : D → En → Option En) (body : En → Option Fl) : List D → En → Option Fl
  | [], ρ => some (.nx ρ)
  | d :: ds, ρ => match bt d ρ with
    | none => none
    | some ρ1 => match body ρ1 with
      | some (.nx ρ2) => forL bt body ds ρ2
      | some (.ct ρ2) => forL bt body ds ρ2
      | some (.bk ρ2) => some (.nx ρ2)
      | r => r
def sFor (bt : D → En → Option En) (mi : En → Res (List D)) (body : En → Option Fl) : En → Option Fl := fun ρ => runE ρ (mi ρ) fun ds => forL bt body ds ρ
def whN (c : En → Res Bool) (body : En → Option Fl) : Nat → En → Option Fl
  | 0, _ => none
  | n + 1, ρ => runE ρ (c ρ) fun k => if k then (match body ρ with
      | some (.nx ρ2) => whN c body n ρ2
      | some (.ct ρ2) => whN c body n ρ2
      | some (.bk ρ2) => some (.nx ρ2)
      | r => r) else some (.nx ρ)
open Classical in
noncomputable def sWh (c : En → Res Bool) (body : En → Option Fl) : En → Option Fl := fun ρ => if h : ∃ n, whN c body n ρ ≠ none then whN c body (Classical.choose h) ρ else none
theorem whN_mono {c : En → Res Bool} {body : En → Option Fl} : ∀ (n k : Nat) (ρ : En) (r : Fl), whN c body n ρ = some r → whN c body (n + k) ρ = some r
  | 0, _, _, _, h => by cases h
  | n + 1, k, ρ, r, h => by
    rw [Nat.succ_add]
    simp only [whN] at h ⊢
    cases q : c ρ with
    | bad => rw [q] at h; exact h
    | er e => rw [q] at h; exact h
    | ok b =>
      rw [q] at h
      cases b with
      | false => exact h
      | true =>
        simp only [runE, if_true] at h ⊢
        cases q2 : body ρ with
        | none => rw [q2] at h; exact h
        | some f =>
          rw [q2] at h
          cases f with
          | nx ρ2 => exact whN_mono n k ρ2 r h
          | ct ρ2 => exact whN_mono n k ρ2 r h
          | _ => exact h
theorem sWh_eq {c : En → Res Bool} {body : En → Option Fl} {n : Nat} {ρ : En} {r : Fl} (h : whN c body n ρ = some r) : sWh c body ρ = some r := by
  unfold sWh
  have hex : ∃ n, whN c body n ρ ≠ none := ⟨n, by rw [h]; simp⟩
  rw [dif_pos hex]
  have h2 := Classical.choose_spec hex
  generalize Classical.choose hex = k at *
  cases q : whN c body k ρ with
  | none => exact absurd q h2
  | some r' =>
    have a := whN_mono n k ρ r h
    have b := whN_mono k n ρ r' q
    rw [Nat.add_comm, a] at b
    exact b.symm
theorem sWh_some {c : En → Res Bool} {body : En → Option Fl} {ρ : En} {r : Fl} (h : sWh c body ρ = some r) : ∃ n, whN c body n ρ = some r := by
  unfold sWh at h
  split at h
  · exact ⟨_, h⟩
  · cases h
end FL
namespace FL
open PySem L2
section
variable {X : Cx} {cl : Cl} {W : WX} {st : Stmt} {sts : List Stmt} {e : Expr} {pos pos' : Pos} {m : En → Res D} {mc : En → Res Cn} {s1 s2 ms : En → Option Fl} {mt : En → Res Bool} {mi : En → Res (List D)}
theorem SOk.same {K : PySem.W.Frag} {B F0 F F' H H' : Hp} {σ : L2.St} {ρ : En} (s : SOk K cl B F0 F σ H ρ) (g : Gr F H F' H') : Same F F' ∧ Same F' H' ∧ Same B H' ∧ ∀ a, B a ≠ none → F' a = F0 a := ⟨g.f, g.fh, s.bh.trans g.h, (s.grow g).bf⟩
/-- from a statement's wish to an expression's -/
theorem stepS {K : PySem.W.Frag} {B F0 F H : Hp} {σ : L2.St} {ρ : En} {r : Res D} {f : D → Option Fl} {D' : Ends} (s : SOk K cl B F0 F σ H ρ) (p : PostS K cl W B F0 σ F ρ (runE ρ r f) D') :
    PostE K cl W σ F H r fun v H' => ∃ d F', r = .ok d ∧ Gr F H F' H' ∧ Rp K cl F' v d ∧ PostS K cl W B F0 σ F' ρ (f d) D' := by
  cases r with
  | bad => exact p
  | er e => exact fun c dd F' H' g h => p c dd σ F' H' g.f (s.grow g) (.refl _ _) h
  | ok d => exact fun v F' H' g h => ⟨d, F', rfl, g, h, PostS.tr (r := f d) p g.f (.refl _ _)⟩
theorem stepSC {K : PySem.W.Frag} {B F0 F H : Hp} {σ : L2.St} {ρ : En} {r : Res Cn} {f : Cn → Option Fl} {D' : Ends} (s : SOk K cl B F0 F σ H ρ) (p : PostS K cl W B F0 σ F ρ (runE ρ r f) D') :
    PostC K cl W σ F H r fun v H' => ∃ c a o F', v = .ref a ∧ r = .ok c ∧ Gr F H F' H' ∧ H a = none ∧ F' a = none ∧ H' a = some o ∧ CnR K cl F' c o ∧ PostS K cl W B F0 σ F' ρ (f c) D' := by
  cases r with
  | bad => exact p
  | er e => exact fun c dd F' H' g h => p c dd σ F' H' g.f (s.grow g) (.refl _ _) h
  | ok d => exact fun a o F' H' g h1 h2 h3 h4 => ⟨d, a, o, F', rfl, rfl, g, h1, h2, h3, h4, PostS.tr (r := f d) p g.f (.refl _ _)⟩
theorem stepST {K : PySem.W.Frag} {B F0 F H : Hp} {σ : L2.St} {ρ : En} {r : Res Bool} {f : Bool → Option Fl} {D' : Ends} (s : SOk K cl B F0 F σ H ρ) (p : PostS K cl W B F0 σ F ρ (runE ρ r f) D') :
    PostT K cl W σ F H r fun b H' => ∃ F', Gr F H F' H' ∧ PostS K cl W B F0 σ F' ρ (f b) D' := by
  cases r with
  | bad => exact p
  | er e => exact fun c dd F' H' g h => p c dd σ F' H' g.f (s.grow g) (.refl _ _) h
  | ok d => exact fun F' H' g => ⟨F', g, PostS.tr (r := f d) p g.f (.refl _ _)⟩
theorem PostC.imp {K : PySem.W.Frag} {σ : L2.St} {F H : Hp} {r : Res Cn} {Q Q' : VK} (p : PostC K cl W σ F H r Q) (h : ∀ b H', Q b H' → Q' b H') : PostC K cl W σ F H r Q' := by
  cases r with
  | bad => exact p
  | er e => exact p
  | ok b => exact fun a o F' H' g h1 h2 h3 h4 => h _ _ (p a o F' H' g h1 h2 h3 h4)
theorem Lk.set {ρ : En} {σ : L2.St} {i : Nat} {x : Sl} {v : Option V} (h : ∀ c, x ≠ .ow true c) : Lk ρ σ (ρ.set i x) (σ.set i v) := fun j c e => by
  by_cases z : j = i
  · subst z
    by_cases hl : j < ρ.length
    · rw [List.getElem?_set_self hl] at e; cases e; exact absurd rfl (h c)
    · rw [List.getElem?_eq_none (by simpa using hl)] at e; cases e
  · rw [List.getElem?_set_ne (Ne.symm z)] at e ⊢
    exact ⟨e, rfl⟩
/-- a slot takes a fresh list or dict -/
theorem SOk.own {K : PySem.W.Frag} {B F0 F H H' F' : Hp} {σ : L2.St} {ρ : En} {i : Nat} {a : Addr} {o : HO} {c : Cn} (s : SOk K cl B F0 F σ H ρ) (g : Gr F H F' H') (hn : H a = none) (hf : F' a = none) (ho : H' a = some o) (hc : CnR K cl F' c o) :
    SOk K cl B F0 F' (σ.set i (some (.ref a))) H' (ρ.set i (.ow false c)) := by
  have s' := s.grow g
  have hB : B a = none := by
    cases e : B a with
    | none => rfl
    | some u => rw [s.bh a u e] at hn; cases hn
  have nota : ∀ (j : Nat) (b : Bool) (c : Cn), ρ[j]? = some (.ow b c) → σ[j]? ≠ some (some (.ref a)) := fun j b c e z => by
    obtain ⟨a', o', h1, h2, h3, h4, h5⟩ := s.ow j b c e
    rw [h1] at z; cases z
    rw [h4] at hn; cases hn
  refine ⟨s'.f0, s'.fh, s'.bh, s'.bf, by simpa using s'.len, fun j d e => ?_, fun j b c' e => ?_, fun j k b1 c1 b2 c2 x hjk e1 e2 e3 => ?_⟩
  · by_cases h : j = i
    · subst h
      by_cases hl : j < ρ.length
      · rw [List.getElem?_set_self hl] at e; cases e
      · rw [List.getElem?_eq_none (by simpa using hl)] at e; cases e
    · rw [List.getElem?_set_ne (Ne.symm h)] at e ⊢
      exact s'.im j d e
  · by_cases h : j = i
    · subst h
      by_cases hl : j < ρ.length
      · rw [List.getElem?_set_self hl] at e; cases e
        exact ⟨a, o, by rw [List.getElem?_set_self (by rw [s.len]; exact hl)], hf, hB, ho, hc⟩
      · rw [List.getElem?_eq_none (by simpa using hl)] at e; cases e
    · rw [List.getElem?_set_ne (Ne.symm h)] at e ⊢
      exact s'.ow j b c' e
  · have key : ∀ {j : Nat} {b : Bool} {c1 : Cn}, (ρ.set i (.ow false c))[j]? = some (.ow b c1) → (j = i ∧ j < ρ.length) ∨ (j ≠ i ∧ ρ[j]? = some (.ow b c1)) := fun {j b c1} e => by
      by_cases h : j = i
      · subst h
        by_cases hl : j < ρ.length
        · exact .inl ⟨rfl, hl⟩
        · rw [List.getElem?_eq_none (by simpa using hl)] at e; cases e
      · rw [List.getElem?_set_ne (Ne.symm h)] at e; exact .inr ⟨h, e⟩
    have hlen := s.len
    rcases key e1 with ⟨rfl, l1⟩ | ⟨n1, q1⟩
    · rcases key e2 with ⟨rfl, l2⟩ | ⟨n2, q2⟩
      · exact absurd rfl hjk
      · rw [List.getElem?_set_self (by omega)] at e3; cases e3
        rw [List.getElem?_set_ne (Ne.symm n2)]
        exact nota k _ _ q2
    · rw [List.getElem?_set_ne (Ne.symm n1)] at e3
      rcases key e2 with ⟨rfl, l2⟩ | ⟨n2, q2⟩
      · rw [List.getElem?_set_self (by omega)]
        intro z; cases z
        exact nota j _ _ q1 e3
      · rw [List.getElem?_set_ne (Ne.symm n2)]
        exact s'.ap j k b1 c1 b2 c2 x hjk q1 q2 e3
/-- what a slot owns has changed -/
theorem SOk.put {K : PySem.W.Frag} {B F0 F H : Hp} {σ : L2.St} {ρ : En} {i : Nat} {a : Addr} {o : HO} {b : Bool} {c c' : Cn} (s : SOk K cl B F0 F σ H ρ) (hi : ρ[i]? = some (.ow b c)) (ha : σ[i]? = some (some (.ref a))) (hc : CnR K cl F c' o) :
    SOk K cl B F0 F σ (upd H a o) (ρ.set i (.ow b c')) := by
  obtain ⟨a', o', h1, h2, h3, h4, h5⟩ := s.ow i b c hi
  rw [ha] at h1; cases h1
  have hl : i < ρ.length := (List.getElem?_eq_some_iff.mp hi).1
  refine ⟨s.f0, fun x u e => ?_, fun x u e => ?_, s.bf, by simpa using s.len, fun j d e => ?_, fun j b1 c1 e => ?_, fun j k b1 c1 b2 c2 x hjk e1 e2 e3 => ?_⟩
  · have : x ≠ a := fun z => by subst z; rw [h2] at e; cases e
    rw [upd_ne this]; exact s.fh _ _ e
  · have : x ≠ a := fun z => by subst z; rw [h3] at e; cases e
    rw [upd_ne this]; exact s.bh _ _ e
  · by_cases h : j = i
    · subst h; rw [List.getElem?_set_self hl] at e; cases e
    · rw [List.getElem?_set_ne (Ne.symm h)] at e
      exact s.im j d e
  · by_cases h : j = i
    · subst h; rw [List.getElem?_set_self hl] at e; cases e
      exact ⟨a, o, ha, h2, h3, upd_same, hc⟩
    · rw [List.getElem?_set_ne (Ne.symm h)] at e
      obtain ⟨x, u, q1, q2, q3, q4, q5⟩ := s.ow j b1 c1 e
      have : x ≠ a := fun z => by subst z; exact s.ap i j b c b1 c1 x (Ne.symm h) hi e ha q1
      exact ⟨x, u, q1, q2, q3, by rw [upd_ne this]; exact q4, q5⟩
  · have key : ∀ {j : Nat} {b' : Bool} {c1 : Cn}, (ρ.set i (.ow b c'))[j]? = some (.ow b' c1) → ∃ b'' c'', ρ[j]? = some (.ow b'' c'') := fun {j b' c1} e => by
      by_cases h : j = i
      · subst h; exact ⟨_, _, hi⟩
      · rw [List.getElem?_set_ne (Ne.symm h)] at e; exact ⟨_, _, e⟩
    obtain ⟨_, _, q1⟩ := key e1
    obtain ⟨_, _, q2⟩ := key e2
    exact s.ap j k _ _ _ _ x hjk q1 q2 e3
theorem ss_nil : SSs X cl W [] sNop := pss_nil.of fun D σ H ⟨B, F0, F, ρ, s, p⟩ => p σ F H (Same.refl _) s (.refl _ _)
theorem ss_cons (h1 : SS X cl W st s1) (h2 : SSs X cl W sts s2) : SSs X cl W (st :: sts) (sSeq s1 s2) := by
  refine (pss_cons h1 h2).of ?_
  rintro D σ H ⟨B, F0, F, ρ, s, p⟩
  refine ⟨B, F0, F, ρ, s, ?_⟩
  unfold sSeq at p
  cases q : s1 ρ with
  | none => rw [q] at p; exact p
  | some f =>
    rw [q] at p
    cases f with
    | nx ρ1 => exact fun σ1 F1 H1 m1 k1 l1 => ⟨B, F0, F1, ρ1, k1, PostS.tr (r := s2 ρ1) p m1 l1⟩
    | _ => exact p
theorem ss_one (h1 : SS X cl W st s1) : SSs X cl W [st] s1 := pss_one h1
theorem ss_pass : SS X cl W (.Pass pos) sNop := ps_pass.of fun D σ H ⟨B, F0, F, ρ, s, p⟩ => p σ F H (Same.refl _) s (.refl _ _)
theorem ss_break : SS X cl W (.Break pos) sBrk := ps_break.of fun D σ H ⟨B, F0, F, ρ, s, p⟩ => p σ F H (Same.refl _) s (.refl _ _)
theorem ss_continue : SS X cl W (.Continue pos) sCnt := ps_continue.of fun D σ H ⟨B, F0, F, ρ, s, p⟩ => p σ F H (Same.refl _) s (.refl _ _)
theorem set_in {i : Nat} : ∀ D σ H, tS X.K cl W (sSet i m) D σ H → tAsg (tM X.K cl W m) (gName i) D σ H := by
  rintro D σ H ⟨B, F0, F, ρ, s, p⟩
  refine ⟨B, F0, F, ρ, s, (stepS s p).imp ?_⟩
  rintro v H1 ⟨d, F1, e, g, r, p⟩
  exact p _ F1 H1 (Same.refl _) ((s.grow g).set i r) (Lk.set fun c z => by cases z)
theorem own_in {i : Nat} : ∀ D σ H, tS X.K cl W (sOwn i mc) D σ H → tAsg (tC' X.K cl W mc) (gName i) D σ H := by
  rintro D σ H ⟨B, F0, F, ρ, s, p⟩
  refine ⟨B, F0, F, ρ, s, (stepSC s p).imp ?_⟩
  rintro v H1 ⟨c, a, o, F1, rfl, e, g, h1, h2, h3, h4, p⟩
  exact p _ F1 H1 (Same.refl _) (s.own g h1 h2 h3 h4) (Lk.set fun c z => by cases z)
/-- x = e; h: the rule ps_set (or ps_setLc) over what e promises -/
theorem ss_set (i : Nat) (h : PS X st (tAsg (tM X.K cl W m) (gName i))) : SS X cl W st (sSet i m) := h.of set_in
theorem ss_own (i : Nat) (h : PS X st (tAsg (tC' X.K cl W mc) (gName i))) : SS X cl W st (sOwn i mc) := h.of own_in
/-- y = [..]: the list is this name's own -/
theorem fz_in {i : Nat} : ∀ D σ H, tS X.K cl W (sSet i (mFz mc)) D σ H → tAsg (tC' X.K cl W mc) (gName i) D σ H := by
  rintro D σ H ⟨B, F0, F, ρ, s, p⟩
  refine ⟨B, F0, F, ρ, s, ?_⟩
  unfold sSet mFz at p
  cases q : mc ρ with
  | bad => rw [q] at p; exact p
  | er e => rw [q] at p; exact fun c dd F' H' g h => p c dd σ F' H' g.f (s.grow g) (.refl _ _) h
  | ok c =>
    rw [q] at p
    intro a o F1 H1 g h1 h2 h3 h4
    have m1 : Same F1 (upd F1 a o) := fun b u e => by
      have : b ≠ a := fun z => by subst z; rw [h2] at e; cases e
      rw [upd_ne this]; exact e
    have g2 : Gr F H (upd F1 a o) H1 := ⟨g.f.trans m1, fun b u e => by
      by_cases z : b = a
      · subst z; rw [upd_same] at e; cases e; exact h3
      · rw [upd_ne z] at e; exact g.fh _ _ e, g.h, fun b hb => by
      have : b ≠ a := fun z => by subst z; exact hb h1
      rw [upd_ne this]; exact g.n b hb⟩
    exact p _ (upd F1 a o) H1 g2.f ((s.grow g2).set i ((h4.mono m1).rp upd_same)) (Lk.set fun c z => by cases z)
theorem ss_setC (i : Nat) (h : PS X st (tAsg (tC' X.K cl W mc) (gName i))) : SS X cl W st (sSet i (mFz mc)) := h.of fz_in
theorem ss_asg {g : TG} {is : List Nat} {bt : D → En → Option En} (G : GOk X.K cl g is bt) (h : PS X st (tAsg (tM X.K cl W m) g)) : SS X cl W st (sAsg bt m) := by
  refine h.of ?_
  rintro D σ H ⟨B, F0, F, ρ, s, p⟩
  refine ⟨B, F0, F, ρ, s, (stepS s p).imp ?_⟩
  rintro v H1 ⟨d, F1, e, g1, r, p⟩
  cases q : bt d ρ with
  | none => rw [q] at p; exact p.elim
  | some ρ1 =>
    rw [q] at p
    refine G.run B F0 F1 σ H1 ρ v d ρ1 _ (s.grow g1) r q fun σ' s' hl hk => p σ' F1 H1 (Same.refl _) s' fun j c e => ?_
    by_cases hj : j ∈ is
    · exact absurd e (G.nol d ρ ρ1 q j hj true c)
    · obtain ⟨k1, k2⟩ := hk j hj
      rw [k2] at e
      exact ⟨e, k1⟩
theorem ss_ret (h : SE X cl W e m) : SS X cl W (.Return (some e) pos) (sRet m) := by
  refine (ps_ret h).of ?_
  rintro D σ H ⟨B, F0, F, ρ, s, p⟩
  refine ⟨B, F0, F, ρ, s, (stepS s p).imp ?_⟩
  rintro v H1 ⟨d, F1, e, g, r, p⟩
  obtain ⟨a1, a2, a3, a4⟩ := s.same g
  exact p v F1 H1 (Same.refl _) a2 a3 a4 r
theorem ss_retN : SS X cl W (.Return none pos) sRetN := ps_retN.of fun D σ H ⟨B, F0, F, ρ, s, p⟩ => p .non F H (Same.refl _) s.fh s.bh s.bf .non
theorem ss_exp (h : SE X cl W e m) (hs : swapsWith e none pos.line X.env = pure false := by rfl) : SS X cl W (.Expr e pos) (sExp m) := by
  refine (ps_expr h hs).of ?_
  rintro D σ H ⟨B, F0, F, ρ, s, p⟩
  refine ⟨B, F0, F, ρ, s, (stepS s p).imp ?_⟩
  rintro v H1 ⟨d, F1, e, g, r, p⟩
  exact p σ F1 H1 (Same.refl _) (s.grow g) (.refl _ _)
theorem ss_if {c : Expr} {a b : List Stmt} (hc : SB X cl W c mt) (ha : SSs X cl W a s1) (hb : SSs X cl W b s2) : SS X cl W (.If c a b pos) (sIf mt s1 s2) := by
  refine (ps_if hc ha hb).of ?_
  rintro D σ H ⟨B, F0, F, ρ, s, p⟩
  refine ⟨B, F0, F, ρ, s, (stepST s p).imp ?_⟩
  rintro k H1 ⟨F1, g, p⟩
  cases k with
  | true => exact ⟨B, F0, F1, ρ, s.grow g, p⟩
  | false => exact ⟨B, F0, F1, ρ, s.grow g, p⟩
theorem ss_for {tg iter : Expr} {body : List Stmt} {g : TG} {is : List Nat} {bt : D → En → Option En} (hp : PassesOwn (model X.prog X.w) X.A X.env X.xe) (hc : X.calm = true) (hi : SI X cl W tg iter mi) (G : GOk X.K cl g is bt) (hg : PG X tg g) (hb : SSs X cl W body s1)
    (hs : ∀ x, foldedSetIterable iter X.env x = pure x := by intro _; rfl) : SS X cl W (.For tg iter body [] pos) (sFor bt mi s1) := by
  refine (ps_for hp hc hi hg hb hs).of ?_
  rintro D σ H ⟨B, F0, F, ρ, s, p⟩
  refine ⟨B, F0, F, ρ, s, ?_⟩
  unfold sFor at p
  cases q : mi ρ with
  | bad => rw [q] at p; exact p
  | er e => rw [q] at p; exact fun c dd F' H' g h => p c dd σ F' H' g.f (s.grow g) (.refl _ _) h
  | ok ds =>
    rw [q] at p
    intro J F1 H1 g1 io
    have p : PostS X.K cl W B F0 σ F ρ (forL bt s1 ds ρ) D := p
    refine ⟨fun i m σc Hc => m = ds.length - i ∧ i ≤ ds.length ∧ ∃ Fc ρc, Same F1 Fc ∧ SOk X.K cl B F0 Fc σc Hc ρc ∧ PostS X.K cl W B F0 σc Fc ρc (forL bt s1 (ds.drop i) ρc) D,
      ⟨ds.length, by simp, Nat.zero_le _, F1, ρ, Same.refl _, s.grow g1, by rw [List.drop_zero]; exact p.tr g1.f (.refl _ _)⟩, ?_⟩
    rintro i m σc Hc ⟨rfl, hi, Fc, ρc, m1, sc, pc⟩
    by_cases hlt : i < ds.length
    · refine .inr ⟨io.go i Hc (m1.trans sc.fh) hlt, fun σ' H' => ∃ Fc ρc, Same F1 Fc ∧ SOk X.K cl B F0 Fc σ' H' ρc ∧ PostS X.K cl W B F0 σ' Fc ρc (forL bt s1 (ds.drop (i + 1)) ρc) D, ?_, ?_⟩
      · intro σ' H' h'
        exact ⟨ds.length - (i + 1), by omega, rfl, hlt, h'⟩
      intro x H' y
      obtain ⟨F2, g2, rx⟩ := io.yld i Hc x H' ds[i] Fc m1 sc.fh y (by simp [hlt])
      rw [List.drop_eq_getElem_cons hlt] at pc
      simp only [forL] at pc
      cases qb : bt ds[i] ρc with
      | none => rw [qb] at pc; exact pc.elim
      | some ρ1 =>
        rw [qb] at pc
        simp only at pc
        refine G.run B F0 F2 σc H' ρc x ds[i] ρ1 _ (sc.grow g2) rx qb fun σ2 k2 hl hk => ?_
        have l2 : Lk ρc σc ρ1 σ2 := fun j c e => by
          by_cases hj : j ∈ is
          · exact absurd e (G.nol _ ρc ρ1 qb j hj true c)
          · obtain ⟨a1, a2⟩ := hk j hj
            rw [a2] at e
            exact ⟨e, a1⟩
        refine ⟨B, F0, F2, ρ1, k2, ?_⟩
        cases qs : s1 ρ1 with
        | none => rw [qs] at pc; exact pc.elim
        | some f =>
          rw [qs] at pc
          cases f with
          | nx ρ2 => exact fun σ3 F3 H3 m3 k3 l3 => ⟨F3, ρ2, (m1.trans g2.f).trans m3, k3, PostS.tr (r := forL bt s1 (ds.drop (i + 1)) ρ2) pc (g2.f.trans m3) (l2.trans l3)⟩
          | ct ρ2 => exact fun σ3 F3 H3 m3 k3 l3 => ⟨F3, ρ2, (m1.trans g2.f).trans m3, k3, PostS.tr (r := forL bt s1 (ds.drop (i + 1)) ρ2) pc (g2.f.trans m3) (l2.trans l3)⟩
          | bk ρ2 => exact fun σ3 F3 H3 m3 k3 l3 => PostS.tr (r := some (.nx ρ2)) pc (g2.f.trans m3) (l2.trans l3) σ3 F3 H3 (Same.refl _) k3 (.refl _ _)
          | rt d => exact fun v F3 H3 m3 => pc v F3 H3 (g2.f.trans m3)
          | ex e ρ2 => exact fun c dd σ3 F3 H3 m3 k3 l3 => pc c dd σ3 F3 H3 (g2.f.trans m3) k3 (l2.trans l3)
    · have e : i = ds.length := by omega
      refine .inl ⟨io.stop i Hc (m1.trans sc.fh) e, ?_⟩
      subst e
      rw [List.drop_length] at pc
      exact pc σc Fc Hc (Same.refl _) sc (.refl _ _)
theorem ss_while {c : Expr} {body : List Stmt} (hp : PassesOwn (model X.prog X.w) X.A X.env X.xe) (hc : SB X cl W c mt) (hb : SSs X cl W body s1) : SS X cl W (.While c body [] pos) (sWh mt s1) := by
  refine (ps_while hp hc hb).of ?_
  rintro D σ H ⟨B, F0, F, ρ, s, p⟩
  cases q : sWh mt s1 ρ with
  | none => rw [q] at p; exact p.elim
  | some r =>
    rw [q] at p
    obtain ⟨n0, hn0⟩ := sWh_some q
    refine ⟨fun n σc Hc => ∃ Fc ρc r, SOk X.K cl B F0 Fc σc Hc ρc ∧ whN mt s1 n ρc = some r ∧ PostS X.K cl W B F0 σc Fc ρc (some r) D, ⟨n0, F, ρ, r, s, hn0, p⟩, ?_⟩
    rintro n σc Hc ⟨Fc, ρc, rc, sc, hn, pc⟩
    cases n with
    | zero => cases hn
    | succ n =>
      simp only [whN] at hn
      rw [← hn] at pc
      refine ⟨B, F0, Fc, ρc, sc, (stepST sc pc).imp ?_⟩
      rintro k H1 ⟨F1, g1, p1⟩
      cases k with
      | false => exact p1 σc F1 H1 (Same.refl _) (sc.grow g1) (.refl _ _)
      | true =>
        refine ⟨fun σ' H' => ∃ Fc ρc r, SOk X.K cl B F0 Fc σ' H' ρc ∧ whN mt s1 n ρc = some r ∧ PostS X.K cl W B F0 σ' Fc ρc (some r) D, fun σ' H' h' => ⟨n, Nat.lt_succ_self n, h'⟩, ?_⟩
        refine ⟨B, F0, F1, ρc, sc.grow g1, ?_⟩
        simp only [if_true] at p1
        cases qs : s1 ρc with
        | none => rw [qs] at p1; exact p1.elim
        | some f =>
          rw [qs] at p1
          cases f with
          | nx ρ2 =>
            intro σ3 F3 H3 m3 k3 l3
            have p1 : PostS X.K cl W B F0 σc F1 ρc (whN mt s1 n ρ2) D := p1
            cases q2 : whN mt s1 n ρ2 with
            | none => rw [q2] at p1; exact p1.elim
            | some r2 => rw [q2] at p1; exact ⟨F3, ρ2, r2, k3, q2, p1.tr m3 l3⟩
          | ct ρ2 =>
            intro σ3 F3 H3 m3 k3 l3
            have p1 : PostS X.K cl W B F0 σc F1 ρc (whN mt s1 n ρ2) D := p1
            cases q2 : whN mt s1 n ρ2 with
            | none => rw [q2] at p1; exact p1.elim
            | some r2 => rw [q2] at p1; exact ⟨F3, ρ2, r2, k3, q2, p1.tr m3 l3⟩
          | bk ρ2 => exact fun σ3 F3 H3 m3 k3 l3 => p1 σ3 F3 H3 m3 k3 l3
          | rt d => exact p1
          | ex e ρ2 => exact p1
end
/-! ## defs -/
def startE (n : Nat) (ds : List D) : En := ds.map .im ++ List.replicate (n - ds.length) .un
def runF (n : Nat) (ms : En → Option Fl) : List D → Res D := fun ds => match ms (startE n ds) with
  | some (.rt d) => .ok d
  | some (.nx _) => .ok .non
  | some (.ex e _) => .er e
  | _ => .bad
section
variable {P : Program} {w : World} {K : PySem.W.Frag} {mg : Str → Option Value} {base : Heap} {cl : Cl}
theorem start_ok {N : List Str} {vs : List V} {ds : List D} {F H : Hp} (m : Same F H) (r : RpA K cl F vs ds) (hl : vs.length ≤ N.length) : SOk K cl H F F (L2.start N vs) H (startE N.length ds) where
  f0 := Same.refl _
  fh := m
  bh := Same.refl _
  bf := fun _ _ => rfl
  len := by unfold L2.start startE; simp [r.length]
  im := fun i d e => by
    unfold startE at e
    by_cases hi : i < ds.length
    · rw [List.getElem?_append_left (by simpa using hi), List.getElem?_map] at e
      cases q : ds[i]? with
      | none => rw [q] at e; cases e
      | some d' =>
        rw [q] at e; cases e
        obtain ⟨v, h1, h2⟩ := r.get' q
        refine ⟨v, ?_, h2⟩
        unfold L2.start
        rw [List.getElem?_append_left (by simpa [r.length] using hi), List.getElem?_map, h1]; rfl
    · rw [List.getElem?_append_right (by simpa using hi), List.getElem?_replicate] at e
      split at e <;> cases e
  ow := fun i b c e => by
    unfold startE at e
    by_cases hi : i < ds.length
    · rw [List.getElem?_append_left (by simpa using hi), List.getElem?_map] at e
      cases q : ds[i]? with
      | none => rw [q] at e; cases e
      | some d' => rw [q] at e; cases e
    · rw [List.getElem?_append_right (by simpa using hi), List.getElem?_replicate] at e
      split at e <;> cases e
  ap := fun i j b c b' c' a _ e _ _ => by
    unfold startE at e
    by_cases hi : i < ds.length
    · rw [List.getElem?_append_left (by simpa using hi), List.getElem?_map] at e
      cases q : ds[i]? with
      | none => rw [q] at e; cases e
      | some d' => rw [q] at e; cases e
    · rw [List.getElem?_append_right (by simpa using hi), List.getElem?_replicate] at e
      split at e <;> cases e
theorem fn_ok {x qual : Str} {st : Stmt} {f : Addr} {fd : FuncData} {N ps : List Str} {k n nN : Nat} {ms : En → Option Fl} (F : Fun K x qual st f fd) (S : FnScope N ps (defScope st)) (hn : ps.length = n) (hN : N.length = nN)
    (body : ∀ (cdv : Value) (A : Around) (outer : List Env) (s : Shared) (H : Hp) (E : XK), Room k (A.deeper (PyProof.Rows.envOfC qual (defScope st) s.heap.objs.size f cdv)) →
      PassesOwn (model P w) (A.deeper (PyProof.Rows.envOfC qual (defScope st) s.heap.objs.size f cdv)) (PyProof.Rows.envOfC qual (defScope st) s.heap.objs.size f cdv) (cxOf (L2.CX P w) P w K mg base N qual (defScope st) f cdv A outer s H E).xe →
      Takes (cxOf (L2.CX P w) P w K mg base N qual (defScope st) f cdv A outer s H E) (fun cls d _ H => E cls d H) →
      PSs (cxOf (L2.CX P w) P w K mg base N qual (defScope st) f cdv A outer s H E) (defBody st) (tS K cl (fun cls d _ H => E cls d H) ms)) :
    FnOk P w K mg base (L2.CX P w) (k + 1) f fd ps (spOf K cl n (runF nN ms)) := by
  subst hn hN
  refine F.okX S (fun vs H Q E h => ?_) (fun cdv A outer s H vs Q E hr h => ?_)
  · obtain ⟨_, _, _, _, h, _⟩ := h
    exact h
  · obtain ⟨F1, ds, m, r, hl, h⟩ := h
    refine ⟨_, body cdv A outer s H E hr (passes_of rfl) (takes_of rfl rfl rfl rfl), H, F1, F1, _, start_ok m r (by
      have := congrArg List.length S.pre
      rw [List.length_take] at this
      omega), ?_⟩
    unfold runF at h
    cases q : ms (startE N.length ds) with
    | none => rw [q] at h; exact h.elim
    | some f =>
      rw [q] at h
      cases f with
      | rt d => exact fun v F' H' m1 m2 m3 m4 r' => h v F' H' ⟨m1, m2, m3, m4⟩ r'
      | nx ρ' => exact fun σ' F' H' m1 k1 _ => h .non F' H' ⟨m1, k1.fh, k1.bh, k1.bf⟩ .non
      | ex e ρ' => exact fun c dd σ' F' H' m1 k1 _ x => h c dd F' H' ⟨m1, k1.fh, k1.bh, k1.bf⟩ x
      | bk ρ' => exact h.elim
      | ct ρ' => exact h.elim
end
end FL
namespace FL
open PySem L2
/-! ## slots that own their list or dict -/
def frz1 (i : Nat) (ρ : En) : En := match ρ[i]? with
  | some (.ow _ c) => ρ.set i (.im c.d)
  | _ => ρ
def scalD : D → Bool
  | .non => true
  | .bl _ => true
  | .int _ => true
  | .str _ => true
  | _ => false
def mBor (i : Nat) (m : En → Res D) : En → Res D := fun ρ => match m (frz1 i ρ) with
  | .ok d => if scalD d then .ok d else .bad
  | _ => .bad
def mtBor (i : Nat) (m : En → Res Bool) : En → Res Bool := fun ρ => match m (frz1 i ρ) with
  | .ok b => .ok b
  | _ => .bad
def sFrz (i : Nat) (ms : En → Option Fl) : En → Option Fl := fun ρ => ms (frz1 i ρ)
def mIxO (i : Nat) (m : En → Res D) : En → Res D := fun ρ => match ρ[i]? with
  | some (.ow _ (.l ds)) => (m ρ).bind fun k => .ofO (fIx (.lst ds) k)
  | _ => .bad
def sApp (i : Nat) (ms : En → Res (List D)) : En → Option Fl := fun ρ => match ρ[i]? with
  | some (.ow false (.l ds)) => runE ρ (ms ρ) fun vs => match vs with
    | [d] => if ds.length < 16777215 then some (.nx (ρ.set i (.ow false (.l (ds ++ [d]))))) else none
    | _ => none
  | _ => none
def sIns (i : Nat) (ms : En → Res (List D)) : En → Option Fl := fun ρ => match ρ[i]? with
  | some (.ow false (.l ds)) => runE ρ (ms ρ) fun vs => match vs with
    | [.int k, d] => if ds.length < 16777215 ∧ 0 ≤ k ∧ k < 9223372036854775808 then some (.nx (ρ.set i (.ow false (.l (ds.take k.toNat ++ [d] ++ ds.drop k.toNat))))) else none
    | _ => none
  | _ => none
def sIdx (i : Nat) (mk mv : En → Res D) : En → Option Fl := fun ρ => match ρ[i]? with
  | some (.ow false (.l ds)) => runE ρ (mv ρ) fun d => runE ρ (mk ρ) fun k => match k with
    | .int k => match ixN ds.length k with
      | some j => some (.nx (ρ.set i (.ow false (.l (ds.set j d)))))
      | none => none
    | _ => none
  | _ => none
section
variable {κ : Type} [DecidableEq κ]
def putKs (ks : List κ) (k : κ) : List κ := if hasK ks k then ks else ks ++ [k]
def putVs (ks : List κ) (vs : List D) (k : κ) (v : D) : List D := if hasK ks k then List.zipWith (fun j d => if j = k then v else d) ks vs else vs ++ [v]
end
def sPut (i : Nat) (mk mv : En → Res D) : En → Option Fl := fun ρ => match ρ[i]? with
  | some (.ow false (.t ks vs)) => runE ρ (mv ρ) fun d => runE ρ (mk ρ) fun k => match k with
    | .tup es => match keysOf es with
      | some k => if ks.length < 16777215 then some (.nx (ρ.set i (.ow false (.t (putKs ks k) (putVs ks vs k d))))) else none
      | none => none
    | _ => none
  | some (.ow false (.k ks vs)) => runE ρ (mv ρ) fun d => runE ρ (mk ρ) fun k => match keyOf k with
    | some k => if ks.length < 16777215 then some (.nx (ρ.set i (.ow false (.k (putKs ks k) (putVs ks vs k d))))) else none
    | none => none
  | _ => none
def mEmpT : En → Res Cn := fun _ => .ok (.t [] [])
def mEmpK : En → Res Cn := fun _ => .ok (.k [] [])
section
variable {X : Cx} {cl : Cl} {W : WX} {st : Stmt} {sts : List Stmt} {e k : Expr} {pos pos' : Pos} {m mk mv : En → Res D} {ms : En → Res (List D)} {s1 s2 : En → Option Fl} {mt : En → Res Bool} {i : Nat}
theorem SOk.frz {K : PySem.W.Frag} {B F0 F H : Hp} {σ : L2.St} {ρ : En} (s : SOk K cl B F0 F σ H ρ) (i : Nat) : ∃ F1, Same F F1 ∧ SOk K cl B F0 F1 σ H (frz1 i ρ) := by
  unfold frz1
  split
  · rename_i b c hi
    obtain ⟨a, o, h1, h2, h3, h4, h5⟩ := s.ow i b c hi
    have hl : i < ρ.length := (List.getElem?_eq_some_iff.mp hi).1
    have m1 : Same F (upd F a o) := fun x u e => by
      have : x ≠ a := fun z => by subst z; rw [h2] at e; cases e
      rw [upd_ne this]; exact e
    refine ⟨upd F a o, m1, s.f0.trans m1, fun x u e => ?_, s.bh, fun x hx => ?_, by simpa using s.len, fun j d e => ?_, fun j b1 c1 e => ?_, fun j k b1 c1 b2 c2 x hjk e1 e2 e3 => ?_⟩
    · by_cases z : x = a
      · subst z; rw [upd_same] at e; cases e; exact h4
      · rw [upd_ne z] at e; exact s.fh _ _ e
    · have : x ≠ a := fun z => by subst z; exact hx h3
      rw [upd_ne this]; exact s.bf x hx
    · by_cases z : j = i
      · subst z; rw [List.getElem?_set_self hl] at e; cases e
        exact ⟨_, h1, (h5.mono m1).rp upd_same⟩
      · rw [List.getElem?_set_ne (Ne.symm z)] at e
        obtain ⟨v, q1, q2⟩ := s.im j d e
        exact ⟨v, q1, q2.mono m1⟩
    · by_cases z : j = i
      · subst z; rw [List.getElem?_set_self hl] at e; cases e
      · rw [List.getElem?_set_ne (Ne.symm z)] at e
        obtain ⟨x, u, q1, q2, q3, q4, q5⟩ := s.ow j b1 c1 e
        have : x ≠ a := fun w => by subst w; exact s.ap i j b c b1 c1 x (Ne.symm z) hi e h1 q1
        exact ⟨x, u, q1, by rw [upd_ne this]; exact q2, q3, q4, q5.mono m1⟩
    · have key : ∀ {j : Nat} {b' : Bool} {c1 : Cn}, (ρ.set i (.im c.d))[j]? = some (.ow b' c1) → ρ[j]? = some (.ow b' c1) := fun {j b' c1} e => by
        by_cases h : j = i
        · subst h; rw [List.getElem?_set_self hl] at e; cases e
        · rw [List.getElem?_set_ne (Ne.symm h)] at e; exact e
      exact s.ap j k _ _ _ _ x hjk (key e1) (key e2) e3
  · exact ⟨F, Same.refl _, s⟩
theorem scal_rp {K : PySem.W.Frag} {F F' : Hp} {v : V} {d : D} (h : scalD d = true) (r : Rp K cl F v d) : Rp K cl F' v d := by
  cases r <;> simp [scalD] at h <;> constructor
theorem so_bor (i : Nat) (h : SE X cl W e m) : SE X cl W e (mBor i m) := by
  refine PE.of h ?_
  rintro σ H Q ⟨B, F0, F, ρ, s, p⟩
  obtain ⟨F1, m1, s1⟩ := s.frz i
  refine ⟨B, F0, F1, _, s1, ?_⟩
  unfold mBor at p
  cases q : m (frz1 i ρ) with
  | bad => rw [q] at p; exact p.elim
  | er e => rw [q] at p; exact p.elim
  | ok d =>
    rw [q] at p
    intro v F' H' g r
    simp only at p
    split at p
    · rename_i hs
      exact p v F H' ⟨Same.refl _, (m1.trans g.f).trans g.fh, g.h, fun _ _ => rfl⟩ (scal_rp hs r)
    · exact p.elim
theorem sb_bor (i : Nat) (h : SB X cl W e mt) : SB X cl W e (mtBor i mt) := by
  refine PT.of h ?_
  rintro σ H Q ⟨B, F0, F, ρ, s, p⟩
  obtain ⟨F1, m1, s1⟩ := s.frz i
  refine ⟨B, F0, F1, _, s1, ?_⟩
  unfold mtBor at p
  cases q : mt (frz1 i ρ) with
  | bad => rw [q] at p; exact p.elim
  | er e => rw [q] at p; exact p.elim
  | ok d =>
    rw [q] at p
    exact fun F' H' g => p F H' ⟨Same.refl _, (m1.trans g.f).trans g.fh, g.h, fun _ _ => rfl⟩
theorem ss_frz (i : Nat) (h : SS X cl W st s1) : SS X cl W st (sFrz i s1) := by
  refine PS.of h ?_
  rintro D σ H ⟨B, F0, F, ρ, s, p⟩
  obtain ⟨F1, m1, k1⟩ := s.frz i
  refine ⟨B, F0, F1, _, k1, PostS.tr (r := s1 (frz1 i ρ)) p m1 fun j c e => ?_⟩
  unfold frz1 at e
  split at e
  · rename_i b c' hi
    have hl : i < ρ.length := (List.getElem?_eq_some_iff.mp hi).1
    by_cases z : j = i
    · subst z; rw [List.getElem?_set_self hl] at e; cases e
    · rw [List.getElem?_set_ne (Ne.symm z)] at e; exact ⟨e, rfl⟩
  · exact ⟨e, rfl⟩
theorem sss_frz (i : Nat) (h : SSs X cl W sts s1) : SSs X cl W sts (sFrz i s1) := by
  refine PSs.of h ?_
  rintro D σ H ⟨B, F0, F, ρ, s, p⟩
  obtain ⟨F1, m1, k1⟩ := s.frz i
  refine ⟨B, F0, F1, _, k1, PostS.tr (r := s1 (frz1 i ρ)) p m1 fun j c e => ?_⟩
  unfold frz1 at e
  split at e
  · rename_i b c' hi
    have hl : i < ρ.length := (List.getElem?_eq_some_iff.mp hi).1
    by_cases z : j = i
    · subst z; rw [List.getElem?_set_self hl] at e; cases e
    · rw [List.getElem?_set_ne (Ne.symm z)] at e; exact ⟨e, rfl⟩
  · exact ⟨e, rfl⟩
/-- x[k] of an owned list -/
theorem so_ixO {a : Expr} (i : Nat) (ha : PE X a (tVar i)) (hb : SE X cl W k mk) (hs : PlainIx k) : SE X cl W (.Subscript a k pos) (mIxO i mk) := by
  refine (pe_ix ix_U ha hb hs).of ?_
  rintro σ H Q ⟨B, F0, F, ρ, s, p⟩
  unfold mIxO at p
  split at p
  · rename_i b ds hi
    obtain ⟨a, o, h1, h2, h3, h4, vs, rfl, h5⟩ := s.ow i b _ hi
    refine ⟨_, h1, B, F0, F, ρ, s, (step1 s p).imp ?_⟩
    rintro v H1 ⟨d, F1, e, g, r, p⟩
    cases r with
    | int j =>
      have p : PostO X.K cl F1 H1 (atI ds j) Q := PostO.of (r := fIx (.lst ds) (.int j)) p
      cases q : atI ds j with
      | none => rw [q] at p; exact p.elim
      | some d =>
        rw [q] at p
        obtain ⟨v, q1, q2⟩ := atI_rp (h5.mono g.f) q
        exact .inl ⟨_, _, _, _, rfl, rfl, .of (g.h _ _ h4), q1, p.int g.fh q2⟩
    | _ => exact p.elim
  · exact p.elim
/-- from a statement's wish to an argument list's -/
theorem stepSA {K : PySem.W.Frag} {B F0 F H : Hp} {σ : L2.St} {ρ : En} {r : Res (List D)} {f : List D → Option Fl} {D' : Ends} (s : SOk K cl B F0 F σ H ρ) (p : PostS K cl W B F0 σ F ρ (runE ρ r f) D') :
    PostA K cl W σ F H r fun v H' => ∃ d F', r = .ok d ∧ Gr F H F' H' ∧ RpA K cl F' v d ∧ PostS K cl W B F0 σ F' ρ (f d) D' := by
  cases r with
  | bad => exact p
  | er e => exact fun c dd F' H' g h => p c dd σ F' H' g.f (s.grow g) (.refl _ _) h
  | ok d => exact fun v F' H' g h => ⟨d, F', rfl, g, h, PostS.tr (r := f d) p g.f (.refl _ _)⟩
theorem Lk.put {ρ : En} {σ : L2.St} {i : Nat} {x : Sl} (h : ∀ c, x ≠ .ow true c) : Lk ρ σ (ρ.set i x) σ := fun j c e => by
  by_cases z : j = i
  · subst z
    by_cases hl : j < ρ.length
    · rw [List.getElem?_set_self hl] at e; cases e; exact absurd rfl (h c)
    · rw [List.getElem?_eq_none (by simpa using hl)] at e; cases e
  · rw [List.getElem?_set_ne (Ne.symm z)] at e
    exact ⟨e, rfl⟩
theorem ss_app (i : Nat) (h : PS X st (tDrop (tBM X.K "list" rAppend (tVar i) (tA X.K cl W ms)))) : SS X cl W st (sApp i ms) := by
  refine h.of ?_
  rintro D σ H ⟨B, F0, F, ρ, s, p⟩
  unfold sApp at p
  split at p
  · rename_i ds hi
    obtain ⟨a, o, h1, h2, h3, h4, vs, rfl, h5⟩ := s.ow i _ _ hi
    refine ⟨_, h1, .inl ⟨rfl, _, .of h4⟩, B, F0, F, ρ, s, (stepSA s p).imp ?_⟩
    rintro us H1 ⟨es, F1, e, g, r, p⟩
    split at p
    · rename_i d
      obtain ⟨v, rfl, r2⟩ := r.one
      split at p
      · rename_i hl
        refine ⟨a, vs, v, rfl, rfl, g.h _ _ h4, by rw [h5.length, sizeLine_eq]; omega, ?_⟩
        exact p σ F1 _ (Same.refl _) ((s.grow g).put hi h1 ⟨_, rfl, (h5.mono g.f).app (.cons r2 .nil)⟩) (Lk.put fun c z => by cases z)
      · exact p.elim
    · exact p.elim
  · exact p.elim
theorem p63 : (2 : Int) ^ 63 = 9223372036854775808 := by decide
theorem ss_ins (i : Nat) (h : PS X st (tDrop (tBM X.K "list" (fun x vs H Q => ∃ (l : Addr) (xs : List V) (i : Int) (y : V), x = .ref l ∧ vs = [.int i, y] ∧ H l = some (.lst xs) ∧ xs.length < sizeLine ∧ 0 ≤ i ∧ i < 2 ^ 63 ∧
    Q .non (upd H l (.lst (xs.take i.toNat ++ [y] ++ xs.drop i.toNat)))) (tVar i) (tA X.K cl W ms)))) : SS X cl W st (sIns i ms) := by
  refine h.of ?_
  rintro D σ H ⟨B, F0, F, ρ, s, p⟩
  unfold sIns at p
  split at p
  · rename_i ds hi
    obtain ⟨a, o, h1, h2, h3, h4, vs, rfl, h5⟩ := s.ow i _ _ hi
    refine ⟨_, h1, .inl ⟨rfl, _, .of h4⟩, B, F0, F, ρ, s, (stepSA s p).imp ?_⟩
    rintro us H1 ⟨es, F1, e, g, r, p⟩
    split at p
    · rename_i k d
      obtain ⟨v, u, rfl, r1, r2⟩ := r.two
      cases r1
      split at p
      · rename_i hl
        refine ⟨a, vs, k, u, rfl, rfl, g.h _ _ h4, by rw [h5.length, sizeLine_eq]; omega, hl.2.1, by rw [p63]; exact hl.2.2, ?_⟩
        have h6 := h5.mono g.f
        exact p σ F1 _ (Same.refl _) ((s.grow g).put hi h1 ⟨_, rfl, ((h6.take _).app (.cons r2 .nil)).app (h6.drop _)⟩) (Lk.put fun c z => by cases z)
      · exact p.elim
    · exact p.elim
  · exact p.elim
theorem ss_idx (i : Nat) (h : PS X st (tAsg (tM X.K cl W mv) (gSub (tVar i) (tM X.K cl W mk) rSetL))) : SS X cl W st (sIdx i mk mv) := by
  refine h.of ?_
  rintro D σ H ⟨B, F0, F, ρ, s, p⟩
  unfold sIdx at p
  split at p
  · rename_i ds hi
    obtain ⟨a, o, h1, h2, h3, h4, vs, rfl, h5⟩ := s.ow i _ _ hi
    refine ⟨B, F0, F, ρ, s, (stepS s p).imp ?_⟩
    rintro v H1 ⟨d, F1, e, g, r, p⟩
    refine ⟨_, h1, B, F0, F1, ρ, s.grow g, (stepS (s.grow g) p).imp ?_⟩
    rintro u H2 ⟨dk, F2, e2, g2, r2, p⟩
    have sg := (s.grow g).grow g2
    cases r2 with
    | int kk =>
      simp only at p
      split at p
      · rename_i j hj
        have h6 := (h5.mono g.f).mono g2.f
        refine ⟨a, vs, kk, j, rfl, rfl, g2.h _ _ (g.h _ _ h4), by rw [h5.length]; exact hj, ?_⟩
        exact p σ F2 _ (Same.refl _) (sg.put hi h1 ⟨_, rfl, h6.set j (r.mono g2.f)⟩) (Lk.put fun c z => by cases z)
      · exact p.elim
    | _ => exact p.elim
  · exact p.elim
section
variable {κ : Type} [DecidableEq κ] {K : PySem.W.Frag} {F : Hp}
theorem any_has (k : κ) (kvs : List (κ × V)) : (kvs.any fun kv => decide (kv.1 = k)) = hasK (kvs.map (·.1)) k := by
  unfold hasK
  rw [List.any_map]
  rfl
theorem putK_rp {kvs : List (κ × V)} {vs : List D} {k : κ} {v : V} {d : D} (h : RpA K cl F (kvs.map (·.2)) vs) (r : Rp K cl F v d) :
    (putK kvs k v).map (·.1) = putKs (kvs.map (·.1)) k ∧ RpA K cl F ((putK kvs k v).map (·.2)) (putVs (kvs.map (·.1)) vs k d) := by
  unfold putK putKs putVs
  rw [any_has]
  split
  · constructor
    · rw [List.map_map]
      apply List.map_congr_left
      intro p _
      simp only [Function.comp]
      split <;> rfl
    · rename_i hh
      clear hh
      induction kvs generalizing vs with
      | nil => cases h; exact .nil
      | cons p t ih =>
        cases h with
        | cons a b =>
          simp only [List.map_cons, List.zipWith_cons_cons]
          by_cases e : p.1 = k
          · simp only [if_pos e]
            exact .cons r (ih b)
          · simp only [if_neg e]
            exact .cons a (ih b)
  · constructor
    · simp
    · rw [List.map_append]
      exact h.app (.cons r .nil)
end
theorem ss_put (i : Nat) (h : PS X st (sDPut (tVar i) (tM X.K cl W mk) (tM X.K cl W mv))) : SS X cl W st (sPut i mk mv) := by
  refine h.of ?_
  rintro D σ H ⟨B, F0, F, ρ, s, p⟩
  unfold sPut at p
  split at p
  · rename_i ks vs hi
    obtain ⟨a, o, h1, h2, h3, h4, kvs, rfl, rfl, h5⟩ := s.ow i _ _ hi
    refine ⟨B, F0, F, ρ, s, (stepS s p).imp ?_⟩
    rintro v H1 ⟨d, F1, e, g, r, p⟩
    refine ⟨_, h1, B, F0, F1, ρ, s.grow g, (stepS (s.grow g) p).imp ?_⟩
    rintro u H2 ⟨dk, F2, e2, g2, r2, p⟩
    have sg := (s.grow g).grow g2
    cases r2 with
    | tup ha hr =>
      simp only at p
      split at p
      · rename_i k hk
        have := keysOf_rp hr hk; subst this
        split at p
        · rename_i hl
          have h6 := (h5.mono g.f).mono g2.f
          obtain ⟨q1, q2⟩ := putK_rp (k := k) h6 (r.mono g2.f)
          refine ⟨a, _, rfl, .t (g2.h _ _ (g.h _ _ h4)) (g2.fh _ _ ha) (by rw [sizeLine_eq]; rw [List.length_map] at hl; omega), ?_⟩
          exact p σ F2 _ (Same.refl _) (sg.put hi h1 ⟨_, rfl, q1, q2⟩) (Lk.put fun c z => by cases z)
        · exact p.elim
      · exact p.elim
    | _ => exact p.elim
  · rename_i ks vs hi
    obtain ⟨a, o, h1, h2, h3, h4, kvs, rfl, rfl, h5⟩ := s.ow i _ _ hi
    refine ⟨B, F0, F, ρ, s, (stepS s p).imp ?_⟩
    rintro v H1 ⟨d, F1, e, g, r, p⟩
    refine ⟨_, h1, B, F0, F1, ρ, s.grow g, (stepS (s.grow g) p).imp ?_⟩
    rintro u H2 ⟨dk, F2, e2, g2, r2, p⟩
    have sg := (s.grow g).grow g2
    split at p
    · rename_i k hk
      have := keyOf_rp r2 hk; subst this
      split at p
      · rename_i hl
        have h6 := (h5.mono g.f).mono g2.f
        obtain ⟨q1, q2⟩ := putK_rp (k := k) h6 (r.mono g2.f)
        refine ⟨a, _, rfl, .k (g2.h _ _ (g.h _ _ h4)) (by rw [sizeLine_eq]; rw [List.length_map] at hl; omega), ?_⟩
        exact p σ F2 _ (Same.refl _) (sg.put hi h1 ⟨_, rfl, q1, q2⟩) (Lk.put fun c z => by cases z)
      · exact p.elim
    · exact p.elim
  · exact p.elim
theorem sc_empT : SC X cl W (.Dict [] [] pos) mEmpT := pe_dnewT.of fun σ H Q ⟨B, F0, F, ρ, s, p⟩ q hq => PostC.put (c := .t [] []) p s.fh hq ⟨[], rfl, rfl, .nil⟩
theorem sc_empK : SC X cl W (.Dict [] [] pos) mEmpK := pe_dnewK.of fun σ H Q ⟨B, F0, F, ρ, s, p⟩ q hq => PostC.put (c := .k [] []) p s.fh hq ⟨[], rfl, rfl, .nil⟩
end
end FL
namespace FL
open PySem L2
abbrev mI (n : Int) : En → Res D := mC (.int n)
abbrev mBl (b : Bool) : En → Res D := mC (.bl b)
abbrev mNone : En → Res D := mC .non
abbrev mStr (x : Str) : En → Res D := mC (.str x)
theorem bt_len : bootBuiltins "len" = some (.builtin "len") := by decide +kernel
theorem bt_abs : bootBuiltins "abs" = some (.builtin "abs") := by decide +kernel
theorem bt_sum : bootBuiltins "sum" = some (.builtin "sum") := by decide +kernel
theorem bt_min : bootBuiltins "min" = some (.builtin "min") := by decide +kernel
theorem bt_max : bootBuiltins "max" = some (.builtin "max") := by decide +kernel
theorem bt_any : bootBuiltins "any" = some (.builtin "any") := by decide +kernel
theorem bt_all : bootBuiltins "all" = some (.builtin "all") := by decide +kernel
theorem bt_sorted : bootBuiltins "sorted" = some (.builtin "sorted") := by decide +kernel
theorem bt_int : bootBuiltins "int" = some (.type "int") := by decide +kernel
theorem bt_bool : bootBuiltins "bool" = some (.type "bool") := by decide +kernel
theorem bt_str : bootBuiltins "str" = some (.type "str") := by decide +kernel
theorem bt_tuple : bootBuiltins "tuple" = some (.type "tuple") := by decide +kernel
theorem bt_list : bootBuiltins "list" = some (.type "list") := by decide +kernel
section
variable {X : Cx} {cl : Cl} {W : WX} {elt tg iter : Expr} {ifs : List Expr} {scope : Scope} {own : List (Str × Nat)} {pos spos : Pos} {is : List Nat} {g : TG} {bt : D → En → Option En} {mi : En → Res (List D)} {mt : En → Res Bool} {me : En → Res D}
/-- y = [..] on one line, y a plain local: y owns the list, or it is frozen -/
theorem ss_lcO {i : Nat} {y : Str} {py : Pos} (hc : X.calm = true) (hN : X.N.Nodup) (hy : X.N[i]? = some y) (hyl : X.env.scope.names.lookup y = some .local)
    (hsw : swapsWith (.ListComp elt [⟨tg, iter, ifs, 0⟩] scope pos) (some (.Name y py)) spos.line X.env = pure true) (G : GOk X.K cl g is bt) (hsub : (is.all fun i => (own.map (·.2)).contains i) = true) (hi : SI X cl W tg iter mi) (ok : BlkOk X.N X.env.scope scope own)
    (hg : ∀ (s : Shared) (H : Hp) (C : Addr) (ce : List (Str × Addr)) (fp : List Addr), PG (X.blk s H scope (compEnvC scope ce C X.env) fp) tg g)
    (ht : ∀ (s : Shared) (H : Hp) (C : Addr) (ce : List (Str × Addr)) (fp : List Addr), PTs (X.blk s H scope (compEnvC scope ce C X.env) fp) ifs (tTs X.K cl mt))
    (he : ∀ (s : Shared) (H : Hp) (C : Addr) (ce : List (Str × Addr)) (fp : List Addr), PE (X.blk s H scope (compEnvC scope ce C X.env) fp) elt (tM X.K cl W0 me)) (hs : ∀ x, foldedSetIterable iter X.env x = pure x := by intro _; rfl) :
    SS X cl W (.Assign [.Name y py] (.ListComp elt [⟨tg, iter, ifs, 0⟩] scope pos) spos) (sOwn i (mLc bt (own.map (·.2)) mi mt me)) :=
  (ps_setLc (i := i) hc hN hy hyl hsw hi ok hg ht he hs).of fun D σ H h => lc_in G (fun i hi => by simpa using (List.all_eq_true.mp hsub i hi)) σ H _ (own_in D σ H h)
theorem ss_lcF {i : Nat} {y : Str} {py : Pos} (hc : X.calm = true) (hN : X.N.Nodup) (hy : X.N[i]? = some y) (hyl : X.env.scope.names.lookup y = some .local)
    (hsw : swapsWith (.ListComp elt [⟨tg, iter, ifs, 0⟩] scope pos) (some (.Name y py)) spos.line X.env = pure true) (G : GOk X.K cl g is bt) (hsub : (is.all fun i => (own.map (·.2)).contains i) = true) (hi : SI X cl W tg iter mi) (ok : BlkOk X.N X.env.scope scope own)
    (hg : ∀ (s : Shared) (H : Hp) (C : Addr) (ce : List (Str × Addr)) (fp : List Addr), PG (X.blk s H scope (compEnvC scope ce C X.env) fp) tg g)
    (ht : ∀ (s : Shared) (H : Hp) (C : Addr) (ce : List (Str × Addr)) (fp : List Addr), PTs (X.blk s H scope (compEnvC scope ce C X.env) fp) ifs (tTs X.K cl mt))
    (he : ∀ (s : Shared) (H : Hp) (C : Addr) (ce : List (Str × Addr)) (fp : List Addr), PE (X.blk s H scope (compEnvC scope ce C X.env) fp) elt (tM X.K cl W0 me)) (hs : ∀ x, foldedSetIterable iter X.env x = pure x := by intro _; rfl) :
    SS X cl W (.Assign [.Name y py] (.ListComp elt [⟨tg, iter, ifs, 0⟩] scope pos) spos) (sSet i (mFz (mLc bt (own.map (·.2)) mi mt me))) :=
  (ps_setLc (i := i) hc hN hy hyl hsw hi ok hg ht he hs).of fun D σ H h => lc_in G (fun i hi => by simpa using (List.all_eq_true.mp hsub i hi)) σ H _ (fz_in D σ H h)
end
end FL
namespace FL
open PySem L2
theorem bt_ValueError : bootBuiltins "ValueError" = some (.type "ValueError") := by decide +kernel
/-! ## exceptions -/
mutual
def noX : D → Bool
  | .exc _ _ _ => false
  | .lst ds => noXA ds
  | .tup ds => noXA ds
  | .dik _ ds => noXA ds
  | .dit _ ds => noXA ds
  | .ins _ _ ds => noXA ds
  | _ => true
def noXA : List D → Bool
  | [] => true
  | d :: ds => noX d && noXA ds
end
def noXC (c : Cn) : Bool := noX c.d
def noXS : Sl → Bool
  | .un => true
  | .im d => noX d
  | .ow _ c => noXC c
def noXE (ρ : En) : Bool := ρ.all noXS
abbrev Cl.ex (cl : Cl) (a : Addr) (cls : Value) (d : Option Addr) : Cl := ⟨cl.ad, some (a, cls, d)⟩
section
variable {K : PySem.W.Frag} {cl cl' : Cl} {F : Hp}
mutual
theorem Rp.cv (ha : cl'.ad = cl.ad) : ∀ {d : D} {v : V}, cl.xa = none ∨ noX d = true → Rp K cl F v d → Rp K cl' F v d
  | .non, _, _, h => by cases h; exact .non
  | .bl _, _, _, h => by cases h; exact .bl _
  | .int _, _, _, h => by cases h; exact .int _
  | .str _, _, _, h => by cases h; exact .str _
  | .lst ds, _, n, h => by cases h with | lst a b => exact .lst a (RpA.cv ha n b)
  | .tup ds, _, n, h => by cases h with | tup a b => exact .tup a (RpA.cv ha n b)
  | .scr ns, _, _, h => by cases h with | scr a => exact .scr a
  | .dik ks ds, _, n, h => by cases h with | dik a e b => exact .dik a e (RpA.cv ha n b)
  | .dit ks ds, _, n, h => by cases h with | dit a e b => exact .dit a e (RpA.cv ha n b)
  | .ins c ns ds, _, n, h => by cases h with | ins a e b => exact .ins (by rw [ha]; exact a) e (RpA.cv ha n b)
  | .exc c ns ds, _, n, h => by
    rcases n with n | n
    · cases h with
      | xc0 z => rw [n] at z; cases z
      | xc1 z a e b => rw [n] at z; cases z
    · cases n
theorem RpA.cv (ha : cl'.ad = cl.ad) : ∀ {ds : List D} {vs : List V}, cl.xa = none ∨ noXA ds = true → RpA K cl F vs ds → RpA K cl' F vs ds
  | [], _, _, h => by cases h; exact .nil
  | d :: ds, _, n, h => by
    cases h with
    | cons a b =>
      refine .cons (Rp.cv ha ?_ a) (RpA.cv ha ?_ b)
      · rcases n with n | n
        · exact .inl n
        · exact .inr (Bool.and_eq_true_iff.mp n).1
      · rcases n with n | n
        · exact .inl n
        · exact .inr (Bool.and_eq_true_iff.mp n).2
end
theorem CnR.cv {c : Cn} {o : HO} (ha : cl'.ad = cl.ad) (n : cl.xa = none ∨ noXC c = true) (h : CnR K cl F c o) : CnR K cl' F c o := by
  cases c with
  | l ds => obtain ⟨vs, e, h⟩ := h; exact ⟨vs, e, h.cv ha n⟩
  | t ks ds => obtain ⟨vs, e, e2, h⟩ := h; exact ⟨vs, e, e2, h.cv ha n⟩
  | k ks ds => obtain ⟨vs, e, e2, h⟩ := h; exact ⟨vs, e, e2, h.cv ha n⟩
theorem SOk.cv {B F0 F H : Hp} {σ : L2.St} {ρ : En} (ha : cl'.ad = cl.ad) (n : cl.xa = none ∨ noXE ρ = true) (s : SOk K cl B F0 F σ H ρ) : SOk K cl' B F0 F σ H ρ := by
  have key : ∀ {i : Nat} {x : Sl}, ρ[i]? = some x → cl.xa = none ∨ noXS x = true := fun {i x} e => by
    rcases n with n | n
    · exact .inl n
    · exact .inr (List.all_eq_true.mp n x (List.mem_of_getElem? e))
  refine ⟨s.f0, s.fh, s.bh, s.bf, s.len, fun i d e => ?_, fun i b c e => ?_, s.ap⟩
  · obtain ⟨v, h1, h2⟩ := s.im i d e
    exact ⟨v, h1, h2.cv ha (key e)⟩
  · obtain ⟨a, o, h1, h2, h3, h4, h5⟩ := s.ow i b c e
    exact ⟨a, o, h1, h2, h3, h4, h5.cv ha (key e)⟩
end
/-- raise C() -/
def sRaise0 (c : Nat) : En → Option Fl := fun ρ => some (.ex (.exc c [] []) ρ)
def excOf : D → Option Nat
  | .exc c _ _ => some c
  | _ => none
abbrev XT := List (Nat × Bool)
def XTab (P : Nat → Bool → Prop) (l : XT) : Prop := ∀ k b, l.lookup k = some b → P k b
theorem xt_nil {P : Nat → Bool → Prop} : XTab P [] := fun k b h => by cases h
theorem xt_cons {P : Nat → Bool → Prop} {k : Nat} {b : Bool} {l : XT} (h : P k b) (t : XTab P l) : XTab P ((k, b) :: l) := fun j c e => by
  by_cases q : j = k
  · subst q
    have : some b = some c := by simpa [List.lookup] using e
    cases this
    exact h
  · have q2 : (j == k) = false := by simpa using q
    simp only [List.lookup, q2] at e
    exact t j c e
/-- what an exception class must say, so that isinstance asks its instances rightly -/
structure XcC (K : PySem.W.Frag) (C : Addr) : Prop where
  hd : PySem.W.hasDictIn K C = true
  hg : PySem.W.findIn K (.ref C) "__getattribute__" = some (some (.builtin "BaseException.__getattribute__"))
  hk : PySem.W.findIn K (.ref C) "__getattr__" = some none
  hs : PySem.W.subIn K (.ref C) (.type "BaseException") = some true
  ha : PySem.W.findIn K (.ref C) "__class__" = some (some (.builtin "object.__class__"))
  hn : PySem.W.specialIn K (.builtin "object.__class__") "__get__" = some (some (.builtin "getset_descriptor.__get__"))
  ht : PySem.W.takesIn K (.builtin "object.__class__") = some true
  hm : PySem.W.mroIn K C (.type "object") = some true
def xIn (l : XT) (d : D) : Option Bool := (excOf d).bind fun c => l.lookup c
/-- a suite's end: the name is gone, nothing holds the exception -/
def backX (i : Nat) : Option Fl → Option Fl
  | some (.nx ρ) => if noXE (ρ.set i .un) then some (.nx (ρ.set i .un)) else none
  | some (.bk ρ) => if noXE (ρ.set i .un) then some (.bk (ρ.set i .un)) else none
  | some (.ct ρ) => if noXE (ρ.set i .un) then some (.ct (ρ.set i .un)) else none
  | some (.rt d) => if noX d then some (.rt d) else none
  | _ => none
def sTry (i : Nat) (l : XT) (mb ms : En → Option Fl) : En → Option Fl := fun ρ => match mb ρ with
  | some (.ex e ρ1) => match xIn l e with
    | some true => backX i (ms (ρ1.set i (.im e)))
    | some false => some (.ex e ρ1)
    | none => none
  | r => r
def mIsX (l : XT) (m : En → Res D) : En → Res D := fun ρ => (m ρ).bind fun d => match xIn l d with
  | some b => .ok (.bl b)
  | none => .bad
def fld (f : Str) : List Str → List D → Option D
  | n :: ns, d :: ds => if f = n then some d else fld f ns ds
  | _, _ => none
def fldX (f : Str) : D → Option D
  | .exc _ ns ds => fld f ns ds
  | _ => none
def mXf (f : Str) (m : En → Res D) : En → Res D := fun ρ => (m ρ).bind fun d => .ofO (fldX f d)
section
variable {X : Cx} {cl : Cl} {W : WX} {pos pos' np p p2 px rp : Pos} {x n : Str} {i : Nat} {e : Expr} {m : En → Res D}
/-- C(): an own exception class without own __init__ -/
theorem pm_bare {C : Addr} {bmB : List Value} {B newId initId : String} (F : ExcBaseFacts B newId initId bmB) (q : PySem.W.excIn X.K C bmB newId = true) (gC : X.mg x = some (.ref C)) (kC : PySem.W.keepIn X.K (.ref C) = true) (r : Raises X (.ref C)) (hg : Gl X x)
    (hdb : (x == ("__debug__" : Str)) = false := by decide) : PMk X (.Call (.Name x p) [] [] pos) (fun _ H Q => Q (.ref C) none H) := by
  intro pins s σ H Q I h
  obtain ⟨bm, N, nm, qn, bs, hdct, sn, sub, ab, col, dd, k0, k1, k2, k3, k5, mN, hC, hN, hni, T⟩ := exc_obj I.kIn q
  refine wpAny_Call_Name_kw (ld_glob I hg gC ?_ hdb)
  refine PySem.W.callWith_K0 I.kIn kC ?_
  exact wpAny_call_exc_subT F T hC hN hni (fun h' e hm => mk_of I hm r h (I.hok.gone hm.new)) (Nat.zero_le _)
theorem ss_raise0 {c : Nat} (hc : X.calm = true) (tk : Takes X W) (h : PMk X e (fun _ H Q => Q (.ref (cl.ad c)) none H)) : SS X cl W (.Raise (some e) none pos) (sRaise0 c) := by
  refine (ps_raise hc tk h).of ?_
  rintro D σ H ⟨B, F0, F, ρ, s, p⟩
  exact p _ _ σ F H (Same.refl _) s (Lk.refl _ _) ⟨c, rfl, .inl ⟨rfl, rfl⟩⟩
/-- isinstance of what the suite holds -/
theorem call_isX {a : Addr} {oe : Obj} {cls : Value} {d : Option Addr} {pn : List (Addr × Obj)} (hz : Zc cls d oe) (hf : ∃ vs, oe.data = .fields vs) :
    CallR (X.suite a ((a, oe) :: pn)) (.builtin "isinstance") (fun xs H Q => ∃ (cv : V) (c : Value) (b : Bool) (C : Addr), xs = [.ref a, cv] ∧ (∀ u, RelV cv u → u = c) ∧ cls = .ref C ∧ XcC X.K C ∧ PySem.W.kitOne X.K (.ref C) c = some b ∧
      (d = none ∨ ∃ dd fs, d = some dd ∧ H dd = some (.xd fs)) ∧ Q (.bl b) H) := by
  intro pins s σ H xs us Q I r h
  obtain ⟨cv, c, b, C, rfl, hcv, rfl, T, e, hd, q⟩ := h
  cases r with
  | cons rx rr =>
    cases rr with
    | cons rt rr =>
      cases rr
      cases rx
      have ec := hcv _ rt
      subst ec
      obtain ⟨hget, _⟩ := I.pin (a, oe) (List.mem_append.mpr (.inl List.mem_cons_self))
      obtain ⟨vs, hv⟩ := hf
      have hcl : (PySem.W.clsIn X.K C).isSome = true := by
        obtain ⟨cdD, hcD, _⟩ := PySem.W.any_some T.hd
        rw [hcD]; rfl
      have J : ∃ od, PySem.W.InstAt s.heap a oe C od := by
        have hno : PySem.W.notCls oe = true := by unfold PySem.W.notCls; rw [hv]
        rcases hd with rfl | ⟨dd, fs, rfl, hx⟩
        · exact ⟨none, hget, hz.1, hno, by rw [hz.2]; trivial⟩
        · obtain ⟨mA, hns, hr⟩ : ObjOk X.prog X.w H s.heap dd (.xd fs) := I.hok dd _ hx
          obtain ⟨od, ho, hl⟩ := lookIn_ns hns
          exact ⟨some od, hget, hz.1, hno, by rw [hz.2]; exact ho⟩
      obtain ⟨od, J⟩ := J
      exact PySem.W.kia_one (PySem.W.kitx_exc (x := a) (ox := oe) (od := od) hcl T.hg T.hk T.hs T.ha T.hn T.ht T.hm) I.kIn J e (fun z => nomatch z) fun tk => ⟨.bl b, H, I.kept (t' := tk) fun _ _ z => z, rfl, q⟩
theorem so_isX {a : Addr} {oe : Obj} {cls : Value} {d : Option Addr} {pn : List (Addr × Obj)} {l : XT} {cv : V} {c : Value} (hz : Zc cls d oe) (hf : ∃ vs, oe.data = .fields vs) (hg : Gl X "isinstance") (hm : X.mg "isinstance" = none)
    (hx : PE (X.suite a ((a, oe) :: pn)) (.Name x px) (L2.tC cv)) (hcv : ∀ u, RelV cv u → u = c) (tab : XTab (fun k b => PySem.W.kitOne X.K (.ref (cl.ad k)) c = some b ∧ XcC X.K (cl.ad k)) l) (he : SE (X.suite a ((a, oe) :: pn)) (cl.ex a cls d) W e m)
    (hs1 : starEach (e :: [.Name x px]) X.env = (false, eval e X.env) :: starEach [.Name x px] X.env := by rfl) (hs2 : starEach [.Name x px] X.env = (false, eval (.Name x px) X.env) :: starEach [] X.env := by rfl)
    (hpl : (backTo pos (starEach [.Name x px] X.env)).any (·.1) = false := by rfl) :
    SE (X.suite a ((a, oe) :: pn)) (cl.ex a cls d) W (.Call (.Name "isinstance" p) [e, .Name x px] [] pos) (mIsX l m) := by
  refine (pe_callB (call_isX hz hf) hg hm (by decide +kernel) (pa_cons he (pa_cons hx pa_nil hs2) hs1) (by decide) (by decide) hs1 hpl).of ?_
  rintro σ H Q ⟨B, F0, F, ρ, s, p⟩
  refine ⟨B, F0, F, ρ, s, (step1 s p).imp ?_⟩
  rintro v H1 ⟨de, F1, e, g1, r, p⟩
  cases q : xIn l de with
  | none => rw [q] at p; exact p.elim
  | some b =>
    rw [q] at p
    cases r with
    | xc0 z =>
      obtain ⟨t1, t2⟩ := tab _ b q
      have z := Option.some.inj z
      simp only [Prod.mk.injEq] at z
      obtain ⟨z1, z2, z3⟩ := z
      subst z1
      exact ⟨cv, c, b, _, rfl, hcv, z2, t2, t1, .inl z3, p _ F1 H1 (.refl g1.fh) (.bl _)⟩
    | xc1 z h1 h2 h3 =>
      obtain ⟨t1, t2⟩ := tab _ b q
      have z := Option.some.inj z
      simp only [Prod.mk.injEq] at z
      obtain ⟨z1, z2, z3⟩ := z
      subst z1
      exact ⟨cv, c, b, _, rfl, hcv, z2, t2, t1, .inr ⟨_, _, z3, g1.fh _ _ h1⟩, p _ F1 H1 (.refl g1.fh) (.bl _)⟩
    | _ => cases q
theorem fld_lookup {K : PySem.W.Frag} {F : Hp} {f : Str} : ∀ {fs : List (Str × V)} {ds : List D} {d : D}, RpA K cl F (fs.map (·.2)) ds → fld f (fs.map (·.1)) ds = some d → ∃ v, fs.lookup f = some v ∧ Rp K cl F v d
  | [], _, _, _, e => by simp [fld] at e
  | (g, v) :: fs, ds, d, r, e => by
    cases r with
    | cons a b =>
      simp only [List.map_cons, fld] at e
      by_cases h : f = g
      · rw [if_pos h] at e
        cases e
        exact ⟨v, by simp [List.lookup, h], a⟩
      · rw [if_neg h] at e
        obtain ⟨u, h1, h2⟩ := fld_lookup b e
        refine ⟨u, ?_, h2⟩
        have : (f == g) = false := by simpa using h
        simp only [List.lookup, this]
        exact h1
/-- e.f, e what the suite holds -/
theorem so_xf {a : Addr} {oe : Obj} {cls : Value} {d : Option Addr} {pn : List (Addr × Obj)} {f : Str} {l : XT} (hz : Zc cls d oe) (hf : ∃ vs, oe.data = .fields vs) (hk : ∃ k, cls = .ref (cl.ad k) ∧ l.lookup k = some true)
    (tab : XTab (fun k _ => XfC X.K (cl.ad k) ∧ PySem.W.findIn X.K (.ref (cl.ad k)) f = some none) l) (he : SE (X.suite a ((a, oe) :: pn)) (cl.ex a cls d) W e m) (hb : attributeBase e f X.env (eval e X.env) = eval e X.env := by rfl) :
    SE (X.suite a ((a, oe) :: pn)) (cl.ex a cls d) W (.Attribute e f pos) (mXf f m) := by
  obtain ⟨k, rfl, hk⟩ := hk
  obtain ⟨t1, t2⟩ := tab k true hk
  refine (pe_xf t1 t2 hz hf he hb).of ?_
  rintro σ H Q ⟨B, F0, F, ρ, so, p⟩
  refine ⟨B, F0, F, ρ, so, (step1 so p).imp ?_⟩
  rintro v H1 ⟨de, F1, e1, g1, r, p⟩
  cases q : fldX f de with
  | none => rw [q] at p; exact p.elim
  | some d' =>
    rw [q] at p
    cases r with
    | xc1 z h1 h2 h3 =>
      subst h2
      obtain ⟨v, l1, l2⟩ := fld_lookup h3 q
      have z := Option.some.inj z
      simp only [Prod.mk.injEq] at z
      obtain ⟨z1, z2, z3⟩ := z
      subst z1 z3
      exact ⟨rfl, rfl, _, _, v, rfl, g1.fh _ _ h1, l1, p v F1 H1 (.refl g1.fh) l2⟩
    | xc0 z => cases q
    | _ => cases q
/-- try: body except C as n: suite -/
theorem ss_try {c : Value} {l : XT} {body suite : List Stmt} {b₀ : Stmt} {mb ms : En → Option Fl} (hxa : cl.xa = none) (hs : X.stack = X.env :: X.outer) (hf : X.env.frame = some X.env.locals) (hN : X.N.Nodup) (hi : X.N[i]? = some n) (hln : X.env.kindOf n = some .local)
    (hc : Names X x c) (tk : Takes X W) (tab : XTab (fun k b => PySem.W.exmOne X.K (.ref (cl.ad k)) c = some b) l)
    (hb : ∀ (W' : WX) (pn : List (Addr × Obj)) (xe : Value → Shared → Prop), Takes (X.tr pn xe) W' → PassesOwn (model X.prog X.w) X.A X.env xe → SSs (X.tr pn xe) cl W' body mb)
    (hsu : ∀ (a : Addr) (oe : Obj) (cls : Value) (d : Option Addr) (pn : List (Addr × Obj)), Zc cls d oe → (∃ vs, oe.data = .fields vs) → (∃ k, cls = .ref (cl.ad k) ∧ l.lookup k = some true) → SSs (X.suite a ((a, oe) :: pn)) (cl.ex a cls d) W0 (b₀ :: suite) ms) :
    SS X cl W (.Try body [.ExceptHandler (some (.Name x np)) (some n) (b₀ :: suite) pos'] [] [] pos) (sTry i l mb ms) := by
  refine (ps_try_as (i := i) (ts := fun a cls d D σ H => (∃ k, cls = .ref (cl.ad k) ∧ l.lookup k = some true) ∧ tS X.K (cl.ex a cls d) W0 ms D σ H) (tb := fun W' => tS X.K cl W' mb) hs hf hN hi hln hc tk hb fun a oe cls d pn hz hv => ?_).of ?_
  · refine ⟨fun pins s σ H D I h => ?_⟩
    exact (hsu a oe cls d pn hz hv h.1).run pins s σ H D I h.2
  · rintro D σ H ⟨B, F0, F, ρ, s, p⟩
    refine ⟨B, F0, F, ρ, s, ?_⟩
    unfold sTry at p
    cases q : mb ρ with
    | none => rw [q] at p; exact p.elim
    | some f =>
      rw [q] at p
      cases f with
      | nx ρ1 => exact p
      | bk ρ1 => exact p
      | ct ρ1 => exact p
      | rt d => exact p
      | ex e ρ1 =>
        intro cls dd σ1 F1 H1 m1 s1 l1 x1
        have x2 := x1
        obtain ⟨k, rfl, hx⟩ := x1
        have hk : excOf e = some k := by
          rcases hx with ⟨rfl, _⟩ | ⟨_, _, _, _, _, _, rfl⟩ <;> rfl
        have hxi : xIn l e = l.lookup k := by unfold xIn; rw [hk]; rfl
        cases ql : l.lookup k with
        | none =>
          simp only [hxi, ql] at p
          exact p.elim
        | some b =>
          refine ⟨b, tab k b ql, fun hb1 a ha => ?_, fun hb0 => ?_⟩
          · subst hb1
            simp only [hxi, ql] at p
            refine ⟨⟨k, rfl, ql⟩, B, F0, F1, ρ1.set i (.im e), ?_, ?_⟩
            · have s2 : SOk X.K (cl.ex a (.ref (cl.ad k)) dd) B F0 F1 σ1 H1 ρ1 := SOk.cv (cl := cl) (cl' := cl.ex a (.ref (cl.ad k)) dd) rfl (.inl hxa) s1
              refine s2.set i ?_
              rcases hx with ⟨rfl, rfl⟩ | ⟨y, fs, ds, rfl, h1, h2, rfl⟩
              · exact .xc0 rfl
              · exact .xc1 rfl h1 rfl (RpA.cv (cl := cl) (cl' := cl.ex a (.ref (cl.ad k)) (some y)) rfl (.inl hxa) h2)
            · have lk1 : Lk ρ σ (ρ1.set i (.im e)) (σ1.set i (some (.ref a))) := l1.trans (Lk.set fun c z => by cases z)
              have wp : ∀ {σ2 : L2.St} {F2 H2 : Hp} {ρ2 : En}, noXE (ρ2.set i .un) = true → SOk X.K (cl.ex a (.ref (cl.ad k)) dd) B F0 F2 σ2 H2 ρ2 → SOk X.K cl B F0 F2 (σ2.set i none) H2 (ρ2.set i .un) := fun {σ2 F2 H2 ρ2} hn s2 => SOk.cv (cl := cl.ex a (.ref (cl.ad k)) dd) (cl' := cl) rfl (.inr hn) (s2.wipe [i])
              have lk2 : ∀ {σ2 : L2.St} {ρ2 : En}, Lk (ρ1.set i (.im e)) (σ1.set i (some (.ref a))) ρ2 σ2 → Lk ρ σ (ρ2.set i .un) (σ2.set i none) := fun {σ2 ρ2} l2 => (lk1.trans l2).trans (Lk.set fun c z => by cases z)
              cases q2 : ms (ρ1.set i (.im e)) with
              | none => rw [q2] at p; exact p.elim
              | some f =>
                rw [q2] at p
                cases f with
                | nx ρ2 =>
                  simp only [backX] at p
                  split at p
                  · rename_i hn
                    exact fun σ2 F2 H2 m2 s2 l2 => p _ F2 H2 (m1.trans m2) (wp hn s2) (lk2 l2)
                  · exact p.elim
                | bk ρ2 =>
                  simp only [backX] at p
                  split at p
                  · rename_i hn
                    exact fun σ2 F2 H2 m2 s2 l2 => p _ F2 H2 (m1.trans m2) (wp hn s2) (lk2 l2)
                  · exact p.elim
                | ct ρ2 =>
                  simp only [backX] at p
                  split at p
                  · rename_i hn
                    exact fun σ2 F2 H2 m2 s2 l2 => p _ F2 H2 (m1.trans m2) (wp hn s2) (lk2 l2)
                  · exact p.elim
                | rt d =>
                  simp only [backX] at p
                  split at p
                  · rename_i hn
                    exact fun v F2 H2 m2 h3 h4 h5 r => p v F2 H2 (m1.trans m2) h3 h4 h5 (Rp.cv (cl := cl.ex a (.ref (cl.ad k)) dd) (cl' := cl) rfl (.inr hn) r)
                  · exact p.elim
                | ex e2 ρ2 => exact p.elim
          · subst hb0
            simp only [hxi, ql] at p
            exact p _ dd σ1 F1 H1 m1 s1 l1 x2
end
/-- an own class in an except clause -/
theorem exm_own {K : PySem.W.Frag} {C : Addr} {cls : Value} {b : Bool} (h1 : PySem.W.subIn K (.ref C) (.type "BaseException") = some true) (hd : PySem.W.hasDictIn K C = true) (ht : PySem.W.typeIn K (.ref C) = some (.type "type")) (h4 : PySem.W.subIn K cls (.ref C) = some b) : PySem.W.exmOne K cls (.ref C) = some b := by
  obtain ⟨cd, hc, _⟩ := PySem.W.any_some hd
  have q1 : (PySem.W.subIn K (.ref C) (.type "BaseException") == some true) = true := by rw [h1]; rfl
  have q2 : ((PySem.W.clsIn K C).isSome && PySem.W.typeIn K (.ref C) == some (.type "type")) = true := by rw [hc, ht]; rfl
  show (if (PySem.W.subIn K (.ref C) (.type "BaseException") == some true) = true then (if ((PySem.W.clsIn K C).isSome && PySem.W.typeIn K (.ref C) == some (.type "type")) = true then PySem.W.subIn K cls (.ref C) else none) else none) = some b
  rw [if_pos q1, if_pos q2, h4]
/-! ## is of bools, zip -/
def fIsB : D → D → Option D
  | .bl a, .bl b => some (.bl (decide (a = b)))
  | _, _ => none
def fNotB : D → D → Option D
  | .bl a, .bl b => some (.bl (!decide (a = b)))
  | _, _ => none
def zipD (a b : List D) : List D := List.zipWith (fun x y => .tup [x, y]) a b
def zipOf : List D → Option (List D)
  | [.lst a, .lst b] => some (zipD a b)
  | [.tup a, .tup b] => some (zipD a b)
  | _ => none
def mZip (ms : En → Res (List D)) : En → Res (List D) := fun ρ => (ms ρ).bind fun ds => .ofO (zipOf ds)
section
variable {K : PySem.W.Frag} {X : Cx} {cl : Cl} {W : WX} {p pos tpos : Pos} {a b : Expr} {ms : En → Res (List D)} {elts : List Expr} {kk : Nat}
theorem o_isB : Op2 K cl rIsB fIsB := by
  intro F H x y dx dy Q m rx ry p
  unfold fIsB at p
  cases rx <;> cases ry <;> first | exact p.elim | exact ⟨_, _, rfl, rfl, p.int m (.bl _)⟩
theorem o_notB : Op2 K cl rNotB fNotB := by
  intro F H x y dx dy Q m rx ry p
  unfold fNotB at p
  cases rx <;> cases ry <;> first | exact p.elim | exact ⟨_, _, rfl, rfl, p.int m (.bl _)⟩
theorem zipD_len (a b : List D) : (zipD a b).length = min a.length b.length := by simp [zipD]
theorem zipD_get {a b : List D} {i : Nat} {d : D} (e : (zipD a b)[i]? = some d) : ∃ x y, a[i]? = some x ∧ b[i]? = some y ∧ d = .tup [x, y] := by
  unfold zipD at e
  rw [List.getElem?_zipWith] at e
  cases h1 : a[i]? with
  | none => simp [h1] at e
  | some x =>
    cases h2 : b[i]? with
    | none => simp [h1, h2] at e
    | some y =>
      simp only [h1, h2] at e
      cases e
      exact ⟨x, y, rfl, rfl, rfl⟩
theorem it_zipL {F : Hp} {a b : Addr} {xs ys : List V} {ds es : List D} (h : SqL K F a xs) (h' : SqL K F b ys) (r : RpA K cl F xs ds) (r' : RpA K cl F ys es) : ItOk K cl (Itz K a b) F (zipD ds es) where
  go := fun i H m hi => by
    rw [zipD_len] at hi
    have q1 : i < xs.length := by rw [r.length]; omega
    have q2 : i < ys.length := by rw [r'.length]; omega
    exact ⟨xs, ys, xs[i], ys[i], m.seq h, m.seq h', by simp [q1], by simp [q2]⟩
  stop := fun i H m hi => by
    rw [zipD_len] at hi
    exact ⟨xs, ys, m.seq h, m.seq h', by rw [r.length, r'.length]; omega⟩
  yld := fun i H v H' d F1 m1 m2 y e => by
    obtain ⟨T, x, z, rfl, hT, rfl, q1, q2⟩ := y
    obtain ⟨dx, dz, e1, e2, rfl⟩ := zipD_get e
    obtain ⟨d1, h1, h2⟩ := r.get (q1 xs ((m1.trans m2).seq h))
    obtain ⟨d2, h3, h4⟩ := r'.get (q2 ys ((m1.trans m2).seq h'))
    rw [e1] at h1; cases h1
    rw [e2] at h3; cases h3
    have g := Gr.new (o := .tup [x, z]) m2 hT
    exact ⟨_, g, .tup upd_same (.cons (h2.mono (m1.trans g.f)) (.cons (h4.mono (m1.trans g.f)) .nil))⟩
theorem it_zipT {F : Hp} {a b : Addr} {xs ys : List V} {ds es : List D} (h : SqT K F a xs) (h' : SqT K F b ys) (r : RpA K cl F xs ds) (r' : RpA K cl F ys es) : ItOk K cl (RZ.ItzT K a b) F (zipD ds es) where
  go := fun i H m hi => by
    rw [zipD_len] at hi
    have q1 : i < xs.length := by rw [r.length]; omega
    have q2 : i < ys.length := by rw [r'.length]; omega
    exact ⟨xs, ys, xs[i], ys[i], Same.seqT m h, Same.seqT m h', by simp [q1], by simp [q2]⟩
  stop := fun i H m hi => by
    rw [zipD_len] at hi
    exact ⟨xs, ys, Same.seqT m h, Same.seqT m h', by rw [r.length, r'.length]; omega⟩
  yld := fun i H v H' d F1 m1 m2 y e => by
    obtain ⟨T, x, z, rfl, hT, rfl, q1, q2⟩ := y
    obtain ⟨dx, dz, e1, e2, rfl⟩ := zipD_get e
    obtain ⟨d1, h1, h2⟩ := r.get (q1 xs (Same.seqT (m1.trans m2) h))
    obtain ⟨d2, h3, h4⟩ := r'.get (q2 ys (Same.seqT (m1.trans m2) h'))
    rw [e1] at h1; cases h1
    rw [e2] at h3; cases h3
    have g := Gr.new (o := .tup [x, z]) m2 hT
    exact ⟨_, g, .tup upd_same (.cons (h2.mono (m1.trans g.f)) (.cons (h4.mono (m1.trans g.f)) .nil))⟩
theorem si_zip (hg : Gl X "zip") (hm : X.mg "zip" = none) (ha : SA X cl W [a, b] ms) (hs : starEach [a, b] X.env = (false, eval a X.env) :: starEach [b] X.env := by rfl) (hpl : (backTo pos (starEach [b] X.env)).any (·.1) = false := by rfl) :
    SI X cl W (.Tuple elts kk tpos) (.Call (.Name "zip" p) [a, b] [] pos) (mZip ms) := by
  refine (RZ.pi_zipA hg hm ha hs hpl).of ?_
  rintro σ H R ⟨B, F0, F, ρ, s, p⟩
  refine ⟨B, F0, F, ρ, s, (stepIA s p).imp ?_⟩
  rintro vs H1 ⟨ds, F1, e, g1, r, p⟩
  cases q : zipOf ds with
  | none => rw [q] at p; exact p.elim
  | some es =>
    rw [q] at p
    unfold zipOf at q
    split at q
    · obtain ⟨v, u, rfl, h, h2⟩ := r.two
      cases q
      cases h with
      | lst x1 x2 =>
        cases h2 with
        | lst y1 y2 => exact ⟨_, _, _, _, rfl, .inl ⟨.of (g1.fh _ _ x1), .of (g1.fh _ _ y1), p _ F1 H1 (.refl g1.fh) (it_zipL (.of x1) (.of y1) x2 y2)⟩⟩
    · obtain ⟨v, u, rfl, h, h2⟩ := r.two
      cases q
      cases h with
      | tup x1 x2 =>
        cases h2 with
        | tup y1 y2 => exact ⟨_, _, _, _, rfl, .inr ⟨.of (g1.fh _ _ x1), .of (g1.fh _ _ y1), p _ F1 H1 (.refl g1.fh) (it_zipT (.of x1) (.of y1) x2 y2)⟩⟩
    · cases q
end
end FL
namespace FL
open PySem L2
/-! ## reckoning with the mirror -/
section
variable {α β : Type} {ρ : En} {a b c : En → Res D} {f : D → D → Option D} {d : D}
@[simp] theorem bind_ok (a : α) (f : α → Res β) : (Res.ok a).bind f = f a := id rfl
@[simp] theorem bind_er (e : D) (f : α → Res β) : (Res.er e).bind f = .er e := id rfl
@[simp] theorem bind_bad (f : α → Res β) : (Res.bad : Res α).bind f = .bad := id rfl
@[simp] theorem ofO_some (a : α) : Res.ofO (some a) = .ok a := id rfl
@[simp] theorem ofO_none : (Res.ofO none : Res α) = .bad := id rfl
@[simp] theorem mC_d (d : D) (ρ : En) : mC d ρ = .ok d := id rfl
@[simp] theorem mVar_d (i : Nat) (ρ : En) : mVar i ρ = (match ρ[i]? with | some (.im d) => .ok d | _ => .bad) := id rfl
@[simp] theorem mOp1_d (g : D → Option D) (a) (ρ : En) : mOp1 g a ρ = (a ρ).bind fun x => .ofO (g x) := id rfl
@[simp] theorem mOp2_d (f) (a b) (ρ : En) : mOp2 f a b ρ = (a ρ).bind fun x => (b ρ).bind fun y => .ofO (f x y) := id rfl
@[simp] theorem mNil_d (ρ : En) : mNil ρ = .ok [] := id rfl
@[simp] theorem mCons_d (a : En → Res D) (b) (ρ : En) : mCons a b ρ = (a ρ).bind fun x => (b ρ).bind fun xs => .ok (x :: xs) := id rfl
@[simp] theorem mTup_d (b) (ρ : En) : mTup b ρ = (b ρ).bind fun xs => if xs.length < 16777216 then .ok (.tup xs) else .bad := id rfl
@[simp] theorem mLst_d (b) (ρ : En) : mLst b ρ = (b ρ).bind fun xs => if xs.length < 16777216 then .ok (.l xs) else .bad := id rfl
@[simp] theorem mFz_d (m : En → Res Cn) (ρ : En) : mFz m ρ = (m ρ).bind fun c => .ok c.d := id rfl
@[simp] theorem Cnd_l (ds) : (Cn.l ds).d = .lst ds := id rfl
@[simp] theorem Cnd_t (ks vs) : (Cn.t ks vs).d = .dit ks vs := id rfl
@[simp] theorem Cnd_k (ks vs) : (Cn.k ks vs).d = .dik ks vs := id rfl
@[simp] theorem mTru_d (m) (ρ : En) : mTru m ρ = (m ρ).bind fun d => .ofO (tru d) := id rfl
@[simp] theorem mTst_d (m) (ρ : En) : mTst m ρ = (m ρ).bind fun d => .ofO (isBl d) := id rfl
@[simp] theorem isBl_bl (b : Bool) : isBl (.bl b) = some b := id rfl
@[simp] theorem tru_bl (b : Bool) : tru (.bl b) = some b := id rfl
@[simp] theorem tru_int (i : Int) : tru (.int i) = some (i != 0) := id rfl
@[simp] theorem tru_non : tru .non = some false := id rfl
@[simp] theorem tru_lst (ds) : tru (.lst ds) = some (!ds.isEmpty) := id rfl
@[simp] theorem tru_tup (ds) : tru (.tup ds) = some (!ds.isEmpty) := id rfl
@[simp] theorem mtNot_d (m) (ρ : En) : mtNot m ρ = (m ρ).bind fun b => .ok (!b) := id rfl
@[simp] theorem mtAnd_d (m n) (ρ : En) : mtAnd m n ρ = (m ρ).bind fun b => if b then n ρ else .ok false := id rfl
@[simp] theorem mtOr_d (m n) (ρ : En) : mtOr m n ρ = (m ρ).bind fun b => if b then .ok true else n ρ := id rfl
@[simp] theorem mAnd_d (m n) (ρ : En) : mAnd m n ρ = (m ρ).bind fun d => match isBl d with | some true => n ρ | some false => .ok (.bl false) | none => .bad := id rfl
@[simp] theorem mOr_d (m n) (ρ : En) : mOr m n ρ = (m ρ).bind fun d => match isBl d with | some true => .ok (.bl true) | some false => n ρ | none => .bad := id rfl
@[simp] theorem mNot_d (m) (ρ : En) : mNot m ρ = (m ρ).bind fun d => match isBl d with | some b => .ok (.bl (!b)) | none => .bad := id rfl
@[simp] theorem mIf_d (t m n) (ρ : En) : mIf t m n ρ = (t ρ).bind fun b => if b then m ρ else n ρ := id rfl
@[simp] theorem mOpA_d (f : List D → Option D) (ms) (ρ : En) : mOpA f ms ρ = (ms ρ).bind fun ds => .ofO (f ds) := id rfl
@[simp] theorem mCall_d (n φ ms) (ρ : En) : mCall n φ ms ρ = (ms ρ).bind fun ds => if ds.length = n then φ ds else .bad := id rfl
@[simp] theorem mPart_d (m) (ρ : En) : mPart m ρ = (m ρ).bind fun d => match intOf d with | some i => .ok (some i) | none => .bad := id rfl
@[simp] theorem intOf_int (i) : intOf (.int i) = some i := id rfl
@[simp] theorem mNoPart_d (ρ : En) : mNoPart ρ = .ok none := id rfl
@[simp] theorem mSl_d (m lo hi) (ρ : En) : mSl m lo hi ρ = (m ρ).bind fun d => (lo ρ).bind fun l => (hi ρ).bind fun h => .ofO (fSl d l h) := id rfl
@[simp] theorem mIsiTy_d (u m) (ρ : En) : mIsiTy u m ρ = (m ρ).bind fun d => match isiTy u d with | some b => .ok (.bl b) | none => .bad := id rfl
@[simp] theorem mList_d (m) (ρ : En) : mList m ρ = (m ρ).bind fun d => match seqOf d with | some ds => .ok (.l ds) | none => .bad := id rfl
@[simp] theorem seqOf_lst (ds) : seqOf (.lst ds) = some ds := id rfl
@[simp] theorem seqOf_tup (ds) : seqOf (.tup ds) = some ds := id rfl
@[simp] theorem mSeq_d (m) (ρ : En) : mSeq m ρ = (m ρ).bind fun d => .ofO (elems d) := id rfl
@[simp] theorem elems_lst (ds) : elems (.lst ds) = some ds := id rfl
@[simp] theorem elems_tup (ds) : elems (.tup ds) = some ds := id rfl
@[simp] theorem elems_scr (ns) : elems (.scr ns) = some (ns.map .int) := id rfl
theorem mRng1_d (m) (ρ : En) : mRng1 m ρ = (m ρ).bind fun ds => .ofO (rng1Of ds) := id rfl
theorem mRng2_d (m) (ρ : En) : mRng2 m ρ = (m ρ).bind fun ds => .ofO (rng2Of ds) := id rfl
@[simp] theorem bName_d (i d ρ) : bName i d ρ = some (ρ.set i (.im d)) := id rfl
@[simp] theorem bTup_d (is ds ρ) : bTup is (.tup ds) ρ = bNames is ds ρ := id rfl
@[simp] theorem bNames_nil (ρ) : bNames [] [] ρ = some ρ := id rfl
@[simp] theorem bNames_cons (i is d ds ρ) : bNames (i :: is) (d :: ds) ρ = bNames is ds (ρ.set i (.im d)) := id rfl
@[simp] theorem mYes_d (ρ : En) : mYes ρ = .ok true := id rfl
@[simp] theorem mLc_d (bt own mi mt me) (ρ : En) : mLc bt own mi mt me ρ = (mi ρ).bind fun ds => compL bt mt me (wipeE ρ own) ds [] := id rfl
@[simp] theorem wipeE_nil (ρ) : wipeE ρ [] = ρ := id rfl
@[simp] theorem wipeE_cons (ρ v vs) : wipeE ρ (v :: vs) = (wipeE ρ vs).set v .un := id rfl
@[simp] theorem runE_ok {α : Type} (ρ) (a : α) (f) : runE ρ (.ok a) f = f a := id rfl
@[simp] theorem runE_er {α : Type} (ρ e) (f : α → Option Fl) : runE ρ (.er e) f = some (.ex e ρ) := id rfl
@[simp] theorem runE_bad {α : Type} (ρ) (f : α → Option Fl) : runE ρ .bad f = none := id rfl
@[simp] theorem sSeq_d (a b) (ρ : En) : sSeq a b ρ = (match a ρ with | some (.nx ρ1) => b ρ1 | r => r) := id rfl
@[simp] theorem sNop_d (ρ : En) : sNop ρ = some (.nx ρ) := id rfl
@[simp] theorem sSet_d (i m) (ρ : En) : sSet i m ρ = runE ρ (m ρ) fun d => some (.nx (ρ.set i (.im d))) := id rfl
@[simp] theorem sOwn_d (i m) (ρ : En) : sOwn i m ρ = runE ρ (m ρ) fun c => some (.nx (ρ.set i (.ow false c))) := id rfl
@[simp] theorem sAsg_d (bt m) (ρ : En) : sAsg bt m ρ = runE ρ (m ρ) fun d => match bt d ρ with | some ρ' => some (.nx ρ') | none => none := id rfl
@[simp] theorem sRet_d (m) (ρ : En) : sRet m ρ = runE ρ (m ρ) fun d => some (.rt d) := id rfl
@[simp] theorem sRetN_d (ρ : En) : sRetN ρ = some (.rt .non) := id rfl
@[simp] theorem sExp_d (m) (ρ : En) : sExp m ρ = runE ρ (m ρ) fun _ => some (.nx ρ) := id rfl
@[simp] theorem sIf_d (c a b) (ρ : En) : sIf c a b ρ = runE ρ (c ρ) fun k => if k then a ρ else b ρ := id rfl
@[simp] theorem sBrk_d (ρ : En) : sBrk ρ = some (.bk ρ) := id rfl
@[simp] theorem sCnt_d (ρ : En) : sCnt ρ = some (.ct ρ) := id rfl
@[simp] theorem sFor_d (bt mi body) (ρ : En) : sFor bt mi body ρ = runE ρ (mi ρ) fun ds => forL bt body ds ρ := id rfl
@[simp] theorem sFrz_d (i ms) (ρ : En) : sFrz i ms ρ = ms (frz1 i ρ) := id rfl
@[simp] theorem frz1_d (i) (ρ : En) : frz1 i ρ = (match ρ[i]? with | some (.ow _ c) => ρ.set i (.im c.d) | _ => ρ) := id rfl
@[simp] theorem mBor_d (i m) (ρ : En) : mBor i m ρ = (match m (frz1 i ρ) with | .ok d => if scalD d then .ok d else .bad | _ => .bad) := id rfl
@[simp] theorem mtBor_d (i m) (ρ : En) : mtBor i m ρ = (match m (frz1 i ρ) with | .ok d => .ok d | _ => .bad) := id rfl
@[simp] theorem scalD_int (i) : scalD (.int i) = true := id rfl
@[simp] theorem scalD_bl (i) : scalD (.bl i) = true := id rfl
@[simp] theorem scalD_non : scalD .non = true := id rfl
@[simp] theorem mIxO_d (i m) (ρ : En) : mIxO i m ρ = (match ρ[i]? with | some (.ow _ (.l ds)) => (m ρ).bind fun k => .ofO (fIx (.lst ds) k) | _ => .bad) := id rfl
@[simp] theorem sApp_d (i ms) (ρ : En) : sApp i ms ρ = (match ρ[i]? with
  | some (.ow false (.l ds)) => runE ρ (ms ρ) fun vs => match vs with
    | [d] => if ds.length < 16777215 then some (.nx (ρ.set i (.ow false (.l (ds ++ [d]))))) else none
    | _ => none
  | _ => none) := id rfl
@[simp] theorem sIns_d (i ms) (ρ : En) : sIns i ms ρ = (match ρ[i]? with
  | some (.ow false (.l ds)) => runE ρ (ms ρ) fun vs => match vs with
    | [.int k, d] => if ds.length < 16777215 ∧ 0 ≤ k ∧ k < 9223372036854775808 then some (.nx (ρ.set i (.ow false (.l (ds.take k.toNat ++ [d] ++ ds.drop k.toNat))))) else none
    | _ => none
  | _ => none) := id rfl
@[simp] theorem sIdx_d (i mk mv) (ρ : En) : sIdx i mk mv ρ = (match ρ[i]? with
  | some (.ow false (.l ds)) => runE ρ (mv ρ) fun d => runE ρ (mk ρ) fun k => match k with
    | .int k => match ixN ds.length k with
      | some j => some (.nx (ρ.set i (.ow false (.l (ds.set j d)))))
      | none => none
    | _ => none
  | _ => none) := id rfl
@[simp] theorem mEmpT_d (ρ : En) : mEmpT ρ = .ok (.t [] []) := id rfl
@[simp] theorem mEmpK_d (ρ : En) : mEmpK ρ = .ok (.k [] []) := id rfl
@[simp] theorem startE_d (n ds) : startE n ds = ds.map .im ++ List.replicate (n - ds.length) .un := id rfl
@[simp] theorem runF_d (n ms ds) : runF n ms ds = (match ms (startE n ds) with | some (.rt d) => .ok d | some (.nx _) => .ok .non | some (.ex e _) => .er e | _ => .bad) := id rfl
@[simp] theorem rep1 {α : Type} (a : α) : List.replicate 1 a = [a] := id rfl
-- operations
@[simp] theorem fAdd_ii (i j) : fAdd (.int i) (.int j) = some (.int (i + j)) := id rfl
@[simp] theorem fAdd_tt (i j) : fAdd (.tup i) (.tup j) = if i.length + j.length < 16777216 then some (.tup (i ++ j)) else none := id rfl
@[simp] theorem fAdd_ll (i j) : fAdd (.lst i) (.lst j) = if i.length + j.length < 16777216 then some (.lst (i ++ j)) else none := id rfl
@[simp] theorem fSub_ii (i j) : fSub (.int i) (.int j) = some (.int (i - j)) := id rfl
@[simp] theorem fMul_ii (i j) : fMul (.int i) (.int j) = if okMul i j then some (.int (i * j)) else none := id rfl
@[simp] theorem fMul_ti (i j) : fMul (.tup i) (.int j) = if decide (-1000 ≤ j) && decide (j ≤ 1000) && decide (i.length ≤ 1000) && !i.isEmpty then some (.tup (repD i j)) else none := id rfl
@[simp] theorem fMul_li (i j) : fMul (.lst i) (.int j) = if decide (-1000 ≤ j) && decide (j ≤ 1000) && decide (i.length ≤ 1000) then some (.lst (repD i j)) else none := id rfl
@[simp] theorem fFdiv_ii (i j) : fFdiv (.int i) (.int j) = if okDiv i j then some (.int (i.fdiv j)) else none := id rfl
@[simp] theorem fMod_ii (i j) : fMod (.int i) (.int j) = if j ≠ 0 then some (.int (i.fmod j)) else none := id rfl
@[simp] theorem fPow_ii (i j) : fPow (.int i) (.int j) = if okPow i j then some (.int (i ^ j.toNat)) else none := id rfl
@[simp] theorem fShl_ii (i j) : fShl (.int i) (.int j) = if okPow i j then some (.int (i * 2 ^ j.toNat)) else none := id rfl
@[simp] theorem fShr_ii (i j) : fShr (.int i) (.int j) = if 0 ≤ j then some (.int (i / 2 ^ j.toNat)) else none := id rfl
@[simp] theorem fAnd_ii (i j) : fAnd (.int i) (.int j) = some (.int (Builtin.bitAnd i j)) := id rfl
@[simp] theorem fNeg_i (i) : fNeg (.int i) = some (.int (-i)) := id rfl
@[simp] theorem fLt_ii (i j) : fLt (.int i) (.int j) = some (.bl (decide (i < j))) := id rfl
@[simp] theorem fLe_ii (i j) : fLe (.int i) (.int j) = some (.bl (decide (i ≤ j))) := id rfl
@[simp] theorem fGt_ii (i j) : fGt (.int i) (.int j) = some (.bl (decide (j < i))) := id rfl
@[simp] theorem fGe_ii (i j) : fGe (.int i) (.int j) = some (.bl (decide (j ≤ i))) := id rfl
@[simp] theorem fIx_l (ds i) : fIx (.lst ds) (.int i) = atI ds i := id rfl
@[simp] theorem fIx_t (ds i) : fIx (.tup ds) (.int i) = atI ds i := id rfl
@[simp] theorem fIx_s (ds i) : fIx (.scr ds) (.int i) = (atI ds i).map .int := id rfl
@[simp] theorem fLen_l (ds) : fLen [.lst ds] = some (.int ds.length) := id rfl
@[simp] theorem fLen_t (ds) : fLen [.tup ds] = some (.int ds.length) := id rfl
@[simp] theorem fLen_s (ds) : fLen [.scr ds] = some (.int ds.length) := id rfl
@[simp] theorem fAbs_i (i) : fAbs [.int i] = some (.int (if i < 0 then -i else i)) := id rfl
@[simp] theorem fInt_i (i) : fInt [.int i] = some (.int i) := id rfl
@[simp] theorem fInt_b (i) : fInt [.bl i] = some (.int (if i then 1 else 0)) := id rfl
@[simp] theorem fGcd_ii (a b) : fGcd [.int a, .int b] = some (.int ((Nat.gcd a.natAbs b.natAbs : Nat) : Int)) := id rfl
@[simp] theorem fTuple_l (ds) : fTuple [.lst ds] = some (.tup ds) := id rfl
@[simp] theorem fTuple_t (ds) : fTuple [.tup ds] = some (.tup ds) := id rfl
@[simp] theorem fSum_l (ds) : fSum [.lst ds] = (intsOf ds).map fun ns => .int ns.sum := id rfl
@[simp] theorem fSum_t (ds) : fSum [.tup ds] = (intsOf ds).map fun ns => .int ns.sum := id rfl
@[simp] theorem fAny_l (ds) : fAny [.lst ds] = (blsOf ds).map fun ns => .bl (ns.any id) := id rfl
@[simp] theorem fAll_l (ds) : fAll [.lst ds] = (blsOf ds).map fun ns => .bl (ns.all id) := id rfl
@[simp] theorem fRev_l (ds) : fRev (.lst ds) = some (.lst ds.reverse) := id rfl
@[simp] theorem fIsN_nn : fIsN .non .non = some (.bl true) := id rfl
@[simp] theorem fNotN_nn : fNotN .non .non = some (.bl false) := id rfl
theorem isi_int_int (i) : isiTy "int" (.int i) = some true := by simp only [isiTy]; decide +kernel
theorem isi_bool_int (i) : isiTy "bool" (.int i) = some false := by simp only [isiTy]; decide +kernel
theorem isi_tuple_tup (i) : isiTy "tuple" (.tup i) = some true := by simp only [isiTy]; decide +kernel
end
end FL
namespace FL
open PySem L2
/-! ## lists of numbers as data -/
abbrev zs (l : List Int) : List D := l.map .int
abbrev bls (l : List Bool) : List D := l.map .bl
@[simp] theorem intsOf_ints : ∀ l : List Int, intsOf (zs l) = some l
  | [] => rfl
  | a :: l => by show (intsOf (zs l)).map _ = _; rw [intsOf_ints l]; rfl
@[simp] theorem blsOf_bls : ∀ l : List Bool, blsOf (bls l) = some l
  | [] => rfl
  | a :: l => by show (blsOf (bls l)).map _ = _; rw [blsOf_bls l]; rfl
@[simp] theorem blsOf_comp {α : Type} (f : α → Bool) (l : List α) : blsOf (l.map (D.bl ∘ f)) = some (l.map f) := by
  rw [← List.map_map]; exact blsOf_bls _
@[simp] theorem intsOf_comp {α : Type} (f : α → Int) (l : List α) : intsOf (l.map (D.int ∘ f)) = some (l.map f) := by
  rw [← List.map_map]; exact intsOf_ints _
@[simp] theorem blsOf_fun {α : Type} (f : α → Bool) (l : List α) : blsOf (l.map fun x => D.bl (f x)) = some (l.map f) := blsOf_comp f l
@[simp] theorem intsOf_fun {α : Type} (f : α → Int) (l : List α) : intsOf (l.map fun x => D.int (f x)) = some (l.map f) := intsOf_comp f l
theorem atI_nat {α : Type} (xs : List α) (k : Nat) : atI xs (k : Int) = xs[k]? := by
  unfold atI ixN
  rw [if_pos (by omega)]
  by_cases h : k < xs.length
  · rw [if_pos (by omega)]; simp
  · rw [if_neg (by omega)]; simp; omega
theorem atI_of {α : Type} {xs : List α} {i : Int} {k : Nat} (h : i = (k : Int)) : atI xs i = xs[k]? := by rw [h, atI_nat]
@[simp] theorem atI_0 {α : Type} (xs : List α) : atI xs 0 = xs[0]? := atI_nat xs 0
@[simp] theorem atI_1 {α : Type} (xs : List α) : atI xs 1 = xs[1]? := atI_nat xs 1
@[simp] theorem atI_2 {α : Type} (xs : List α) : atI xs 2 = xs[2]? := atI_nat xs 2
@[simp] theorem atI_3 {α : Type} (xs : List α) : atI xs 3 = xs[3]? := atI_nat xs 3
@[simp] theorem atI_4 {α : Type} (xs : List α) : atI xs 4 = xs[4]? := atI_nat xs 4
@[simp] theorem atI_5 {α : Type} (xs : List α) : atI xs 5 = xs[5]? := atI_nat xs 5
@[simp] theorem atI_6 {α : Type} (xs : List α) : atI xs 6 = xs[6]? := atI_nat xs 6
@[simp] theorem atI_7 {α : Type} (xs : List α) : atI xs 7 = xs[7]? := atI_nat xs 7
@[simp] theorem atI_8 {α : Type} (xs : List α) : atI xs 8 = xs[8]? := atI_nat xs 8
theorem atI_last {α : Type} (xs : List α) (h : xs ≠ []) : atI xs (-1) = some (xs.getLast h) := by
  have hl : 0 < xs.length := List.length_pos_iff.mpr h
  unfold atI ixN
  rw [if_neg (by omega), if_pos (by omega)]
  simp only [Option.bind_some]
  rw [List.getLast_eq_getElem, List.getElem?_eq_getElem (by omega)]
  congr 1
  congr 1
  omega
/-! shapes and equality -/
theorem shp_int (i n) : (D.int i).shp n = true := by cases n <;> rfl
theorem shpA_ints : ∀ (l : List Int) (n : Nat), D.shpA (zs l) n = true
  | [], _ => rfl
  | a :: l, n => by show ((D.int a).shp n && D.shpA (zs l) n) = true; rw [shp_int, shpA_ints l n]; rfl
@[simp] theorem shp_i (i : Int) : shp (.int i) = true := rfl
@[simp] theorem shp_n : shp .non = true := rfl
@[simp] theorem shp_b (b : Bool) : shp (.bl b) = true := rfl
@[simp] theorem shp_ti (l : List Int) : shp (.tup (zs l)) = true := shpA_ints l 63
@[simp] theorem shp_li (l : List Int) : shp (.lst (zs l)) = true := shpA_ints l 63
theorem shpA_tups : ∀ (l : List (List Int)) (n : Nat), D.shpA (l.map fun a => .tup (zs a)) (n + 1) = true
  | [], _ => rfl
  | a :: l, n => by show (D.shpA (zs a) n && D.shpA (l.map fun a => .tup (zs a)) (n + 1)) = true; rw [shpA_ints, shpA_tups l n]; rfl
@[simp] theorem shp_tti (l : List (List Int)) : shp (.tup (l.map fun a => .tup (zs a))) = true := shpA_tups l 62
@[simp] theorem shp_lti (l : List (List Int)) : shp (.lst (l.map fun a => .tup (zs a))) = true := shpA_tups l 62
theorem eqvA_ints : ∀ a b : List Int, D.eqvA (zs a) (zs b) = decide (a = b)
  | [], [] => rfl
  | [], _ :: _ => rfl
  | _ :: _, [] => rfl
  | x :: a, y :: b => by
    show (D.eqv (.int x) (.int y) && D.eqvA (zs a) (zs b)) = _
    rw [eqvA_ints a b]
    show ((x == y) && _) = _
    by_cases h : x = y <;> by_cases h2 : a = b <;> simp [h, h2]
@[simp] theorem eqv_i (a b : Int) : D.eqv (.int a) (.int b) = decide (a = b) := by
  show (a == b) = _
  by_cases h : a = b <;> simp [h]
@[simp] theorem eqv_bb (a b : Bool) : D.eqv (.bl a) (.bl b) = decide (a = b) := by
  show (a == b) = _
  cases a <;> cases b <;> rfl
@[simp] theorem eqv_ti (a b : List Int) : D.eqv (.tup (zs a)) (.tup (zs b)) = decide (a = b) := eqvA_ints a b
@[simp] theorem eqv_li (a b : List Int) : D.eqv (.lst (zs a)) (.lst (zs b)) = decide (a = b) := eqvA_ints a b
theorem eqvA_tups : ∀ a b : List (List Int), D.eqvA (a.map fun a => .tup (zs a)) (b.map fun a => .tup (zs a)) = decide (a = b)
  | [], [] => rfl
  | [], _ :: _ => rfl
  | _ :: _, [] => rfl
  | x :: a, y :: b => by
    show (D.eqv (.tup (zs x)) (.tup (zs y)) && D.eqvA (a.map fun a => .tup (zs a)) (b.map fun a => .tup (zs a))) = _
    rw [eqvA_tups a b, eqv_ti]
    by_cases h : x = y <;> by_cases h2 : a = b <;> simp [h, h2]
@[simp] theorem eqv_tti (a b : List (List Int)) : D.eqv (.tup (a.map fun a => .tup (zs a))) (.tup (b.map fun a => .tup (zs a))) = decide (a = b) := eqvA_tups a b
theorem inD_tups (x : List Int) (l : List (List Int)) : inD (.tup (zs x)) (l.map fun a => .tup (zs a)) = decide (x ∈ l) := by
  unfold inD
  rw [List.any_map]
  induction l with
  | nil => rfl
  | cons a l ih =>
    rw [List.any_cons, ih]
    show (D.eqv (.tup (zs a)) (.tup (zs x)) || _) = _
    rw [eqv_ti]
    by_cases h : a = x <;> by_cases h2 : x ∈ l <;> simp [h, h2, Ne.symm, eq_comm]
theorem inD_ints (x : Int) (l : List Int) : inD (.int x) (zs l) = decide (x ∈ l) := by
  unfold inD
  rw [List.any_map]
  induction l with
  | nil => rfl
  | cons a l ih =>
    rw [List.any_cons, ih]
    show (D.eqv (.int a) (.int x) || _) = _
    rw [eqv_i]
    by_cases h : a = x <;> by_cases h2 : x ∈ l <;> simp [h, h2, Ne.symm, eq_comm]
@[simp] theorem fEq_ii (a b : Int) : fEq (.int a) (.int b) = some (.bl (decide (a = b))) := by unfold fEq; simp
@[simp] theorem fNe_ii (a b : Int) : fNe (.int a) (.int b) = some (.bl (!decide (a = b))) := by unfold fNe; simp
@[simp] theorem fEq_tt (a b : List Int) : fEq (.tup (zs a)) (.tup (zs b)) = some (.bl (decide (a = b))) := by unfold fEq; simp only [shp_ti, eqv_ti]; rfl
@[simp] theorem fNe_tt (a b : List Int) : fNe (.tup (zs a)) (.tup (zs b)) = some (.bl (!decide (a = b))) := by unfold fNe; simp only [shp_ti, eqv_ti]; rfl
@[simp] theorem fNe_ttt (a b : List (List Int)) : fNe (.tup (a.map fun a => .tup (zs a))) (.tup (b.map fun a => .tup (zs a))) = some (.bl (!decide (a = b))) := by unfold fNe; simp only [shp_tti, eqv_tti]; rfl
/-! reckoning bounds -/
theorem okMul_of {i j : Int} {a b : Nat} (ha : i.natAbs < 2 ^ a) (hb : j.natAbs < 2 ^ b) (h : a + b ≤ 134217728) : okMul i j = true := by
  unfold okMul
  have x := PyProof.Rows.intBits_le ha
  have y := PyProof.Rows.intBits_le hb
  exact decide_eq_true (by omega)
theorem okMul_small {i j : Int} (ha : i.natAbs < 2 ^ 128) (hb : j.natAbs < 2 ^ 128) : okMul i j = true := okMul_of ha hb (by decide)
/-- by bounds that omega sees -/
theorem okMul_b {i j : Int} (a1 : -1000000000000000000000000000000 ≤ i) (a2 : i ≤ 1000000000000000000000000000000) (b1 : -1000000000000000000000000000000 ≤ j) (b2 : j ≤ 1000000000000000000000000000000) : okMul i j = true :=
  okMul_of (a := 100) (b := 100) (by omega) (by omega) (by decide)
theorem okDiv_small {i j : Int} (h0 : j ≠ 0) (h : j.natAbs < 1073741824) : okDiv i j = true := by
  unfold okDiv
  rw [PyProof.noPylong_small h]
  simp [h0]
theorem okDiv_wide {i j : Int} (h0 : j ≠ 0) (h : j.natAbs < 2 ^ 9000) : okDiv i j = true := by
  unfold okDiv
  rw [PyProof.noPylong_of_log2 (PySem.Flt.log2_lt_of (by decide) h)]
  simp [h0]
/-! ranges -/
theorem rngD_map (lo : Int) (n : Nat) : rngD lo n = zs ((List.range n).map fun (k : Nat) => lo + (k : Int)) := by unfold rngD zs; rw [List.map_map]; rfl
theorem rng1_enc (n : Nat) (h : n ≤ 1000000000000000000) : rng1Of [.int (n : Int)] = some ((List.range n).map fun (k : Nat) => D.int (k : Int)) := by
  have h2 : -4611686018427387904 ≤ ((n : Nat) : Int) ∧ ((n : Nat) : Int) < 4611686018427387904 := by omega
  simp only [rng1Of]
  rw [if_pos h2, Int.toNat_natCast]
  unfold rngD
  congr 1
  apply List.map_congr_left
  intro k _
  rw [Int.zero_add]
theorem rng1_int {j : Int} (n : Nat) (e : j = (n : Int)) (h : n ≤ 1000000000000000000) : rng1Of [.int j] = some ((List.range n).map fun (k : Nat) => D.int (k : Int)) := by rw [e, rng1_enc n h]
theorem rng2_int {i j : Int} (n : Nat) (hi : -1000000000000000000 ≤ i ∧ i ≤ 1000000000000000000) (hj : -1000000000000000000 ≤ j ∧ j ≤ 1000000000000000000) (e : (j - i).toNat = n) : rng2Of [.int i, .int j] = some ((List.range n).map fun (k : Nat) => D.int (i + (k : Int))) := by
  have h2 : -4611686018427387904 ≤ i ∧ i < 4611686018427387904 ∧ -4611686018427387904 ≤ j ∧ j < 4611686018427387904 := by omega
  simp only [rng2Of]
  rw [if_pos h2, e]; rfl
theorem mRng1_ok {m : En → Res D} {ρ : En} {j : Int} (n : Nat) (e : m ρ = .ok (.int j)) (h : j = (n : Int)) (h2 : n ≤ 1000000000000000000) : mRng1 (mCons m mNil) ρ = .ok ((List.range n).map fun (k : Nat) => D.int (k : Int)) := by
  rw [mRng1_d, mCons_d, e, bind_ok, mNil_d, bind_ok, bind_ok, rng1_int n h h2]; rfl
theorem mRng2_ok {m m' : En → Res D} {ρ : En} {i j : Int} (n : Nat) (e : m ρ = .ok (.int i)) (e' : m' ρ = .ok (.int j)) (hi : -1000000000000000000 ≤ i ∧ i ≤ 1000000000000000000) (hj : -1000000000000000000 ≤ j ∧ j ≤ 1000000000000000000) (h : (j - i).toNat = n) :
    mRng2 (mCons m (mCons m' mNil)) ρ = .ok ((List.range n).map fun (k : Nat) => D.int (i + (k : Int))) := by
  rw [mRng2_d, mCons_d, e, bind_ok, mCons_d, e', bind_ok, mNil_d, bind_ok, bind_ok, bind_ok, rng2_int n hi hj h]; rfl
theorem range_split {n x : Nat} {pre post : List Nat} (e : List.range n = pre ++ x :: post) : x = pre.length ∧ x < n := by
  have h : (List.range n)[pre.length]? = some x := by rw [e]; simp
  have h2 : pre.length < n := by
    have := congrArg List.length e
    simp at this
    omega
  rw [List.getElem?_range h2] at h
  have : pre.length = x := Option.some.inj h
  omega
/-! comprehensions -/
theorem compL_map {α : Type} {bt : D → En → Option En} {mt : En → Res Bool} {me : En → Res D} {ρ : En} {enc : α → D} {f : α → D} : ∀ (xs : List α) (acc : List D), (∀ x ∈ xs, ∃ ρ1, bt (enc x) ρ = some ρ1 ∧ mt ρ1 = .ok true ∧ me ρ1 = .ok (f x)) →
    acc.length + xs.length ≤ 16777215 → compL bt mt me ρ (xs.map enc) acc = .ok (.l (acc ++ xs.map f))
  | [], acc, _, _ => by simp [compL]
  | x :: xs, acc, h, hl => by
    obtain ⟨ρ1, h1, h2, h3⟩ := h x (by simp)
    rw [List.length_cons] at hl
    simp only [List.map_cons, compL, h1, h2, h3]
    rw [if_pos (by omega), compL_map xs (acc ++ [f x]) (fun y hy => h y (by simp [hy])) (by simp; omega)]
    simp
theorem compL_filter {α : Type} {bt : D → En → Option En} {mt : En → Res Bool} {me : En → Res D} {ρ : En} {enc : α → D} {f : α → D} {t : α → Bool} : ∀ (xs : List α) (acc : List D), (∀ x ∈ xs, ∃ ρ1, bt (enc x) ρ = some ρ1 ∧ mt ρ1 = .ok (t x) ∧ (t x = true → me ρ1 = .ok (f x))) →
    acc.length + xs.length ≤ 16777215 → compL bt mt me ρ (xs.map enc) acc = .ok (.l (acc ++ (xs.filter t).map f))
  | [], acc, _, _ => by simp [compL]
  | x :: xs, acc, h, hl => by
    obtain ⟨ρ1, h1, h2, h3⟩ := h x (by simp)
    rw [List.length_cons] at hl
    cases q : t x with
    | false =>
      rw [q] at h2
      simp only [List.map_cons, compL, h1, h2, List.filter_cons, q]
      exact compL_filter xs acc (fun y hy => h y (by simp [hy])) (by omega)
    | true =>
      rw [q] at h2
      simp only [List.map_cons, compL, h1, h2, h3 q, List.filter_cons, q, if_true]
      rw [if_pos (by omega), compL_filter xs (acc ++ [f x]) (fun y hy => h y (by simp [hy])) (by simp; omega)]
      simp
/-! what a run gives -/
def wpr {α : Type} (r : Res α) (P : α → Prop) : Prop := ∃ a, r = .ok a ∧ P a
def wps (r : Option Fl) (P : Fl → Prop) : Prop := ∃ f, r = some f ∧ P f
def PF (P : D → Prop) : Fl → Prop
  | .rt d => P d
  | .nx _ => P .non
  | _ => False
def PL (I : En → Prop) (P : Fl → Prop) : Fl → Prop
  | .nx ρ => I ρ
  | .ct ρ => I ρ
  | .bk ρ => P (.nx ρ)
  | f => P f
def PN (b : En → Option Fl) (P : Fl → Prop) : Fl → Prop
  | .nx ρ => wps (b ρ) P
  | f => P f
theorem wpr_ok {α : Type} {a : α} {P : α → Prop} (h : P a) : wpr (.ok a) P := ⟨a, rfl, h⟩
theorem wps_some {f : Fl} {P : Fl → Prop} (h : P f) : wps (some f) P := ⟨f, rfl, h⟩
theorem wps_n {r : Option Fl} {ρ : En} {P : Fl → Prop} (e : r = some (.nx ρ)) (h : P (.nx ρ)) : wps r P := ⟨_, e, h⟩
theorem wps_r {r : Option Fl} {d : D} {P : Fl → Prop} (e : r = some (.rt d)) (h : P (.rt d)) : wps r P := ⟨_, e, h⟩
theorem wps_of {r r' : Option Fl} {P : Fl → Prop} (e : r = r') (h : wps r' P) : wps r P := by rw [e]; exact h
theorem wpr_of {α : Type} {r r' : Res α} {P : α → Prop} (e : r = r') (h : wpr r' P) : wpr r P := by rw [e]; exact h
theorem wpr_imp {α : Type} {r : Res α} {P Q : α → Prop} (h : wpr r P) (i : ∀ a, P a → Q a) : wpr r Q := by
  obtain ⟨a, e, p⟩ := h
  exact ⟨a, e, i a p⟩
theorem wps_imp {r : Option Fl} {P Q : Fl → Prop} (h : wps r P) (i : ∀ a, P a → Q a) : wps r Q := by
  obtain ⟨a, e, p⟩ := h
  exact ⟨a, e, i a p⟩
theorem wpr_F {n : Nat} {ms : En → Option Fl} {ds : List D} {P : D → Prop} (h : wps (ms (startE n ds)) (PF P)) : wpr (runF n ms ds) P := by
  obtain ⟨f, e, p⟩ := h
  unfold runF
  rw [e]
  cases f with
  | rt d => exact ⟨d, rfl, p⟩
  | nx ρ => exact ⟨.non, rfl, p⟩
  | _ => exact p.elim
theorem wps_seq {a b : En → Option Fl} {ρ : En} {P : Fl → Prop} (h : wps (a ρ) (PN b P)) : wps (sSeq a b ρ) P := by
  obtain ⟨f, e, p⟩ := h
  unfold sSeq
  rw [e]
  cases f with
  | nx ρ1 => exact p
  | _ => exact ⟨_, rfl, p⟩
/-- straight on: the first part is reckoned -/
theorem wps_nx {a b : En → Option Fl} {ρ ρ1 : En} {P : Fl → Prop} (e : a ρ = some (.nx ρ1)) (h : wps (b ρ1) P) : wps (sSeq a b ρ) P := wps_seq ⟨_, e, h⟩
theorem wps_if {c : En → Res Bool} {a b : En → Option Fl} {ρ : En} {P : Fl → Prop} {k : Bool} (e : c ρ = .ok k) (h1 : k = true → wps (a ρ) P) (h2 : k = false → wps (b ρ) P) : wps (sIf c a b ρ) P := by
  unfold sIf
  rw [e]
  cases k with
  | true => exact h1 rfl
  | false => exact h2 rfl
theorem forL_wps {α : Type} {bt : D → En → Option En} {body : En → Option Fl} {enc : α → D} {P : Fl → Prop} {all : List α} (I : List α → En → Prop) (hend : ∀ ρ, I all ρ → P (.nx ρ)) :
    ∀ (xs pre : List α) (ρ : En), all = pre ++ xs → I pre ρ →
    (∀ pre x post ρ, all = pre ++ x :: post → I pre ρ → ∃ ρ1, bt (enc x) ρ = some ρ1 ∧ wps (body ρ1) (PL (I (pre ++ [x])) P)) → wps (forL bt body (xs.map enc) ρ) P
  | [], pre, ρ, ha, h, _ => ⟨_, rfl, hend ρ (by rw [ha, List.append_nil]; exact h)⟩
  | x :: xs, pre, ρ, ha, h, t => by
    obtain ⟨ρ1, h1, f, h2, h3⟩ := t pre x xs ρ ha h
    simp only [List.map_cons, forL, h1, h2]
    cases f with
    | nx ρ2 => exact forL_wps I hend xs (pre ++ [x]) ρ2 (by rw [ha]; simp) h3 t
    | ct ρ2 => exact forL_wps I hend xs (pre ++ [x]) ρ2 (by rw [ha]; simp) h3 t
    | bk ρ2 => exact ⟨_, rfl, h3⟩
    | rt d => exact ⟨_, rfl, h3⟩
    | ex e ρ2 => exact ⟨_, rfl, h3⟩
theorem wps_for {α : Type} {bt : D → En → Option En} {mi : En → Res (List D)} {body : En → Option Fl} {ρ : En} {P : Fl → Prop} (xs : List α) (enc : α → D) (hmi : mi ρ = .ok (xs.map enc)) (I : List α → En → Prop) (h0 : I [] ρ)
    (step : ∀ pre x post ρ, xs = pre ++ x :: post → I pre ρ → ∃ ρ1, bt (enc x) ρ = some ρ1 ∧ wps (body ρ1) (PL (I (pre ++ [x])) P)) (hend : ∀ ρ, I xs ρ → P (.nx ρ)) : wps (sFor bt mi body ρ) P := by
  unfold sFor
  rw [hmi]
  exact forL_wps I hend xs [] ρ (by simp) h0 step
theorem wps_while {c : En → Res Bool} {body : En → Option Fl} {ρ : En} {P : Fl → Prop} (I : En → Prop) (μ : En → Nat) (h0 : I ρ)
    (step : ∀ ρ, I ρ → ∃ b, c ρ = .ok b ∧ (b = true → wps (body ρ) (PL (fun ρ2 => I ρ2 ∧ μ ρ2 < μ ρ) P)) ∧ (b = false → P (.nx ρ))) : wps (sWh c body ρ) P := by
  have key : ∀ (n : Nat) (ρ : En), μ ρ < n → I ρ → ∃ f, whN c body n ρ = some f ∧ P f := by
    intro n
    induction n with
    | zero => intro ρ h; omega
    | succ n ih =>
      intro ρ hn hI
      obtain ⟨b, hb, h1, h2⟩ := step ρ hI
      simp only [whN, hb, runE_ok]
      cases b with
      | false => exact ⟨_, rfl, h2 rfl⟩
      | true =>
        obtain ⟨f, e, p⟩ := h1 rfl
        simp only [if_true, e]
        cases f with
        | nx ρ2 => exact ih ρ2 (by have := p.2; omega) p.1
        | ct ρ2 => exact ih ρ2 (by have := p.2; omega) p.1
        | bk ρ2 => exact ⟨_, rfl, p⟩
        | rt d => exact ⟨_, rfl, p⟩
        | ex e ρ2 => exact ⟨_, rfl, p⟩
  obtain ⟨f, e, p⟩ := key (μ ρ + 1) ρ (by omega) h0
  exact ⟨f, sWh_eq e, p⟩
end FL
namespace Cm
open PySem L2 FL
/-- the body of plain; slots: 0 arrow 1 common 2 number -/
noncomputable def m_plain : En → Option Fl := (sSeq (sSet 1 (mI 0)) (sSeq (sFor (bName 2) (mSeq (mVar 0)) (sSet 1 (mOpA fGcd (mCons (mVar 1) (mCons (mVar 2) mNil))))) (sRet (mOpA fTuple (mCons (mFz (mLc (bName 2) [2] (mSeq (mVar 0)) mYes (mOp2 fFdiv (mVar 2) (mVar 1)))) mNil)))))
noncomputable def d_plain : List D → Res D := runF 3 m_plain
/-- the body of is_zero; slots: 0 arrow 1 number -/
noncomputable def m_is_zero : En → Option Fl := (sSeq (sFor (bName 1) (mSeq (mVar 0)) (sIf (mTst (mOp2 fNe (mVar 1) (mI 0))) (sRet (mBl false)) sNop)) (sRet (mBl true)))
noncomputable def d_is_zero : List D → Res D := runF 2 m_is_zero
/-- the body of ratio; slots: 0 top 1 bottom 2 common -/
noncomputable def m_ratio : En → Option Fl := (sSeq (sIf (mTst (mOp2 fEq (mVar 1) (mI 0))) (sRaise0 1) sNop) (sSeq (sSet 2 (mOpA fGcd (mCons (mVar 0) (mCons (mVar 1) mNil)))) (sSeq (sIf (mTst (mOp2 fLt (mVar 1) (mI 0))) (sSet 2 (mOp1 fNeg (mVar 2))) sNop) (sRet (mTup (mCons (mOp2 fFdiv (mVar 0) (mVar 2)) (mCons (mOp2 fFdiv (mVar 1) (mVar 2)) mNil)))))))
noncomputable def d_ratio : List D → Res D := runF 3 m_ratio
/-- the body of point; slots: 0 numbers 1 bottom 2 common 3 number -/
noncomputable def m_point : En → Option Fl := (sSeq (sIf (mTst (mOp2 fEq (mVar 1) (mI 0))) (sRaise0 1) sNop) (sSeq (sSet 2 (mVar 1)) (sSeq (sFor (bName 3) (mSeq (mVar 0)) (sSet 2 (mOpA fGcd (mCons (mVar 2) (mCons (mVar 3) mNil))))) (sSeq (sSet 2 (mOpA fAbs (mCons (mVar 2) mNil))) (sSeq (sIf (mTst (mOp2 fLt (mVar 1) (mI 0))) (sSet 2 (mOp1 fNeg (mVar 2))) sNop) (sRet (mOp2 fAdd (mOpA fTuple (mCons (mFz (mLc (bName 3) [3] (mSeq (mVar 0)) mYes (mOp2 fFdiv (mVar 3) (mVar 2)))) mNil)) (mTup (mCons (mOp2 fFdiv (mVar 1) (mVar 2)) mNil)))))))))
noncomputable def d_point : List D → Res D := runF 4 m_point
/-- the body of home_point; slots: 0 home -/
noncomputable def m_home_point : En → Option Fl := (sRet (mOp2 fAdd (mOpA fTuple (mCons (mVar 0) mNil)) (mTup (mCons (mI 1) mNil))))
noncomputable def d_home_point : List D → Res D := runF 1 m_home_point
/-- the body of is_point; slots: 0 value 1 dimension 2 common 3 number -/
noncomputable def m_is_point : En → Option Fl := (sSeq (sIf (mtOr (mTst (mOp2 fNe (mOpA fLen (mCons (mVar 0) mNil)) (mOp2 fAdd (mVar 1) (mI 1)))) (mTst (mOp2 fLt (mOp2 fIx (mVar 0) (mOp1 fNeg (mI 1))) (mI 1)))) (sRet (mBl false)) sNop) (sSeq (sSet 2 (mI 0)) (sSeq (sFor (bName 3) (mSeq (mVar 0)) (sSet 2 (mOpA fGcd (mCons (mVar 2) (mCons (mVar 3) mNil))))) (sRet (mOp2 fEq (mVar 2) (mI 1))))))
noncomputable def d_is_point : List D → Res D := runF 4 m_is_point
/-- the body of dimension_of; slots: 0 place -/
noncomputable def m_dimension_of : En → Option Fl := (sRet (mOp2 fSub (mOpA fLen (mCons (mVar 0) mNil)) (mI 1)))
noncomputable def d_dimension_of : List D → Res D := runF 1 m_dimension_of
/-- the body of _law_whole; slots: 0 value -/
noncomputable def m_law_whole : En → Option Fl := (sRet (mAnd (mIsiTy "int" (mVar 0)) (mNot (mIsiTy "bool" (mVar 0)))))
noncomputable def d_law_whole : List D → Res D := runF 1 m_law_whole
/-- the body of _law_cell; slots: 0 script 1 k 2 seed 3 cell -/
noncomputable def m_law_cell : En → Option Fl := (sSeq (sIf (mTst (mOp2 fLt (mVar 1) (mOpA fLen (mCons (mVar 0) mNil)))) (sRet (mOp2 fIx (mVar 0) (mVar 1))) sNop) (sSeq (sSet 2 (mI 17)) (sSeq (sFor (bName 3) (mSeq (mVar 0)) (sSet 2 (mOp2 fMod (mOpA fInt (mCons (mOp2 fAdd (mOp2 fMul (mVar 2) (mI 31)) (mOp2 fMod (mOpA fInt (mCons (mVar 3) mNil)) (mI 1000003))) mNil)) (mI 1000003)))) (sRet (mOp2 fMod (mOpA fInt (mCons (mOp2 fMul (mOp2 fMul (mOp2 fAdd (mVar 2) (mI 7)) (mOp2 fAdd (mVar 1) (mI 3))) (mI 69621)) mNil)) (mI 2147483647))))))
noncomputable def d_law_cell : List D → Res D := runF 4 m_law_cell
/-- the body of _law_digits; slots: 0 cell 1 sizes 2 row 3 rest 4 size 5 seed 6 k 7 twice -/
noncomputable def m_law_digits : En → Option Fl := (sSeq (sOwn 2 (mLst mNil)) (sSeq (sSet 3 (mOpA fInt (mCons (mVar 0) mNil))) (sSeq (sIf (mTst (mOp2 fGe (mVar 3) (mOp2 fPow (mI 10) (mI 18)))) (sSeq (sSet 3 (mOp2 fSub (mVar 3) (mOp2 fPow (mI 10) (mI 18)))) (sSeq (sFor (bName 4) (mSeq (mVar 1)) (sSeq (sApp 2 (mCons (mOp2 fMod (mOpA fInt (mCons (mVar 3) mNil)) (mVar 4)) mNil)) (sSet 3 (mOp2 fFdiv (mOpA fInt (mCons (mVar 3) mNil)) (mVar 4))))) (sFrz 2 (sRet (mVar 2))))) sNop) (sSeq (sSet 5 (mOp2 fMod (mOpA fInt (mCons (mVar 3) mNil)) (mI 2147483629))) (sSeq (sFor (bName 6) (mRng1 (mCons (mOpA fLen (mCons (mVar 1) mNil)) mNil)) (sSeq (sSet 5 (mOp2 fMod (mOpA fInt (mCons (mOp2 fAdd (mOp2 fAdd (mOp2 fMul (mVar 5) (mI 48271)) (mOp2 fMul (mI 974711) (mVar 6))) (mI 12345)) mNil)) (mI 2147483647))) (sSeq (sSet 7 (mOp2 fMod (mOpA fInt (mCons (mOp2 fMul (mVar 5) (mOp2 fAdd (mOp2 fFdiv (mVar 5) (mI 65537)) (mI 3))) mNil)) (mI 2147483629))) (sApp 2 (mCons (mOp2 fMod (mOp2 fFdiv (mVar 7) (mI 19)) (mOp2 fIx (mVar 1) (mVar 6))) mNil))))) (sFrz 2 (sRet (mVar 2))))))))
noncomputable def d_law_digits : List D → Res D := runF 8 m_law_digits
/-- the body of _law_gcd; slots: 0 one 1 other 2 rest -/
noncomputable def m_law_gcd : En → Option Fl := (sSeq (sSet 0 (mOpA fAbs (mCons (mVar 0) mNil))) (sSeq (sSet 1 (mOpA fAbs (mCons (mVar 1) mNil))) (sSeq (sWh (mTst (mOp2 fNe (mVar 1) (mI 0))) (sSeq (sSet 2 (mOp2 fMod (mOpA fInt (mCons (mVar 0) mNil)) (mVar 1))) (sSeq (sSet 0 (mVar 1)) (sSet 1 (mVar 2))))) (sRet (mVar 0)))))
noncomputable def d_law_gcd : List D → Res D := runF 3 m_law_gcd
/-- the body of _law_big; slots: 0 row 1 told -/
noncomputable def m_law_big : En → Option Fl := (sSeq (sSet 1 (mOp2 fIx (mFz (mLst (mCons (mOp2 fMod (mOpA fInt (mCons (mOp2 fIx (mVar 0) (mI 1)) mNil)) (mI 13)) (mCons (mOp2 fMod (mOpA fInt (mCons (mOp2 fIx (mVar 0) (mI 1)) mNil)) (mI 1009)) (mCons (mOpA fInt (mCons (mOp2 fIx (mVar 0) (mI 1)) mNil)) (mCons (mOp2 fAdd (mOp2 fMul (mOpA fInt (mCons (mOp2 fIx (mVar 0) (mI 1)) mNil)) (mOp2 fPow (mI 10) (mI 18))) (mOpA fInt (mCons (mOp2 fIx (mVar 0) (mI 2)) mNil))) mNil)))))) (mOp2 fMod (mOpA fInt (mCons (mOp2 fIx (mVar 0) (mI 0)) mNil)) (mI 4)))) (sSeq (sIf (mTst (mOp2 fEq (mOp2 fMod (mOp2 fFdiv (mOpA fInt (mCons (mOp2 fIx (mVar 0) (mI 0)) mNil)) (mI 4)) (mI 4)) (mI 3))) (sSet 1 (mOp2 fAdd (mOp2 fAdd (mOp2 fMul (mOpA fInt (mCons (mOp2 fIx (mVar 0) (mI 1)) mNil)) (mOp2 fPow (mI 10) (mI 45))) (mOp2 fMul (mOpA fInt (mCons (mOp2 fIx (mVar 0) (mI 2)) mNil)) (mOp2 fPow (mI 10) (mI 22)))) (mOpA fInt (mCons (mOp2 fIx (mVar 0) (mI 3)) mNil)))) sNop) (sSeq (sIf (mTst (mOp2 fEq (mOp2 fMod (mOp2 fFdiv (mOpA fInt (mCons (mOp2 fIx (mVar 0) (mI 0)) mNil)) (mI 16)) (mI 2)) (mI 1))) (sRet (mOp1 fNeg (mVar 1))) sNop) (sRet (mVar 1)))))
noncomputable def d_law_big : List D → Res D := runF 2 m_law_big
/-- the body of middle; slots: 0 one 1 two 2 count 3 numbers 4 k -/
noncomputable def m_middle : En → Option Fl := (sSeq (sSet 2 (mCall 1 d_dimension_of (mCons (mVar 0) mNil))) (sSeq (sSet 3 (mFz (mLc (bName 4) [4] (mRng1 (mCons (mVar 2) mNil)) mYes (mOp2 fAdd (mOp2 fMul (mOp2 fIx (mVar 0) (mVar 4)) (mOp2 fIx (mVar 1) (mOp1 fNeg (mI 1)))) (mOp2 fMul (mOp2 fIx (mVar 1) (mVar 4)) (mOp2 fIx (mVar 0) (mOp1 fNeg (mI 1)))))))) (sRet (mCall 2 d_point (mCons (mVar 3) (mCons (mOp2 fMul (mOp2 fMul (mI 2) (mOp2 fIx (mVar 0) (mOp1 fNeg (mI 1)))) (mOp2 fIx (mVar 1) (mOp1 fNeg (mI 1)))) mNil))))))
noncomputable def d_middle : List D → Res D := runF 5 m_middle
/-- the body of moved; slots: 0 place 1 arrow 2 share 3 count 4 numbers 5 k -/
noncomputable def m_moved : En → Option Fl := (sSeq (sSet 3 (mCall 1 d_dimension_of (mCons (mVar 0) mNil))) (sSeq (sSet 4 (mFz (mLc (bName 5) [5] (mRng1 (mCons (mVar 3) mNil)) mYes (mOp2 fAdd (mOp2 fMul (mOp2 fIx (mVar 0) (mVar 5)) (mOp2 fIx (mVar 2) (mI 1))) (mOp2 fMul (mOp2 fMul (mOp2 fIx (mVar 1) (mVar 5)) (mOp2 fIx (mVar 2) (mI 0))) (mOp2 fIx (mVar 0) (mOp1 fNeg (mI 1)))))))) (sRet (mCall 2 d_point (mCons (mVar 4) (mCons (mOp2 fMul (mOp2 fIx (mVar 0) (mOp1 fNeg (mI 1))) (mOp2 fIx (mVar 2) (mI 1))) mNil))))))
noncomputable def d_moved : List D → Res D := runF 6 m_moved
/-- the body of mixed; slots: 0 places 1 shares 2 count 3 bottom 4 place 5 k 6 numbers 7 share -/
noncomputable def m_mixed : En → Option Fl := (sSeq (sSet 2 (mCall 1 d_dimension_of (mCons (mOp2 fIx (mVar 0) (mI 0)) mNil))) (sSeq (sSet 3 (mI 1)) (sSeq (sFor (bName 4) (mSeq (mVar 0)) (sSet 3 (mOp2 fFdiv (mOp2 fMul (mVar 3) (mOp2 fIx (mVar 4) (mOp1 fNeg (mI 1)))) (mOpA fGcd (mCons (mVar 3) (mCons (mOp2 fIx (mVar 4) (mOp1 fNeg (mI 1))) mNil)))))) (sSeq (sOwn 6 (mLc (bName 5) [5] (mRng1 (mCons (mVar 2) mNil)) mYes (mI 0))) (sSeq (sFor (bTup [4, 7]) (mZip (mCons (mVar 0) (mCons (mVar 1) mNil))) (sFor (bName 5) (mRng1 (mCons (mVar 2) mNil)) (sIdx 6 (mVar 5) (mOp2 fAdd (mIxO 6 (mVar 5)) (mOp2 fMul (mOp2 fMul (mVar 7) (mOp2 fIx (mVar 4) (mVar 5))) (mOp2 fFdiv (mVar 3) (mOp2 fIx (mVar 4) (mOp1 fNeg (mI 1))))))))) (sFrz 6 (sRet (mCall 2 d_point (mCons (mVar 6) (mCons (mOp2 fMul (mVar 3) (mOpA fSum (mCons (mVar 1) mNil))) mNil))))))))))
noncomputable def d_mixed : List D → Res D := runF 8 m_mixed
/-- the body of product; slots: 0 arrow 1 place 2 k -/
noncomputable def m_product : En → Option Fl := (sRet (mCall 2 d_ratio (mCons (mOpA fSum (mCons (mFz (mLc (bName 2) [2] (mRng1 (mCons (mOpA fLen (mCons (mVar 0) mNil)) mNil)) mYes (mOp2 fMul (mOp2 fIx (mVar 0) (mVar 2)) (mOp2 fIx (mVar 1) (mVar 2))))) mNil)) (mCons (mOp2 fIx (mVar 1) (mOp1 fNeg (mI 1))) mNil))))
noncomputable def d_product : List D → Res D := runF 3 m_product
/-- the body of difference; slots: 0 one 1 two 2 k -/
noncomputable def m_difference : En → Option Fl := (sRet (mOpA fTuple (mCons (mFz (mLc (bName 2) [2] (mRng1 (mCons (mCall 1 d_dimension_of (mCons (mVar 0) mNil)) mNil)) mYes (mOp2 fSub (mOp2 fMul (mOp2 fIx (mVar 1) (mVar 2)) (mOp2 fIx (mVar 0) (mOp1 fNeg (mI 1)))) (mOp2 fMul (mOp2 fIx (mVar 0) (mVar 2)) (mOp2 fIx (mVar 1) (mOp1 fNeg (mI 1))))))) mNil)))
noncomputable def d_difference : List D → Res D := runF 3 m_difference
/-- the body of _law_reduced; slots: 0 numbers 1 bottom 2 common 3 number -/
noncomputable def m_law_reduced : En → Option Fl := (sSeq (sSet 2 (mVar 1)) (sSeq (sFor (bName 3) (mSeq (mVar 0)) (sSet 2 (mCall 2 d_law_gcd (mCons (mVar 2) (mCons (mVar 3) mNil))))) (sRet (mOp2 fAdd (mOpA fTuple (mCons (mFz (mLc (bName 3) [3] (mSeq (mVar 0)) mYes (mOp2 fFdiv (mVar 3) (mVar 2)))) mNil)) (mTup (mCons (mOp2 fFdiv (mVar 1) (mVar 2)) mNil))))))
noncomputable def d_law_reduced : List D → Res D := runF 4 m_law_reduced
/-- the body of _law_fraction; slots: 0 over_line 1 under_line 2 common -/
noncomputable def m_law_fraction : En → Option Fl := (sSeq (sSet 2 (mCall 2 d_law_gcd (mCons (mVar 0) (mCons (mVar 1) mNil)))) (sSeq (sIf (mTst (mOp2 fLt (mVar 1) (mI 0))) (sSet 2 (mOp1 fNeg (mVar 2))) sNop) (sRet (mTup (mCons (mOp2 fFdiv (mVar 0) (mVar 2)) (mCons (mOp2 fFdiv (mVar 1) (mVar 2)) mNil))))))
noncomputable def d_law_fraction : List D → Res D := runF 3 m_law_fraction
/-- the body of _law_is_place; slots: 0 value 1 size 2 common 3 number -/
noncomputable def m_law_is_place : En → Option Fl := (sSeq (sIf (mtOr (mtNot (mTru (mIsiTy "tuple" (mVar 0)))) (mTst (mOp2 fNe (mOpA fLen (mCons (mVar 0) mNil)) (mOp2 fAdd (mVar 1) (mI 1))))) (sRet (mBl false)) sNop) (sSeq (sSet 2 (mI 0)) (sSeq (sFor (bName 3) (mSeq (mVar 0)) (sSeq (sIf (mtNot (mTru (mCall 1 d_law_whole (mCons (mVar 3) mNil)))) (sRet (mBl false)) sNop) (sSet 2 (mCall 2 d_law_gcd (mCons (mVar 2) (mCons (mVar 3) mNil)))))) (sRet (mAnd (mOp2 fGe (mOp2 fIx (mVar 0) (mVar 1)) (mI 1)) (mOp2 fEq (mVar 2) (mI 1)))))))
noncomputable def d_law_is_place : List D → Res D := runF 4 m_law_is_place
/-- the body of _law_short; slots: 0 arrow 1 common 2 number -/
noncomputable def m_law_short : En → Option Fl := (sSeq (sSet 1 (mI 0)) (sSeq (sFor (bName 2) (mSeq (mVar 0)) (sSet 1 (mCall 2 d_law_gcd (mCons (mVar 1) (mCons (mVar 2) mNil))))) (sRet (mOpA fTuple (mCons (mFz (mLc (bName 2) [2] (mSeq (mVar 0)) mYes (mOp2 fFdiv (mVar 2) (mVar 1)))) mNil)))))
noncomputable def d_law_short : List D → Res D := runF 3 m_law_short
/-- the body of _law_drawn; slots: 0 cell 1 size 2 row 3 bottom 4 numbers 5 k 6 made -/
noncomputable def m_law_drawn : En → Option Fl := (sSeq (sSet 2 (mCall 2 d_law_digits (mCons (mVar 0) (mCons (mOp2 fAdd (mOp2 fAdd (mOp2 fAdd (mOp2 fAdd (mOp2 fAdd (mFz (mLst (mCons (mI 6) (mCons (mI 96) mNil)))) (mOp2 fMul (mFz (mLst (mCons (mOp2 fPow (mI 10) (mI 9)) mNil))) (mI 3))) (mFz (mLst (mCons (mI 96) mNil)))) (mOp2 fMul (mFz (mLst (mCons (mOp2 fPow (mI 10) (mI 9)) mNil))) (mI 3))) (mFz (mLst (mCons (mI 96) mNil)))) (mOp2 fMul (mFz (mLst (mCons (mOp2 fPow (mI 10) (mI 9)) mNil))) (mI 3))) mNil)))) (sSeq (sSet 3 (mOp2 fIx (mFz (mLst (mCons (mOp2 fAdd (mI 1) (mOp2 fMod (mOpA fInt (mCons (mOp2 fIx (mVar 2) (mI 2)) mNil)) (mI 12))) (mCons (mOp2 fAdd (mI 1) (mOp2 fMod (mOpA fInt (mCons (mOp2 fIx (mVar 2) (mI 2)) mNil)) (mI 12))) (mCons (mI 1) (mCons (mOp2 fAdd (mI 1) (mOpA fInt (mCons (mOp2 fIx (mVar 2) (mI 2)) mNil))) (mCons (mI 2) (mCons (mI 6) mNil)))))))) (mOp2 fIx (mVar 2) (mI 0)))) (sSeq (sOwn 4 (mLst mNil)) (sSeq (sFor (bName 5) (mRng1 (mCons (mVar 1) mNil)) (sSeq (sSet 6 (mCall 1 d_law_big (mCons (mSl (mVar 2) (mPart (mOp2 fAdd (mI 1) (mOp2 fMul (mI 4) (mVar 5)))) (mPart (mOp2 fAdd (mI 5) (mOp2 fMul (mI 4) (mVar 5))))) mNil))) (sSeq (sIf (mTst (mOp2 fLt (mOp2 fIx (mVar 2) (mI 0)) (mI 4))) (sSet 6 (mOp2 fSub (mOp2 fMod (mOpA fInt (mCons (mOp2 fIx (mVar 2) (mOp2 fAdd (mI 2) (mOp2 fMul (mI 4) (mVar 5)))) mNil)) (mI 4001)) (mI 2000))) sNop) (sApp 4 (mCons (mVar 6) mNil))))) (sFrz 4 (sRet (mFz (mLst (mCons (mVar 4) (mCons (mVar 3) mNil))))))))))
noncomputable def d_law_drawn : List D → Res D := runF 7 m_law_drawn
/-- the body of _law_no_point; slots: 0 numbers 1 wrong -/
noncomputable def m_law_no_point : En → Option Fl := (sSeq (sTry 1 [(1, true)] (sExp (mCall 2 d_point (mCons (mVar 0) (mCons (mI 0) mNil)))) (sRet (mIsX [(1, true)] (mVar 1)))) (sRet (mBl false)))
noncomputable def d_law_no_point : List D → Res D := runF 2 m_law_no_point
/-- the body of _law_near; slots: 0 place 1 size 2 row 3 spoilt 4 number 5 other -/
noncomputable def m_law_near : En → Option Fl := (sSeq (sIf (mtOr (mTst (mOp2 fNotB (mCall 2 d_is_point (mCons (mVar 0) (mCons (mVar 1) mNil))) (mBl true))) (mTst (mOp2 fNotB (mCall 2 d_is_point (mCons (mVar 0) (mCons (mOp2 fAdd (mVar 1) (mI 1)) mNil))) (mBl false)))) (sRet (mBl false)) sNop) (sSeq (sSet 3 (mFz (mLst (mCons (mOpA fTuple (mCons (mFz (mLc (bName 4) [4] (mSeq (mVar 0)) mYes (mOp2 fMul (mVar 4) (mOp2 fAdd (mI 2) (mOp2 fIx (mVar 2) (mI 0)))))) mNil)) (mCons (mOp2 fAdd (mSl (mVar 0) mNoPart (mPart (mVar 1))) (mTup (mCons (mOp1 fNeg (mOp2 fIx (mVar 0) (mVar 1))) mNil))) (mCons (mOp2 fAdd (mVar 0) (mTup (mCons (mI 1) mNil))) mNil)))))) (sSeq (sSet 3 (mOp2 fAdd (mVar 3) (mFz (mLst (mCons (mOp2 fAdd (mSl (mVar 0) mNoPart (mPart (mVar 1))) (mTup (mCons (mI 0) mNil))) (mCons (mOp2 fAdd (mOp2 fMul (mTup (mCons (mI 0) mNil)) (mVar 1)) (mTup (mCons (mOp2 fAdd (mI 2) (mOp2 fIx (mVar 2) (mI 0))) mNil))) mNil)))))) (sSeq (sIf (mtAnd (mTst (mOp2 fGt (mVar 1) (mI 1))) (mTst (mOp2 fNotB (mCall 2 d_is_point (mCons (mSl (mVar 0) (mPart (mI 1)) mNoPart) (mCons (mVar 1) mNil))) (mBl false)))) (sRet (mBl false)) sNop) (sRet (mNot (mOpA fAny (mCons (mFz (mLc (bName 5) [5] (mSeq (mVar 3)) mYes (mOp2 fNotB (mCall 2 d_is_point (mCons (mVar 5) (mCons (mVar 1) mNil))) (mBl false)))) mNil))))))))
noncomputable def d_law_near : List D → Res D := runF 6 m_law_near
/-- the body of squared; slots: 0 one 1 two 2 bottom 3 number -/
noncomputable def m_squared : En → Option Fl := (sSeq (sSet 2 (mOp2 fMul (mOp2 fIx (mVar 0) (mOp1 fNeg (mI 1))) (mOp2 fIx (mVar 1) (mOp1 fNeg (mI 1))))) (sRet (mCall 2 d_ratio (mCons (mOpA fSum (mCons (mFz (mLc (bName 3) [3] (mSeq (mCall 2 d_difference (mCons (mVar 0) (mCons (mVar 1) mNil)))) mYes (mOp2 fMul (mVar 3) (mVar 3)))) mNil)) (mCons (mOp2 fMul (mVar 2) (mVar 2)) mNil)))))
noncomputable def d_squared : List D → Res D := runF 4 m_squared
/-- the body of compare_points; slots: 0 one 1 two 2 number -/
noncomputable def m_compare_points : En → Option Fl := (sSeq (sFor (bName 2) (mSeq (mCall 2 d_difference (mCons (mVar 0) (mCons (mVar 1) mNil)))) (sSeq (sIf (mTst (mOp2 fGt (mVar 2) (mI 0))) (sRet (mOp1 fNeg (mI 1))) sNop) (sIf (mTst (mOp2 fLt (mVar 2) (mI 0))) (sRet (mI 1)) sNop))) (sRet (mI 0)))
noncomputable def d_compare_points : List D → Res D := runF 3 m_compare_points
/-- the body of direction; slots: 0 one 1 two 2 numbers -/
noncomputable def m_direction : En → Option Fl := (sSeq (sSet 2 (mCall 2 d_difference (mCons (mVar 0) (mCons (mVar 1) mNil)))) (sSeq (sIf (mTru (mCall 1 d_is_zero (mCons (mVar 2) mNil))) (sRet mNone) sNop) (sRet (mCall 1 d_plain (mCons (mVar 2) mNil)))))
noncomputable def d_direction : List D → Res D := runF 3 m_direction
/-- the body of _law_along; slots: 0 arrow 1 place 2 k -/
noncomputable def m_law_along : En → Option Fl := (sRet (mCall 2 d_law_fraction (mCons (mOpA fSum (mCons (mFz (mLc (bName 2) [2] (mRng1 (mCons (mOpA fLen (mCons (mVar 0) mNil)) mNil)) mYes (mOp2 fMul (mOp2 fIx (mVar 0) (mVar 2)) (mOp2 fIx (mVar 1) (mVar 2))))) mNil)) (mCons (mOp2 fIx (mVar 1) (mOpA fLen (mCons (mVar 0) mNil))) mNil))))
noncomputable def d_law_along : List D → Res D := runF 3 m_law_along
/-- the body of _law_square; slots: 0 one 1 other 2 size 3 steps 4 k 5 step -/
noncomputable def m_law_square : En → Option Fl := (sSeq (sSet 2 (mOp2 fSub (mOpA fLen (mCons (mVar 0) mNil)) (mI 1))) (sSeq (sSet 3 (mFz (mLc (bName 4) [4] (mRng1 (mCons (mVar 2) mNil)) mYes (mOp2 fSub (mOp2 fMul (mOp2 fIx (mVar 0) (mVar 4)) (mOp2 fIx (mVar 1) (mVar 2))) (mOp2 fMul (mOp2 fIx (mVar 1) (mVar 4)) (mOp2 fIx (mVar 0) (mVar 2))))))) (sRet (mCall 2 d_law_fraction (mCons (mOpA fSum (mCons (mFz (mLc (bName 5) [5] (mSeq (mVar 3)) mYes (mOp2 fMul (mVar 5) (mVar 5)))) mNil)) (mCons (mOp2 fMul (mOp2 fMul (mOp2 fMul (mOp2 fIx (mVar 0) (mVar 2)) (mOp2 fIx (mVar 0) (mVar 2))) (mOp2 fIx (mVar 1) (mVar 2))) (mOp2 fIx (mVar 1) (mVar 2))) mNil))))))
noncomputable def d_law_square : List D → Res D := runF 6 m_law_square
/-- the body of _law_signed; slots: 0 numbers 1 bottom 2 number -/
noncomputable def m_law_signed : En → Option Fl := (sSeq (sIf (mTst (mOp2 fLt (mVar 1) (mI 0))) (sRet (mCall 2 d_law_reduced (mCons (mFz (mLc (bName 2) [2] (mSeq (mVar 0)) mYes (mOp1 fNeg (mVar 2)))) (mCons (mOp1 fNeg (mVar 1)) mNil)))) sNop) (sRet (mCall 2 d_law_reduced (mCons (mFz (mList (mVar 0))) (mCons (mVar 1) mNil)))))
noncomputable def d_law_signed : List D → Res D := runF 3 m_law_signed
/-- the body of _law_mean; slots: 0 places 1 shares 2 size 3 bottom 4 place 5 numbers 6 k 7 total 8 j -/
noncomputable def m_law_mean : En → Option Fl := (sSeq (sSet 2 (mOp2 fSub (mOpA fLen (mCons (mOp2 fIx (mVar 0) (mI 0)) mNil)) (mI 1))) (sSeq (sSet 3 (mI 1)) (sSeq (sFor (bName 4) (mSeq (mVar 0)) (sSet 3 (mOp2 fMul (mVar 3) (mOp2 fIx (mVar 4) (mVar 2))))) (sSeq (sOwn 5 (mLst mNil)) (sSeq (sFor (bName 6) (mRng1 (mCons (mVar 2) mNil)) (sSeq (sSet 7 (mI 0)) (sSeq (sFor (bName 8) (mRng1 (mCons (mOpA fLen (mCons (mVar 0) mNil)) mNil)) (sSet 7 (mOp2 fAdd (mVar 7) (mOp2 fMul (mOp2 fMul (mOp2 fIx (mVar 1) (mVar 8)) (mOp2 fIx (mOp2 fIx (mVar 0) (mVar 8)) (mVar 6))) (mOp2 fFdiv (mVar 3) (mOp2 fIx (mOp2 fIx (mVar 0) (mVar 8)) (mVar 2))))))) (sApp 5 (mCons (mVar 7) mNil))))) (sFrz 5 (sRet (mCall 2 d_law_reduced (mCons (mVar 5) (mCons (mOp2 fMul (mVar 3) (mOpA fSum (mCons (mVar 1) mNil))) mNil))))))))))
noncomputable def d_law_mean : List D → Res D := runF 9 m_law_mean
/-- the body of _law_two; slots: 0 one 1 other 2 arrow 3 share 4 size 5 numbers 6 steps 7 sign 8 step 9 made 10 found 11 k 12 number -/
noncomputable def m_law_two : En → Option Fl := (sSeq (sSet 4 (mOp2 fSub (mOpA fLen (mCons (mVar 0) mNil)) (mI 1))) (sSeq (sIf (mtOr (mTst (mOp2 fNe (mCall 2 d_middle (mCons (mVar 0) (mCons (mVar 1) mNil))) (mCall 2 d_law_mean (mCons (mFz (mLst (mCons (mVar 0) (mCons (mVar 1) mNil)))) (mCons (mFz (mLst (mCons (mI 1) (mCons (mI 1) mNil)))) mNil))))) (mTst (mOp2 fNe (mCall 2 d_squared (mCons (mVar 0) (mCons (mVar 1) mNil))) (mCall 2 d_law_square (mCons (mVar 0) (mCons (mVar 1) mNil)))))) (sRet (mBl false)) sNop) (sSeq (sIf (mTst (mOp2 fNe (mCall 2 d_product (mCons (mVar 2) (mCons (mVar 0) mNil))) (mCall 2 d_law_along (mCons (mVar 2) (mCons (mVar 0) mNil))))) (sRet (mBl false)) sNop) (sSeq (sSet 5 (mFz (mLc (bName 11) [11] (mRng1 (mCons (mVar 4) mNil)) mYes (mOp2 fAdd (mOp2 fMul (mOp2 fIx (mVar 0) (mVar 11)) (mOp2 fIx (mVar 3) (mI 1))) (mOp2 fMul (mOp2 fMul (mOp2 fIx (mVar 2) (mVar 11)) (mOp2 fIx (mVar 3) (mI 0))) (mOp2 fIx (mVar 0) (mVar 4))))))) (sSeq (sIf (mTst (mOp2 fNe (mCall 3 d_moved (mCons (mVar 0) (mCons (mVar 2) (mCons (mVar 3) mNil)))) (mCall 2 d_law_reduced (mCons (mVar 5) (mCons (mOp2 fMul (mOp2 fIx (mVar 0) (mVar 4)) (mOp2 fIx (mVar 3) (mI 1))) mNil))))) (sRet (mBl false)) sNop) (sSeq (sSet 6 (mOpA fTuple (mCons (mFz (mLc (bName 11) [11] (mRng1 (mCons (mVar 4) mNil)) mYes (mOp2 fSub (mOp2 fMul (mOp2 fIx (mVar 1) (mVar 11)) (mOp2 fIx (mVar 0) (mVar 4))) (mOp2 fMul (mOp2 fIx (mVar 0) (mVar 11)) (mOp2 fIx (mVar 1) (mVar 4)))))) mNil))) (sSeq (sSet 7 (mI 0)) (sSeq (sFor (bName 8) (mSeq (mVar 6)) (sIf (mTst (mOp2 fEq (mVar 7) (mI 0))) (sSet 7 (mOp2 fSub (mOpA fInt (mCons (mOp2 fLt (mVar 8) (mI 0)) mNil)) (mOpA fInt (mCons (mOp2 fGt (mVar 8) (mI 0)) mNil)))) sNop)) (sSeq (sSet 9 (mCall 2 d_compare_points (mCons (mVar 0) (mCons (mVar 1) mNil)))) (sSeq (sIf (mtOr (mtNot (mTru (mCall 1 d_law_whole (mCons (mVar 9) mNil)))) (mTst (mOp2 fNe (mVar 9) (mVar 7)))) (sRet (mBl false)) sNop) (sSeq (sSet 10 (mCall 2 d_direction (mCons (mVar 0) (mCons (mVar 1) mNil)))) (sSeq (sIf (mTst (mOp2 fEq (mVar 7) (mI 0))) (sRet (mOp2 fIsN (mVar 10) mNone)) sNop) (sRet (mAnd (mIsiTy "tuple" (mVar 10)) (mAnd (mOp2 fEq (mVar 10) (mCall 1 d_law_short (mCons (mVar 6) mNil))) (mOpA fAll (mCons (mFz (mLc (bName 12) [12] (mSeq (mVar 10)) mYes (mCall 1 d_law_whole (mCons (mVar 12) mNil)))) mNil)))))))))))))))))
noncomputable def d_law_two : List D → Res D := runF 13 m_law_two
/-- the body of law; slots: 0 script 1 shape 2 size 3 row 4 k 5 arrow 6 share 7 home 8 told 9 drawn 10 bottom 11 made 12 shares 13 j 14 number -/
noncomputable def m_law : En → Option Fl := (sSeq (sSet 1 (mCall 2 d_law_digits (mCons (mCall 2 d_law_cell (mCons (mVar 0) (mCons (mI 0) mNil))) (mCons (mFz (mLst (mCons (mI 3) (mCons (mI 7) (mCons (mI 5) (mCons (mI 61) (mCons (mI 61) (mCons (mI 61) mNil)))))))) mNil)))) (sSeq (sSet 2 (mOp2 fAdd (mI 1) (mOp2 fIx (mVar 1) (mI 0)))) (sSeq (sSet 3 (mCall 2 d_law_digits (mCons (mCall 2 d_law_cell (mCons (mVar 0) (mCons (mI 1) mNil))) (mCons (mOp2 fAdd (mFz (mLst (mCons (mI 101) (mCons (mI 101) (mCons (mI 101) (mCons (mI 2000) (mCons (mI 30) mNil))))))) (mOp2 fMul (mFz (mLst (mCons (mI 10) mNil))) (mI 4))) mNil)))) (sSeq (sSet 5 (mOpA fTuple (mCons (mFz (mLc (bName 4) [4] (mRng1 (mCons (mVar 2) mNil)) mYes (mOp2 fSub (mOpA fInt (mCons (mOp2 fIx (mVar 3) (mVar 4)) mNil)) (mI 50)))) mNil))) (sSeq (sIf (mtNot (mTru (mOpA fAny (mCons (mFz (mLc (bName 14) [14] (mSeq (mVar 5)) mYes (mOp2 fNe (mVar 14) (mI 0)))) mNil)))) (sSet 5 (mOp2 fMul (mTup (mCons (mI 1) mNil)) (mVar 2))) sNop) (sSeq (sSet 6 (mCall 2 d_law_fraction (mCons (mOp2 fSub (mOpA fInt (mCons (mOp2 fIx (mVar 3) (mI 3)) mNil)) (mI 1000)) (mCons (mOp2 fAdd (mI 1) (mOpA fInt (mCons (mOp2 fIx (mVar 3) (mI 4)) mNil))) mNil)))) (sSeq (sSet 7 (mOpA fTuple (mCons (mFz (mLc (bName 4) [4] (mRng1 (mCons (mVar 2) mNil)) mYes (mOp2 fSub (mOpA fInt (mCons (mOp2 fIx (mVar 1) (mOp2 fAdd (mI 3) (mVar 4))) mNil)) (mI 30)))) mNil))) (sSeq (sOwn 8 (mLst (mCons (mOp2 fAdd (mVar 7) (mTup (mCons (mI 1) mNil))) mNil))) (sSeq (sIf (mTst (mOp2 fNe (mCall 1 d_home_point (mCons (mVar 7) mNil)) (mOp2 fAdd (mVar 7) (mTup (mCons (mI 1) mNil))))) (sRet (mBl false)) sNop) (sSeq (sFor (bName 4) (mRng1 (mCons (mI 3) mNil)) (sSeq (sSet 9 (mCall 2 d_law_drawn (mCons (mCall 2 d_law_cell (mCons (mVar 0) (mCons (mOp2 fAdd (mI 2) (mVar 4)) mNil))) (mCons (mVar 2) mNil)))) (sSeq (sSet 10 (mOp2 fMul (mOp2 fIx (mFz (mLst (mCons (mI 1) (mCons (mI 1) (mCons (mOp1 fNeg (mI 1)) mNil))))) (mOp2 fMod (mOpA fInt (mCons (mOp2 fAdd (mOp2 fIx (mVar 1) (mI 1)) (mVar 4)) mNil)) (mI 3))) (mOp2 fIx (mVar 9) (mI 1)))) (sSeq (sSet 11 (mCall 2 d_point (mCons (mOpA fTuple (mCons (mOp2 fIx (mVar 9) (mI 0)) mNil)) (mCons (mVar 10) mNil)))) (sSeq (sIf (mtOr (mtNot (mTru (mCall 2 d_law_is_place (mCons (mVar 11) (mCons (mVar 2) mNil))))) (mtOr (mTst (mOp2 fNe (mVar 11) (mCall 2 d_law_signed (mCons (mOp2 fIx (mVar 9) (mI 0)) (mCons (mVar 10) mNil))))) (mtNot (mTru (mCall 1 d_law_no_point (mCons (mOpA fTuple (mCons (mOp2 fIx (mVar 9) (mI 0)) mNil)) mNil)))))) (sRet (mBl false)) sNop) (sApp 8 (mCons (mVar 11) mNil))))))) (sSeq (sApp 8 (mCons (mCall 2 d_point (mCons (mOpA fTuple (mCons (mFz (mLc (bName 14) [14] (mSeq (mSl (mIxO 8 (mI 1)) mNoPart (mPart (mVar 2)))) mYes (mOp2 fMul (mVar 14) (mI 3)))) mNil)) (mCons (mOp2 fMul (mOp2 fIx (mIxO 8 (mI 1)) (mVar 2)) (mI 3)) mNil))) mNil)) (sSeq (sSet 12 (mOpA fTuple (mCons (mFz (mLc (bName 4) [4] (mRng1 (mCons (mI 4) mNil)) mYes (mOpA fInt (mCons (mOp2 fIx (mVar 3) (mOp2 fAdd (mI 5) (mVar 4))) mNil)))) mNil))) (sSeq (sIf (mTst (mOp2 fEq (mOpA fSum (mCons (mVar 12) mNil)) (mI 0))) (sSet 12 (mTup (mCons (mI 0) (mCons (mI 2) (mCons (mI 0) (mCons (mI 1) mNil)))))) sNop) (sSeq (sFrz 8 (sIf (mtOr (mTst (mOp2 fNe (mCall 2 d_mixed (mCons (mOpA fTuple (mCons (mSl (mVar 8) mNoPart (mPart (mI 4))) mNil)) (mCons (mVar 12) mNil))) (mCall 2 d_law_mean (mCons (mSl (mVar 8) mNoPart (mPart (mI 4))) (mCons (mVar 12) mNil))))) (mTst (mOp2 fNe (mCall 2 d_mixed (mCons (mTup (mCons (mOp2 fIx (mVar 8) (mI 1)) mNil)) (mCons (mTup (mCons (mI 3) mNil)) mNil))) (mOp2 fIx (mVar 8) (mI 1))))) (sRet (mBl false)) sNop)) (sSeq (sFor (bName 4) (mRng1 (mCons (mOpA fLen (mCons (mVar 8) mNil)) mNil)) (sSeq (sIf (mtNot (mTru (mCall 3 d_law_near (mCons (mOp2 fIx (mVar 8) (mVar 4)) (mCons (mVar 2) (mCons (mSl (mVar 1) (mPart (mI 2)) mNoPart) mNil)))))) (sRet (mBl false)) sNop) (sFor (bName 13) (mRng1 (mCons (mOpA fLen (mCons (mVar 8) mNil)) mNil)) (sIf (mtNot (mTru (mCall 4 d_law_two (mCons (mOp2 fIx (mVar 8) (mVar 4)) (mCons (mOp2 fIx (mVar 8) (mVar 13)) (mCons (mVar 5) (mCons (mVar 6) mNil))))))) (sRet (mBl false)) sNop)))) (sRet (mBl true)))))))))))))))))
noncomputable def d_law : List D → Res D := runF 15 m_law
end Cm
namespace Cm
open PySem FL
theorem whole_int (i : Int) : d_law_whole [.int i] = .ok (.bl true) := by
  simp [d_law_whole, m_law_whole, isi_int_int, isi_bool_int]
theorem cell_ok (ns : List Int) (k : Int) (h0 : 0 ≤ k) (h1 : k ≤ 1000) : wpr (d_law_cell [.scr ns, .int k]) fun d => ∃ c, d = .int c := by
  obtain ⟨j, rfl⟩ := Int.eq_ofNat_of_zero_le h0
  refine wpr_F (wps_seq ?_)
  by_cases h : j < ns.length
  · refine wps_if (k := true) (by simp [h]) (fun _ => ?_) (fun q => nomatch q)
    simp [atI_nat, h]
    exact wps_some ⟨_, rfl⟩
  · refine wps_if (k := false) (by simp; omega) (fun q => nomatch q) (fun _ => ?_)
    refine wps_some (wps_nx rfl (wps_seq ?_))
    refine wps_for ns .int rfl (fun _ ρ => ∃ s c, ρ = [.im (.scr ns), .im (.int j), .im (.int s), c] ∧ 0 ≤ s ∧ s < 1000003) ⟨17, .un, rfl, by decide, by decide⟩ ?_ ?_
    · rintro pre x post ρ e ⟨s, c, rfl, hs0, hs1⟩
      have hm : okMul s 31 = true := okMul_b (by omega) (by omega) (by omega) (by omega)
      refine ⟨_, rfl, ?_⟩
      refine wps_n (by simp [hm]; rfl) ?_
      refine ⟨_, _, rfl, ?_, ?_⟩
      · rw [Int.fmod_eq_emod_of_nonneg _ (by decide)]; omega
      · rw [Int.fmod_eq_emod_of_nonneg _ (by decide)]; omega
    · rintro ρ ⟨s, c, rfl, hs0, hs1⟩
      have hm1 : okMul (s + 7) ((j : Int) + 3) = true := okMul_b (by omega) (by omega) (by omega) (by omega)
      have hb := Int.mul_le_mul (a := s + 7) (b := (j : Int) + 3) (c := 2000000) (d := 2000) (by omega) (by omega) (by omega) (by omega)
      have hb0 : 0 ≤ (s + 7) * ((j : Int) + 3) := Int.mul_nonneg (by omega) (by omega)
      have hm2 : okMul ((s + 7) * ((j : Int) + 3)) 69621 = true := okMul_b (by omega) (by omega) (by omega) (by omega)
      exact wps_r (by simp [hm1, hm2]; rfl) ⟨_, rfl⟩
end Cm
namespace Cm
open PySem FL
/-- digits below their sizes -/
def Dig (sizes row : List Int) : Prop := row.length = sizes.length ∧ ∀ (i : Nat) (r s : Int), row[i]? = some r → sizes[i]? = some s → 0 ≤ r ∧ r < s
theorem Dig.snoc {sizes row : List Int} {s r : Int} (h : Dig sizes row) (h0 : 0 ≤ r) (h1 : r < s) : Dig (sizes ++ [s]) (row ++ [r]) := by
  refine ⟨by simp [h.1], fun i x y e1 e2 => ?_⟩
  by_cases hi : i < row.length
  · rw [List.getElem?_append_left hi] at e1
    rw [List.getElem?_append_left (by rw [← h.1]; exact hi)] at e2
    exact h.2 i x y e1 e2
  · rw [List.getElem?_append_right (by omega)] at e1
    rw [List.getElem?_append_right (by rw [← h.1]; omega)] at e2
    have : i - row.length = 0 := by
      cases q : i - row.length with
      | zero => rfl
      | succ k => rw [q] at e1; simp at e1
    rw [this] at e1
    rw [← h.1, this] at e2
    simp at e1 e2
    subst e1 e2
    exact ⟨h0, h1⟩
theorem digits_ok (c : Int) (sizes : List Int) (hl : sizes.length ≤ 1000) (hs : ∀ s ∈ sizes, 0 < s ∧ s < 1073741824) : wpr (d_law_digits [.int c, .lst (zs sizes)]) fun d => ∃ row, d = .lst (zs row) ∧ Dig sizes row := by
  have hp : okPow 10 18 = true := by decide
  refine wpr_F (wps_nx rfl (wps_nx rfl (wps_seq ?_)))
  by_cases h : (1000000000000000000 : Int) ≤ c
  · refine wps_if (k := true) (by simp [hp, h]) (fun _ => ?_) (fun q => nomatch q)
    refine wps_nx (by simp [hp]; rfl) (wps_seq ?_)
    refine wps_for sizes .int rfl (fun pre ρ => ∃ row rest z, ρ = [.im (.int c), .im (.lst (zs sizes)), .ow false (.l (zs row)), .im (.int rest), z, .un, .un, .un] ∧ Dig pre row)
      ⟨[], _, _, rfl, rfl, fun i r s e => by simp at e⟩ ?_ ?_
    · rintro pre x post ρ e ⟨row, rest, z, rfl, hd⟩
      obtain ⟨h0, h1⟩ := hs x (by rw [e]; simp)
      have hne : x ≠ 0 := by omega
      have hdiv : okDiv rest x = true := okDiv_small hne (by omega)
      have hlen : row.length < 16777215 := by
        have := congrArg List.length e
        rw [hd.1]; simp at this; omega
      refine ⟨_, rfl, ?_⟩
      refine wps_nx (ρ1 := [.im (.int c), .im (.lst (zs sizes)), .ow false (.l (zs (row ++ [rest.fmod x]))), .im (.int rest), .im (.int x), .un, .un, .un]) (by simp [hne, hlen]) ?_
      refine wps_n (ρ := [.im (.int c), .im (.lst (zs sizes)), .ow false (.l (zs (row ++ [rest.fmod x]))), .im (.int (rest.fdiv x)), .im (.int x), .un, .un, .un]) (by simp [hdiv]) ?_
      refine ⟨_, _, _, rfl, hd.snoc ?_ ?_⟩
      · rw [Int.fmod_eq_emod_of_nonneg _ (by omega)]; exact Int.emod_nonneg _ hne
      · rw [Int.fmod_eq_emod_of_nonneg _ (by omega)]; exact Int.emod_lt_of_pos _ h0
    · rintro ρ ⟨row, rest, z, rfl, hd⟩
      exact wps_r rfl ⟨row, rfl, hd⟩
  · refine wps_if (k := false) (by simp [hp]; omega) (fun q => nomatch q) (fun _ => wps_some ?_)
    refine wps_nx (ρ1 := [.im (.int c), .im (.lst (zs sizes)), .ow false (.l (zs [])), .im (.int c), .un, .im (.int (c.fmod 2147483629)), .un, .un]) (by simp) (wps_seq ?_)
    refine wps_for (List.range sizes.length) (fun (k : Nat) => D.int (k : Int)) (mRng1_ok (j := (sizes.length : Int)) sizes.length (by simp) rfl (by omega))
      (fun pre ρ => ∃ row seed z1 z2, ρ = [.im (.int c), .im (.lst (zs sizes)), .ow false (.l (zs row)), .im (.int c), .un, .im (.int seed), z1, z2] ∧ 0 ≤ seed ∧ seed < 2147483647 ∧ Dig (sizes.take pre.length) row)
      ⟨[], _, _, _, rfl, ?_, ?_, rfl, fun i r s e => by simp at e⟩ ?_ ?_
    · rw [Int.fmod_eq_emod_of_nonneg _ (by decide)]; omega
    · rw [Int.fmod_eq_emod_of_nonneg _ (by decide)]; omega
    · rintro pre x post ρ e ⟨row, seed, z1, z2, rfl, hs0, hs1, hd⟩
      obtain ⟨rfl, hx⟩ := range_split e
      have hq : sizes[pre.length]? = some sizes[pre.length] := by simp [hx]
      obtain ⟨h0, h1⟩ := hs sizes[pre.length] (List.getElem_mem hx)
      generalize sizes[pre.length] = s at *
      have hne : s ≠ 0 := by omega
      have hm1 : okMul seed 48271 = true := okMul_b (by omega) (by omega) (by omega) (by omega)
      have hm2 : okMul 974711 (pre.length : Int) = true := okMul_b (by omega) (by omega) (by omega) (by omega)
      generalize hS : (seed * 48271 + 974711 * (pre.length : Int) + 12345).fmod 2147483647 = S
      have hS0 : 0 ≤ S ∧ S < 2147483647 := by
        rw [← hS, Int.fmod_eq_emod_of_nonneg _ (by decide)]; omega
      have hd1 : okDiv S 65537 = true := okDiv_small (by decide) (by decide)
      generalize hU : S.fdiv 65537 = U
      have hU0 : 0 ≤ U ∧ U < 2147483647 := by
        rw [← hU, Int.fdiv_eq_ediv_of_nonneg _ (by decide)]; omega
      have hm3 : okMul S (U + 3) = true := okMul_b (by omega) (by omega) (by omega) (by omega)
      generalize hT : (S * (U + 3)).fmod 2147483629 = T
      have hd2 : okDiv T 19 = true := okDiv_small (by decide) (by decide)
      have hlen : row.length < 16777215 := by
        rw [hd.1]; simp; omega
      refine ⟨_, rfl, ?_⟩
      refine wps_nx (ρ1 := [.im (.int c), .im (.lst (zs sizes)), .ow false (.l (zs row)), .im (.int c), .un, .im (.int S), .im (.int (pre.length : Int)), z2]) (by simp only [← hS]; simp [hm1, hm2]) ?_
      refine wps_nx (ρ1 := [.im (.int c), .im (.lst (zs sizes)), .ow false (.l (zs row)), .im (.int c), .un, .im (.int S), .im (.int (pre.length : Int)), .im (.int T)]) (by simp [hd1, hU, hm3, hT]) ?_
      refine wps_n (ρ := [.im (.int c), .im (.lst (zs sizes)), .ow false (.l (zs (row ++ [(T.fdiv 19).fmod s]))), .im (.int c), .un, .im (.int S), .im (.int (pre.length : Int)), .im (.int T)]) (by simp [hd2, atI_nat, hq, hne, hlen]) ?_
      refine ⟨_, _, _, _, rfl, hS0.1, hS0.2, ?_⟩
      have et : sizes.take (pre ++ [pre.length]).length = sizes.take pre.length ++ [s] := by
        rw [List.length_append, List.length_singleton, List.take_succ, hq]; rfl
      rw [et]
      refine hd.snoc ?_ ?_
      · rw [Int.fmod_eq_emod_of_nonneg _ (by omega)]; exact Int.emod_nonneg _ hne
      · rw [Int.fmod_eq_emod_of_nonneg _ (by omega)]; exact Int.emod_lt_of_pos _ h0
    · rintro ρ ⟨row, seed, z1, z2, rfl, hs0, hs1, hd⟩
      rw [List.length_range, List.take_length] at hd
      exact wps_r rfl ⟨row, rfl, hd⟩
end Cm
namespace Cm
open PySem FL
/-! ### numbers of few bits -/
def Bd (n : Nat) (x : Int) : Prop := x.natAbs < 2 ^ n
theorem Bd.mono {a b : Nat} {x : Int} (h : Bd a x) (e : a ≤ b) : Bd b x := Nat.lt_of_lt_of_le h (Nat.pow_le_pow_right (by decide) e)
theorem Bd.mul {a b : Nat} {x y : Int} (h : Bd a x) (g : Bd b y) : Bd (a + b) (x * y) := by
  unfold Bd at *
  rw [Int.natAbs_mul, Nat.pow_add]
  exact Nat.mul_lt_mul'' h g
theorem Bd.add {a : Nat} {x y : Int} (h : Bd a x) (g : Bd a y) : Bd (a + 1) (x + y) := by
  unfold Bd at *
  rw [Nat.pow_succ]
  generalize 2 ^ a = p at *
  omega
theorem Bd.sub {a : Nat} {x y : Int} (h : Bd a x) (g : Bd a y) : Bd (a + 1) (x - y) := by
  unfold Bd at *
  rw [Nat.pow_succ]
  generalize 2 ^ a = p at *
  omega
theorem Bd.neg {a : Nat} {x : Int} (h : Bd a x) : Bd a (-x) := by
  unfold Bd at *
  rw [Int.natAbs_neg]; exact h
theorem Bd.okM {a b : Nat} {x y : Int} (h : Bd a x) (g : Bd b y) (e : a + b ≤ 134217728) : okMul x y = true := okMul_of h g e
theorem Bd.okD {a : Nat} {x y : Int} (h : Bd a y) (e : a ≤ 9000) (h0 : y ≠ 0) : okDiv x y = true := okDiv_wide h0 (h.mono e)
theorem Bd.lit {x : Int} {a : Nat} (n : Nat) (h : x.natAbs < n) (e : n ≤ 2 ^ a) : Bd a x := Nat.lt_of_lt_of_le h e
def BL (n : Nat) (l : List Int) : Prop := ∀ x ∈ l, Bd n x
theorem BL.mono {a b : Nat} {l : List Int} (h : BL a l) (e : a ≤ b) : BL b l := fun x hx => (h x hx).mono e
theorem Bd.sum {a : Nat} : ∀ {l : List Int} {k : Nat}, BL a l → l.length ≤ k → Bd (a + k) l.sum
  | [], k, _, _ => by
    show (0 : Int).natAbs < 2 ^ (a + k)
    exact Nat.pow_pos (by decide)
  | x :: l, 0, _, h => by simp at h
  | x :: l, k + 1, hb, h => by
    rw [List.sum_cons]
    have h1 : Bd (a + k) l.sum := Bd.sum (fun y hy => hb y (by simp [hy])) (by simpa using h)
    have h2 : Bd (a + k) x := (hb x (by simp)).mono (by omega)
    exact h2.add h1
/-- what divides is not greater -/
theorem Bd.of_dvd {a : Nat} {x : Int} {g : Nat} (h : Bd a x) (h0 : x ≠ 0) (d : g ∣ x.natAbs) : Bd a (g : Int) := by
  unfold Bd at *
  rw [Int.natAbs_natCast]
  exact Nat.lt_of_le_of_lt (Nat.le_of_dvd (by omega) d) h
theorem Bd.of_div {a : Nat} {x q : Int} {g : Int} (h : Bd a x) (h0 : g ≠ 0) (e : q * g = x) : Bd a q := by
  unfold Bd at *
  have e2 := congrArg Int.natAbs e
  rw [Int.natAbs_mul] at e2
  have : 0 < g.natAbs := by omega
  have h2 : q.natAbs * 1 ≤ q.natAbs * g.natAbs := Nat.mul_le_mul_left _ this
  omega
end Cm
namespace Cm
open PySem FL
/-! ### the greatest common divisor of a tuple -/
/-- the greatest common divisor of a tuple, as the program reckons it -/
def gl (l : List Int) : Nat := l.foldl (fun c x => Nat.gcd c x.natAbs) 0
def sh (l : List Int) : List Int := l.map fun x => x.fdiv (gl l)
theorem gl_fold_dvd : ∀ (l : List Int) (c : Nat), (l.foldl (fun c x => Nat.gcd c x.natAbs) c) ∣ c ∧ ∀ x ∈ l, (l.foldl (fun c x => Nat.gcd c x.natAbs) c) ∣ x.natAbs
  | [], c => ⟨Nat.dvd_refl _, fun _ h => (nomatch h)⟩
  | y :: l, c => by
    obtain ⟨h1, h2⟩ := gl_fold_dvd l (Nat.gcd c y.natAbs)
    refine ⟨Nat.dvd_trans h1 (Nat.gcd_dvd_left _ _), fun x hx => ?_⟩
    rcases List.mem_cons.mp hx with rfl | hx
    · exact Nat.dvd_trans h1 (Nat.gcd_dvd_right _ _)
    · exact h2 x hx
theorem gl_fold_great : ∀ (l : List Int) (c d : Nat), d ∣ c → (∀ x ∈ l, d ∣ x.natAbs) → d ∣ (l.foldl (fun c x => Nat.gcd c x.natAbs) c)
  | [], c, d, h, _ => h
  | y :: l, c, d, h, h2 => gl_fold_great l _ d (Nat.dvd_gcd h (h2 y (by simp))) fun x hx => h2 x (by simp [hx])
theorem gl_dvd {l : List Int} {x : Int} (h : x ∈ l) : gl l ∣ x.natAbs := (gl_fold_dvd l 0).2 x h
theorem gl_great {l : List Int} {d : Nat} (h : ∀ x ∈ l, d ∣ x.natAbs) : d ∣ gl l := gl_fold_great l 0 d (Nat.dvd_zero _) h
theorem gl_pos {l : List Int} (h : ∃ x ∈ l, x ≠ 0) : 0 < gl l := by
  obtain ⟨x, hx, h0⟩ := h
  have hd := gl_dvd hx
  have : 0 < x.natAbs := by omega
  exact Nat.pos_of_dvd_of_pos hd this
theorem gl_le {l : List Int} {b : Nat} (h : ∃ x ∈ l, x ≠ 0) (hb : ∀ x ∈ l, x.natAbs ≤ b) : gl l ≤ b := by
  obtain ⟨x, hx, h0⟩ := h
  have hd := gl_dvd hx
  have h1 : 0 < x.natAbs := by omega
  exact Nat.le_trans (Nat.le_of_dvd h1 hd) (hb x hx)
theorem fdiv_mul {x : Int} {g : Nat} (hg : 0 < g) (h : g ∣ x.natAbs) : x.fdiv g * g = x := by
  have h2 : (g : Int) ∣ x := Int.ofNat_dvd_left.mpr h
  rw [Int.fdiv_eq_ediv_of_nonneg _ (by omega)]
  exact Int.ediv_mul_cancel h2
theorem sh_mul {l : List Int} (h : ∃ x ∈ l, x ≠ 0) : (sh l).map (· * (gl l : Int)) = l := by
  unfold sh
  rw [List.map_map]
  conv => rhs; rw [← List.map_id l]
  apply List.map_congr_left
  intro x hx
  exact fdiv_mul (gl_pos h) (gl_dvd hx)
theorem sh_nz {l : List Int} (h : ∃ x ∈ l, x ≠ 0) : ∃ x ∈ sh l, x ≠ 0 := by
  obtain ⟨x, hx, h0⟩ := h
  refine ⟨_, List.mem_map_of_mem hx, fun e => ?_⟩
  have := fdiv_mul (gl_pos ⟨x, hx, h0⟩) (gl_dvd hx)
  rw [e] at this
  omega
theorem gl_sh {l : List Int} (h : ∃ x ∈ l, x ≠ 0) : gl (sh l) = 1 := by
  have hp := gl_pos h
  have : gl (sh l) * gl l ∣ gl l := gl_great fun x hx => by
    have h1 : gl (sh l) ∣ (x.fdiv (gl l)).natAbs := gl_dvd (List.mem_map_of_mem hx)
    have e := fdiv_mul hp (gl_dvd hx)
    rw [← e, Int.natAbs_mul]
    exact Nat.mul_dvd_mul h1 (by simp)
  have h2 := Nat.le_of_dvd hp this
  have h3 := gl_pos (sh_nz h)
  have : gl (sh l) * gl l ≤ 1 * gl l := by omega
  have := Nat.le_of_mul_le_mul_right this hp
  omega
theorem sh_sh {l : List Int} (h : ∃ x ∈ l, x ≠ 0) : sh (sh l) = sh l := by
  show (sh l).map (fun x => x.fdiv (gl (sh l))) = sh l
  rw [gl_sh h]
  conv => rhs; rw [← List.map_id (sh l)]
  apply List.map_congr_left
  intro x _
  simp
theorem sh_length (l : List Int) : (sh l).length = l.length := by simp [sh]
theorem sh_le {l : List Int} {b : Nat} (h : ∃ x ∈ l, x ≠ 0) (hb : ∀ x ∈ l, x.natAbs ≤ b) : ∀ x ∈ sh l, x.natAbs ≤ b := by
  intro y hy
  obtain ⟨x, hx, rfl⟩ := List.mem_map.mp hy
  have e := fdiv_mul (gl_pos h) (gl_dvd hx)
  have h1 := hb x hx
  have hp := gl_pos h
  have : (x.fdiv (gl l)).natAbs * gl l = x.natAbs := by
    have e2 := congrArg Int.natAbs e
    rw [Int.natAbs_mul] at e2
    simpa using e2
  have h2 : (x.fdiv (gl l)).natAbs * 1 ≤ (x.fdiv (gl l)).natAbs * gl l := Nat.mul_le_mul_left _ hp
  omega
end Cm
namespace Cm
open PySem FL
theorem wpr_eq {α : Type} {r : Res α} {x : α} (h : wpr r fun d => d = x) : r = .ok x := by
  obtain ⟨a, e, rfl⟩ := h
  exact e
theorem iabs (a : Int) : (if a < 0 then -a else a) = (a.natAbs : Int) := by split <;> omega
theorem gcd_ok (a b : Int) : d_law_gcd [.int a, .int b] = .ok (.int (Nat.gcd a.natAbs b.natAbs : Nat)) := by
  refine wpr_eq (wpr_F (wps_nx rfl (wps_nx rfl (wps_seq ?_))))
  refine wps_while (fun ρ => ∃ (x y : Nat) (z : Sl), ρ = [.im (.int (x : Int)), .im (.int (y : Int)), z] ∧ Nat.gcd x y = Nat.gcd a.natAbs b.natAbs)
    (fun ρ => match ρ with | [_, .im (.int y), _] => y.natAbs | _ => 0) ⟨a.natAbs, b.natAbs, .un, by simp [iabs], rfl⟩ ?_
  rintro ρ ⟨x, y, z, rfl, hg⟩
  refine ⟨!decide ((y : Int) = 0), by simp, fun h => ?_, fun h => ?_⟩
  · have hy : y ≠ 0 := by simpa using h
    refine wps_n (ρ := [.im (.int (y : Int)), .im (.int ((x : Int) % (y : Int))), .im (.int ((x : Int) % (y : Int)))]) (by simp [hy]; exact Int.fmod_eq_emod_of_nonneg _ (by omega)) ?_
    refine ⟨⟨y, x % y, _, rfl, ?_⟩, ?_⟩
    · rw [← hg, Nat.gcd_comm y, ← Nat.gcd_rec, Nat.gcd_comm]
    · show (((x % y : Nat) : Int)).natAbs < ((y : Int)).natAbs
      rw [Int.natAbs_natCast, Int.natAbs_natCast]
      exact Nat.mod_lt _ (by omega)
  · have hy : y = 0 := by have : (y : Int) = 0 := by simpa using h
                          omega
    subst hy
    refine wps_r rfl ?_
    show D.int (x : Int) = _
    rw [← hg, Nat.gcd_zero_right]
theorem gl_snoc (l : List Int) (x : Int) : gl (l ++ [x]) = Nat.gcd (gl l) x.natAbs := by simp [gl]
theorem gl_one (b : Int) : gl [b] = b.natAbs := by simp [gl]
theorem gl_cons (b : Int) (l : List Int) : gl (b :: l) = Nat.gcd b.natAbs (gl l) := by
  refine Nat.dvd_antisymm (Nat.dvd_gcd (gl_dvd (by simp)) (gl_great fun x hx => gl_dvd (by simp [hx]))) (gl_great fun x hx => ?_)
  rcases List.mem_cons.mp hx with rfl | hx
  · exact Nat.gcd_dvd_left _ _
  · exact Nat.dvd_trans (Nat.gcd_dvd_right _ _) (gl_dvd hx)
theorem gl_bot (b : Int) (l : List Int) : gl (l ++ [b]) = gl (b :: l) := by rw [gl_snoc, gl_cons, Nat.gcd_comm]
theorem glb_pos {b : Int} {l : List Int} (h : b ≠ 0) : 0 < gl (b :: l) := gl_pos ⟨b, by simp, h⟩
/-- the least common form -/
def rn (l : List Int) (b : Int) : List Int := l.map fun x => x.fdiv (gl (b :: l))
def rb (l : List Int) (b : Int) : Int := b.fdiv (gl (b :: l))
theorem rn_len (l : List Int) (b : Int) : (rn l b).length = l.length := by simp [rn]
theorem rn_mul {l : List Int} {b : Int} (h : b ≠ 0) : (rn l b).map (· * (gl (b :: l) : Int)) = l := by
  unfold rn
  rw [List.map_map]
  conv => rhs; rw [← List.map_id l]
  apply List.map_congr_left
  intro x hx
  exact fdiv_mul (glb_pos h) (gl_dvd (by simp [hx]))
theorem rb_mul {l : List Int} {b : Int} (h : b ≠ 0) : rb l b * (gl (b :: l) : Int) = b := fdiv_mul (glb_pos h) (gl_dvd (by simp))
theorem rb_pos {l : List Int} {b : Int} (h : 0 < b) : 0 < rb l b := by
  have e := rb_mul (l := l) (b := b) (by omega)
  have hp := glb_pos (l := l) (b := b) (by omega)
  by_cases q : 0 < rb l b
  · exact q
  · have : rb l b * (gl (b :: l) : Int) ≤ 0 := Int.mul_nonpos_of_nonpos_of_nonneg (by omega) (by omega)
    omega
theorem r_low {l : List Int} {b : Int} (h : b ≠ 0) : gl (rb l b :: rn l b) = 1 := by
  have := gl_sh (l := b :: l) ⟨b, by simp, h⟩
  exact this
theorem rn_bd {n : Nat} {l : List Int} {b : Int} (h : b ≠ 0) (hl : BL n l) : BL n (rn l b) := by
  intro y hy
  obtain ⟨x, hx, rfl⟩ := List.mem_map.mp hy
  exact (hl x hx).of_div (g := (gl (b :: l) : Int)) (by have := glb_pos (l := l) h; omega) (fdiv_mul (glb_pos h) (gl_dvd (by simp [hx])))
theorem rb_bd {n : Nat} {l : List Int} {b : Int} (h : b ≠ 0) (hb : Bd n b) : Bd n (rb l b) := hb.of_div (g := (gl (b :: l) : Int)) (by have := glb_pos (l := l) h; omega) (rb_mul h)
theorem gl_scale (c : Int) : ∀ l : List Int, gl (l.map (c * ·)) = c.natAbs * gl l := by
  intro l
  refine Nat.dvd_antisymm ?_ (gl_great fun x hx => ?_)
  · by_cases h0 : c = 0
    · subst h0; simp
    · have hd : c.natAbs ∣ gl (l.map (c * ·)) := gl_great fun x hx => by
        obtain ⟨y, _, rfl⟩ := List.mem_map.mp hx
        rw [Int.natAbs_mul]; exact Nat.dvd_mul_right _ _
      obtain ⟨k, hk⟩ := hd
      rw [hk]
      refine Nat.mul_dvd_mul_left _ (gl_great fun x hx => ?_)
      have h1 : gl (l.map (c * ·)) ∣ (c * x).natAbs := gl_dvd (List.mem_map_of_mem hx)
      rw [hk, Int.natAbs_mul] at h1
      exact Nat.dvd_of_mul_dvd_mul_left (by omega) h1
  · obtain ⟨y, hy, rfl⟩ := List.mem_map.mp hx
    rw [Int.natAbs_mul]
    exact Nat.mul_dvd_mul_left _ (gl_dvd hy)
theorem fdiv_scale {c x : Int} {g : Nat} (hc : 0 < c) (hg : 0 < g) : (c * x).fdiv ((c.natAbs * g : Nat) : Int) = x.fdiv (g : Int) := by
  have e : ((c.natAbs * g : Nat) : Int) = c * (g : Int) := by
    rw [Int.natCast_mul]
    congr 1
    omega
  have hcg : 0 ≤ c * (g : Int) := Int.mul_nonneg (by omega) (by omega)
  rw [e, Int.fdiv_eq_ediv_of_nonneg _ hcg, Int.fdiv_eq_ediv_of_nonneg _ (by omega)]
  exact Int.mul_ediv_mul_of_pos _ _ hc
theorem r_scale {c : Int} {l : List Int} {b : Int} (hc : 0 < c) (h : b ≠ 0) : rn (l.map (c * ·)) (c * b) = rn l b ∧ rb (l.map (c * ·)) (c * b) = rb l b := by
  have e : gl (c * b :: l.map (c * ·)) = c.natAbs * gl (b :: l) := gl_scale c (b :: l)
  have hp := glb_pos (l := l) h
  unfold rn rb
  rw [e]
  refine ⟨?_, fdiv_scale hc hp⟩
  rw [List.map_map]
  apply List.map_congr_left
  intro x _
  exact fdiv_scale hc hp
theorem gl_map_neg : ∀ l : List Int, gl (l.map fun x => -x) = gl l := fun l => by
  have := gl_scale (-1) l
  simpa [Int.neg_mul, Int.one_mul] using this
theorem fdiv_negR (x : Int) (g : Int) : x.fdiv (-g) = (-x).fdiv g := by
  have := Int.neg_fdiv_neg (-x) g
  rw [Int.neg_neg] at this
  exact this
end Cm
namespace Cm
open PySem FL L2
/-! ### places: numbers and a bottom -/
def pz (l : List Int) (b : Int) : D := .tup (zs (l ++ [b]))
theorem pz_eq (l : List Int) (b : Int) : pz l b = .tup (zs (l ++ [b])) := rfl
@[simp] theorem pz_last (l : List Int) (b : Int) : fIx (pz l b) (.int (-1)) = some (.int b) := by
  show atI (zs (l ++ [b])) (-1) = _
  rw [FL.atI_last _ (by simp)]
  simp
theorem pz_num {l : List Int} {b : Int} {k : Nat} (h : k < l.length) : fIx (pz l b) (.int (k : Int)) = some (.int l[k]!) := by
  show atI (zs (l ++ [b])) (k : Int) = _
  rw [FL.atI_nat, List.getElem?_map, List.getElem?_append_left h, List.getElem!_eq_getElem?_getD, List.getElem?_eq_getElem h]
  rfl
theorem pz_bot {l : List Int} {b : Int} {k : Int} (h : k = (l.length : Int)) : fIx (pz l b) (.int k) = some (.int b) := by
  subst h
  show atI (zs (l ++ [b])) _ = _
  rw [FL.atI_nat, List.getElem?_map, List.getElem?_append_right (Nat.le_refl _)]
  simp
@[simp] theorem pz_len (l : List Int) (b : Int) : fLen [pz l b] = some (.int ((l.length : Int) + 1)) := by
  show some (D.int ((zs (l ++ [b])).length : Nat)) = _
  simp
@[simp] theorem pz_elems (l : List Int) (b : Int) : elems (pz l b) = some (zs (l ++ [b])) := rfl
@[simp] theorem pz_tup (l : List Int) (b : Int) : isiTy "tuple" (pz l b) = some true := isi_tuple_tup _
theorem pz_inj {l m : List Int} {b c : Int} : pz l b = pz m c ↔ l = m ∧ b = c := by
  constructor
  · intro h
    have h : zs (l ++ [b]) = zs (m ++ [c]) := D.tup.inj h
    have h2 : l ++ [b] = m ++ [c] := (List.map_inj_right (fun _ _ e => D.int.inj e)).mp h
    have := List.append_inj' h2 rfl
    exact ⟨this.1, by simpa using this.2⟩
  · rintro ⟨rfl, rfl⟩; rfl
theorem pz_ne {l m : List Int} {b c : Int} : fNe (pz l b) (pz m c) = some (.bl (!decide (l = m ∧ b = c))) := by
  unfold pz
  rw [fNe_tt]
  have : (l ++ [b] = m ++ [c]) ↔ (l = m ∧ b = c) := by
    rw [← pz_inj]
    exact ⟨fun h => by unfold pz; rw [h], fun h => (List.map_inj_right (fun _ _ e => D.int.inj e)).mp (D.tup.inj h)⟩
  simp only [this]
theorem pz_same (l : List Int) (b : Int) : fNe (pz l b) (pz l b) = some (.bl false) := by rw [pz_ne]; simp
/-- a list or a tuple of numbers -/
structure NS (d : D) (l : List Int) : Prop where
  el : elems d = some (zs l)
  sq : seqOf d = some (zs l)
  tp : fTuple [d] = some (.tup (zs l))
  ln : fLen [d] = some (.int (l.length : Int))
  ix : ∀ k : Nat, k < l.length → fIx d (.int (k : Int)) = some (.int l[k]!)
theorem zs_ix {l : List Int} {k : Nat} (h : k < l.length) : atI (zs l) (k : Int) = some (.int l[k]!) := by
  rw [FL.atI_nat, List.getElem?_map, List.getElem!_eq_getElem?_getD, List.getElem?_eq_getElem h]
  rfl
theorem NS.l (l : List Int) : NS (.lst (zs l)) l := ⟨rfl, rfl, rfl, by simp, fun k h => zs_ix h⟩
theorem NS.t (l : List Int) : NS (.tup (zs l)) l := ⟨rfl, rfl, rfl, by simp, fun k h => zs_ix h⟩
theorem divs {n : Nat} {i : Nat} {l : List Int} {g : Int} {ρ : En} {mg : En → Res D} (hg : Bd n g) (hn : n ≤ 9000) (h0 : g ≠ 0) (hi : i < ρ.length) (hm : ∀ x : Int, mg (ρ.set i (.im (.int x))) = .ok (.int g)) (hl : l.length ≤ 1000) :
    compL (bName i) mYes (mOp2 fFdiv (mVar i) mg) ρ (zs l) [] = .ok (.l (zs (l.map fun x => x.fdiv g))) := by
  have hc := compL_map (bt := bName i) (mt := mYes) (me := mOp2 fFdiv (mVar i) mg) (ρ := ρ) (enc := D.int) (f := fun x => .int (x.fdiv g)) l [] (fun x hx => ⟨_, rfl, rfl, by
    have := hg.okD (x := x) hn h0
    simp [hi, hm, this]⟩) (by simp; omega)
  rw [hc]; simp
def ng (l : List Int) : List Int := l.map fun x => -x
theorem ng_len (l : List Int) : (ng l).length = l.length := by simp [ng]
theorem gl_ng (b : Int) (l : List Int) : gl (-b :: ng l) = gl (b :: l) := gl_map_neg (b :: l)
theorem point_ok {d : D} {l : List Int} {b : Int} {n : Nat} (hd : NS d l) (hb0 : b ≠ 0) (hb : Bd n b) (hn : n ≤ 9000) (hl : l.length ≤ 1000) : d_point [d, .int b] = .ok (if b < 0 then pz (rn (ng l) (-b)) (rb (ng l) (-b)) else pz (rn l b) (rb l b)) := by
  refine wpr_eq (wpr_F (wps_nx (ρ1 := [.im d, .im (.int b), .un, .un]) (by simp [hb0]) (wps_nx (ρ1 := [.im d, .im (.int b), .im (.int b), .un]) (by simp) (wps_seq ?_))))
  refine wps_for l .int (by simp [hd.el]) (fun pre ρ => ∃ c z, ρ = [.im d, .im (.int b), .im (.int c), z] ∧ c.natAbs = gl (b :: pre)) ⟨b, .un, rfl, (gl_one b).symm⟩ ?_ ?_
  · rintro pre x post ρ e ⟨c, z, rfl, hc⟩
    refine ⟨_, rfl, wps_n (ρ := [.im d, .im (.int b), .im (.int (gl (b :: (pre ++ [x])) : Int)), .im (.int x)]) ?_ ⟨_, _, rfl, by simp⟩⟩
    have : gl (b :: (pre ++ [x])) = Nat.gcd (gl (b :: pre)) x.natAbs := gl_snoc (b :: pre) x
    simp [this, hc]
  · rintro ρ ⟨c, z, rfl, hc⟩
    have hp := glb_pos (l := l) hb0
    have hg : Bd n (gl (b :: l) : Int) := hb.of_dvd hb0 (gl_dvd (by simp))
    have fin : ∀ (g : Int) (l' : List Int) (b' : Int), Bd n g → g ≠ 0 → (l.map fun x => x.fdiv g) = l' → b.fdiv g = b' → wps (sRet (mOp2 fAdd (mOpA fTuple (mCons (mFz (mLc (bName 3) [3] (mSeq (mVar 0)) mYes (mOp2 fFdiv (mVar 3) (mVar 2)))) mNil)) (mTup (mCons (mOp2 fFdiv (mVar 1) (mVar 2)) mNil))) [.im d, .im (.int b), .im (.int g), z]) (PF fun d => d = pz l' b') := by
      rintro g _ _ hg h0 rfl rfl
      have hc := divs (ρ := [.im d, .im (.int b), .im (.int g), .un]) (i := 3) (mg := mVar 2) (l := l) hg hn h0 (by simp) (fun x => by simp) hl
      have hdv : okDiv b g = true := hg.okD hn h0
      refine wps_r (d := pz (l.map fun x : Int => x.fdiv g) (b.fdiv g)) ?_ rfl
      have e2 : pz (l.map fun x : Int => x.fdiv g) (b.fdiv g) = .tup (zs (l.map fun x : Int => x.fdiv g) ++ [.int (b.fdiv g)]) := by unfold pz; simp
      rw [e2]
      simp only [sRet_d, mOp2_d, mOpA_d, mCons_d, mNil_d, mFz_d, mLc_d, mSeq_d, mVar_d, wipeE_cons, wipeE_nil, List.set_cons_succ, List.set_cons_zero, List.getElem?_cons_succ, List.getElem?_cons_zero, bind_ok, hd.el, ofO_some, hc, Cnd_l, fTuple_l, mTup_d, fFdiv_ii, hdv, if_true, List.length_cons, List.length_nil]
      rw [if_pos (by decide), bind_ok, fAdd_tt, if_pos (by simp; omega)]
      rfl
    refine wps_nx (ρ1 := [.im d, .im (.int b), .im (.int (gl (b :: l) : Int)), z]) (by simp [iabs, hc]) ?_
    by_cases hneg : b < 0
    · rw [if_pos hneg]
      refine wps_nx (ρ1 := [.im d, .im (.int b), .im (.int (-(gl (b :: l) : Int))), z]) (by simp [hneg]) ?_
      refine fin _ _ _ hg.neg (by omega) ?_ ?_
      · unfold rn
        rw [gl_ng]
        unfold ng
        rw [List.map_map]
        apply List.map_congr_left
        intro x _
        exact fdiv_negR x _
      · unfold rb
        rw [gl_ng]
        exact fdiv_negR b _
    · rw [if_neg hneg]
      refine wps_nx (ρ1 := [.im d, .im (.int b), .im (.int (gl (b :: l) : Int)), z]) (by simp [hneg]) ?_
      exact fin _ _ _ hg (by omega) rfl rfl
theorem point_zero {d : D} : d_point [d, .int 0] = .er (.exc 1 [] []) := by
  unfold d_point m_point
  simp [sRaise0]
theorem nopoint_ok {d : D} : d_law_no_point [d] = .ok (.bl true) := by
  unfold d_law_no_point m_law_no_point
  simp [sTry, point_zero, xIn, excOf, mIsX, backX, noX, List.lookup]
theorem reduced_ok {d : D} {l : List Int} {b : Int} {n : Nat} (hd : NS d l) (hb0 : 0 < b) (hb : Bd n b) (hn : n ≤ 9000) (hl : l.length ≤ 1000) : d_law_reduced [d, .int b] = .ok (pz (rn l b) (rb l b)) := by
  refine wpr_eq (wpr_F (wps_nx (ρ1 := [.im d, .im (.int b), .im (.int b), .un]) (by simp) (wps_seq ?_)))
  refine wps_for l .int (by simp [hd.el]) (fun pre ρ => ∃ z, ρ = [.im d, .im (.int b), .im (.int (gl (b :: pre) : Int)), z]) ⟨.un, ?_⟩ ?_ ?_
  · rw [gl_one]
    have : ((b.natAbs : Nat) : Int) = b := by omega
    rw [this]
  · rintro pre x post ρ e ⟨z, rfl⟩
    refine ⟨_, rfl, wps_n (ρ := [.im d, .im (.int b), .im (.int (gl (b :: (pre ++ [x])) : Int)), .im (.int x)]) ?_ ⟨_, rfl⟩⟩
    have : gl (b :: (pre ++ [x])) = Nat.gcd (gl (b :: pre)) x.natAbs := gl_snoc (b :: pre) x
    simp [gcd_ok, this]
  · rintro ρ ⟨z, rfl⟩
    have hp := glb_pos (l := l) (b := b) (by omega)
    have hg : Bd n (gl (b :: l) : Int) := hb.of_dvd (by omega) (gl_dvd (by simp))
    have hc := divs (ρ := [.im d, .im (.int b), .im (.int (gl (b :: l) : Int)), .un]) (i := 3) (mg := mVar 2) (l := l) hg hn (by omega) (by simp) (fun x => by simp) hl
    have hdv : okDiv b (gl (b :: l) : Int) = true := hg.okD hn (by omega)
    refine wps_r (d := pz (rn l b) (rb l b)) ?_ rfl
    have e2 : pz (rn l b) (rb l b) = .tup (zs (rn l b) ++ [.int (rb l b)]) := by unfold pz; simp
    rw [e2]
    show sRet _ _ = _
    simp only [sRet_d, mOp2_d, mOpA_d, mCons_d, mNil_d, mFz_d, mLc_d, mSeq_d, mVar_d, wipeE_cons, wipeE_nil, List.set_cons_succ, List.set_cons_zero, List.getElem?_cons_succ, List.getElem?_cons_zero, bind_ok, hd.el, ofO_some, hc, Cnd_l, fTuple_l, mTup_d, fFdiv_ii, hdv, if_true, List.length_cons, List.length_nil]
    rw [if_pos (by decide), bind_ok, fAdd_tt, if_pos (by simp; omega)]
    rfl
end Cm
namespace Cm
open PySem FL L2
theorem rowc {i n : Nat} {ρ : En} {me : En → Res D} {f : Nat → Int} (h : ∀ k, k < n → me (ρ.set i (.im (.int (k : Int)))) = .ok (.int (f k))) (hn : n ≤ 1000) :
    compL (bName i) mYes me ρ ((List.range n).map fun (k : Nat) => D.int (k : Int)) [] = .ok (.l (zs ((List.range n).map f))) := by
  have hc := compL_map (bt := bName i) (mt := mYes) (me := me) (ρ := ρ) (enc := fun (k : Nat) => D.int (k : Int)) (f := fun k => .int (f k)) (List.range n) [] (fun k hk => ⟨_, rfl, rfl, h k (by simpa using hk)⟩) (by simp; omega)
  rw [hc]; simp
theorem mapc {i : Nat} {ρ : En} {me : En → Res D} {f : Int → Int} {l : List Int} (h : ∀ x ∈ l, me (ρ.set i (.im (.int x))) = .ok (.int (f x))) (hn : l.length ≤ 1000) :
    compL (bName i) mYes me ρ (zs l) [] = .ok (.l (zs (l.map f))) := by
  have hc := compL_map (bt := bName i) (mt := mYes) (me := me) (ρ := ρ) (enc := D.int) (f := fun x => .int (f x)) l [] (fun x hx => ⟨_, rfl, rfl, h x hx⟩) (by simp; omega)
  rw [hc]; simp
theorem whole_all {i : Nat} {ρ : En} {l : List Int} (hi : i < ρ.length) (hl : l.length ≤ 1000) : compL (bName i) mYes (mCall 1 d_law_whole (mCons (mVar i) mNil)) ρ (zs l) [] = .ok (.l (bls (l.map fun _ => true))) := by
  have hc := compL_map (bt := bName i) (mt := mYes) (me := mCall 1 d_law_whole (mCons (mVar i) mNil)) (ρ := ρ) (enc := D.int) (f := fun _ => .bl true) l [] (fun x hx => ⟨_, rfl, rfl, by simp [hi, whole_int]⟩) (by simp; omega)
  rw [hc]; simp
/-- the value of a fraction -/
def sg (t b : Int) : Int := if b < 0 then -((Nat.gcd t.natAbs b.natAbs : Nat) : Int) else ((Nat.gcd t.natAbs b.natAbs : Nat) : Int)
def fr (t b : Int) : D := .tup (zs [t.fdiv (sg t b), b.fdiv (sg t b)])
theorem sg_nz {t b : Int} (h : b ≠ 0) : sg t b ≠ 0 := by
  have : 0 < Nat.gcd t.natAbs b.natAbs := Nat.gcd_pos_of_pos_right _ (by omega)
  unfold sg; split <;> omega
theorem sg_bd {n : Nat} {t b : Int} (h : b ≠ 0) (hb : Bd n b) : Bd n (sg t b) := by
  have h1 : Bd n ((Nat.gcd t.natAbs b.natAbs : Nat) : Int) := hb.of_dvd h (Nat.gcd_dvd_right _ _)
  unfold sg; split
  · exact h1.neg
  · exact h1
theorem ratio_ok {t b : Int} {n : Nat} (h : b ≠ 0) (hb : Bd n b) (hn : n ≤ 9000) : d_ratio [.int t, .int b] = .ok (fr t b) := by
  have k1 : okDiv t (sg t b) = true := (sg_bd (t := t) h hb).okD hn (sg_nz h)
  have k2 : okDiv b (sg t b) = true := (sg_bd (t := t) h hb).okD hn (sg_nz h)
  refine wpr_eq (wpr_F (wps_nx (ρ1 := [.im (.int t), .im (.int b), .un]) (by simp [h]) ?_))
  refine wps_nx (ρ1 := [.im (.int t), .im (.int b), .im (.int (Nat.gcd t.natAbs b.natAbs : Nat))]) (by simp) ?_
  refine wps_nx (ρ1 := [.im (.int t), .im (.int b), .im (.int (sg t b))]) ?_ (wps_r (d := fr t b) (by simp [k1, k2, fr]) rfl)
  by_cases hneg : b < 0
  · simp [hneg, sg]
  · simp [hneg, sg]
theorem fraction_ok {t b : Int} {n : Nat} (h : b ≠ 0) (hb : Bd n b) (hn : n ≤ 9000) : d_law_fraction [.int t, .int b] = .ok (fr t b) := by
  have k1 : okDiv t (sg t b) = true := (sg_bd (t := t) h hb).okD hn (sg_nz h)
  have k2 : okDiv b (sg t b) = true := (sg_bd (t := t) h hb).okD hn (sg_nz h)
  refine wpr_eq (wpr_F (wps_nx (ρ1 := [.im (.int t), .im (.int b), .im (.int (Nat.gcd t.natAbs b.natAbs : Nat))]) (by simp [gcd_ok]) ?_))
  refine wps_nx (ρ1 := [.im (.int t), .im (.int b), .im (.int (sg t b))]) ?_ (wps_r (d := fr t b) (by simp [k1, k2, fr]) rfl)
  by_cases hneg : b < 0
  · simp [hneg, sg]
  · simp [hneg, sg]
theorem fr_same (t b : Int) : fNe (fr t b) (fr t b) = some (.bl false) := by unfold fr; rw [fNe_tt]; simp
theorem zs_same (l : List Int) : fNe (.tup (zs l)) (.tup (zs l)) = some (.bl false) := by rw [fNe_tt]; simp
/-- a place: its numbers and its bottom, in lowest terms -/
structure Pl (l : List Int) (b : Int) : Prop where
  n : BL 200 l
  m : Bd 40 b
  p : 0 < b
  g : gl (b :: l) = 1
theorem dim_ok (l : List Int) (b : Int) : d_dimension_of [pz l b] = .ok (.int (l.length : Int)) := by
  unfold d_dimension_of m_dimension_of
  simp
theorem nth_bd {n : Nat} {l : List Int} {k : Nat} (h : BL n l) (hk : k < l.length) : Bd n l[k]! := by
  rw [List.getElem!_eq_getElem?_getD, List.getElem?_eq_getElem hk]
  exact h _ (List.getElem_mem hk)
theorem row_bd {n m : Nat} {f : Nat → Int} (h : ∀ k, k < n → Bd m (f k)) : BL m ((List.range n).map f) := by
  intro x hx
  obtain ⟨k, hk, rfl⟩ := List.mem_map.mp hx
  exact h k (by simpa using hk)
def midn (l m : List Int) (b c : Int) : List Int := (List.range l.length).map fun k => l[k]! * c + m[k]! * b
theorem middle_ok {l m : List Int} {b c : Int} (hl : Pl l b) (hm : Pl m c) (e : m.length = l.length) (hs : l.length ≤ 1000) : d_middle [pz l b, pz m c] = .ok (pz (rn (midn l m b c) (2 * b * c)) (rb (midn l m b c) (2 * b * c))) := by
  have hr := mRng1_ok (m := mVar 2) (ρ := [.im (pz l b), .im (pz m c), .im (.int (l.length : Int)), .un, .un]) (j := (l.length : Int)) l.length (by simp) rfl (by omega)
  have hc := rowc (i := 4) (ρ := [.im (pz l b), .im (pz m c), .im (.int (l.length : Int)), .un, .un]) (me := mOp2 fAdd (mOp2 fMul (mOp2 fIx (mVar 0) (mVar 4)) (mOp2 fIx (mVar 1) (mOp1 fNeg (mI 1)))) (mOp2 fMul (mOp2 fIx (mVar 1) (mVar 4)) (mOp2 fIx (mVar 0) (mOp1 fNeg (mI 1))))) (f := fun k => l[k]! * c + m[k]! * b) (n := l.length) (fun k hk => by
    have k1 : okMul l[k]! c = true := (nth_bd hl.n hk).okM hm.m (by decide)
    have k2 : okMul m[k]! b = true := (nth_bd hm.n (by omega)).okM hl.m (by decide)
    simp only [mOp2_d, mOp1_d, mVar_d, mC_d, List.set_cons_succ, List.set_cons_zero, List.getElem?_cons_succ, List.getElem?_cons_zero, bind_ok, pz_num hk, pz_num (show k < m.length by omega), fNeg_i, pz_last, ofO_some, fMul_ii, k1, k2, if_true, fAdd_ii]) hs
  have hp : 0 < 2 * b * c := Int.mul_pos (Int.mul_pos (by decide) hl.p) hm.p
  have b2 : Bd 2 (2 : Int) := by show (2 : Int).natAbs < 2 ^ 2; decide
  have hb : Bd 82 (2 * b * c) := (b2.mul hl.m).mul hm.m
  have k1 : okMul 2 b = true := b2.okM hl.m (by decide)
  have k2 : okMul (2 * b) c = true := (b2.mul hl.m).okM hm.m (by decide)
  have hpt := point_ok (NS.l (midn l m b c)) (b := 2 * b * c) (by omega) hb (by decide) (by simp [midn]; exact hs)
  rw [if_neg (by omega)] at hpt
  refine wpr_eq (wpr_F (wps_nx (ρ1 := [.im (pz l b), .im (pz m c), .im (.int (l.length : Int)), .un, .un]) (by simp [dim_ok]) ?_))
  refine wps_nx (ρ1 := [.im (pz l b), .im (pz m c), .im (.int (l.length : Int)), .im (.lst (zs (midn l m b c))), .un]) ?_ ?_
  · simp only [sSet_d, mFz_d, mLc_d, wipeE_cons, wipeE_nil, List.set_cons_succ, List.set_cons_zero]
    rw [hr, bind_ok, hc]
    rfl
  · exact wps_r (d := pz (rn (midn l m b c) (2 * b * c)) (rb (midn l m b c) (2 * b * c))) (by
      simp only [sRet_d, mCall_d, mCons_d, mNil_d, mOp2_d, mOp1_d, mVar_d, mC_d, List.getElem?_cons_succ, List.getElem?_cons_zero, bind_ok, fNeg_i, pz_last, ofO_some, fMul_ii, k1, k2, if_true, List.length_cons, List.length_nil, hpt, runE_ok]) rfl
def movn (l a : List Int) (b s t : Int) : List Int := (List.range l.length).map fun k => l[k]! * t + a[k]! * s * b
theorem moved_ok {l a : List Int} {b s t : Int} (hl : Pl l b) (ha : BL 10 a) (e : a.length = l.length) (hs : l.length ≤ 1000) (h1 : Bd 20 s) (h2 : Bd 20 t) (h3 : 0 < t) : d_moved [pz l b, .tup (zs a), .tup (zs [s, t])] = .ok (pz (rn (movn l a b s t) (b * t)) (rb (movn l a b s t) (b * t))) := by
  have hr := mRng1_ok (m := mVar 3) (ρ := [.im (pz l b), .im (.tup (zs a)), .im (.tup (zs [s, t])), .im (.int (l.length : Int)), .un, .un]) (j := (l.length : Int)) l.length (by simp) rfl (by omega)
  have hc := rowc (i := 5) (ρ := [.im (pz l b), .im (.tup (zs a)), .im (.tup (zs [s, t])), .im (.int (l.length : Int)), .un, .un]) (me := mOp2 fAdd (mOp2 fMul (mOp2 fIx (mVar 0) (mVar 5)) (mOp2 fIx (mVar 2) (mI 1))) (mOp2 fMul (mOp2 fMul (mOp2 fIx (mVar 1) (mVar 5)) (mOp2 fIx (mVar 2) (mI 0))) (mOp2 fIx (mVar 0) (mOp1 fNeg (mI 1))))) (f := fun k => l[k]! * t + a[k]! * s * b) (n := l.length) (fun k hk => by
    have k1 : okMul l[k]! t = true := (nth_bd hl.n hk).okM h2 (by decide)
    have k2 : okMul a[k]! s = true := (nth_bd ha (by omega)).okM h1 (by decide)
    have k3 : okMul (a[k]! * s) b = true := ((nth_bd ha (by omega)).mul h1).okM hl.m (by decide)
    have i1 : fIx (.tup (zs [s, t])) (.int 1) = some (.int t) := rfl
    have i0 : fIx (.tup (zs [s, t])) (.int 0) = some (.int s) := rfl
    simp only [mOp2_d, mOp1_d, mVar_d, mC_d, List.set_cons_succ, List.set_cons_zero, List.getElem?_cons_succ, List.getElem?_cons_zero, bind_ok, pz_num hk, (NS.t a).ix k (by omega), i1, i0, fNeg_i, pz_last, ofO_some, fMul_ii, k1, k2, k3, if_true, fAdd_ii]) hs
  have hp : 0 < b * t := Int.mul_pos hl.p h3
  have hb : Bd 60 (b * t) := hl.m.mul h2
  have k1 : okMul b t = true := hl.m.okM h2 (by decide)
  have hpt := point_ok (NS.l (movn l a b s t)) (b := b * t) (by omega) hb (by decide) (by simp [movn]; exact hs)
  rw [if_neg (by omega)] at hpt
  have i1 : fIx (.tup (zs [s, t])) (.int 1) = some (.int t) := rfl
  refine wpr_eq (wpr_F (wps_nx (ρ1 := [.im (pz l b), .im (.tup (zs a)), .im (.tup (zs [s, t])), .im (.int (l.length : Int)), .un, .un]) (by simp [dim_ok]) ?_))
  refine wps_nx (ρ1 := [.im (pz l b), .im (.tup (zs a)), .im (.tup (zs [s, t])), .im (.int (l.length : Int)), .im (.lst (zs (movn l a b s t))), .un]) ?_ ?_
  · simp only [sSet_d, mFz_d, mLc_d, wipeE_cons, wipeE_nil, List.set_cons_succ, List.set_cons_zero]
    rw [hr, bind_ok, hc]
    rfl
  · exact wps_r (d := pz (rn (movn l a b s t) (b * t)) (rb (movn l a b s t) (b * t))) (by
      simp only [sRet_d, mCall_d, mCons_d, mNil_d, mOp2_d, mOp1_d, mVar_d, mC_d, List.getElem?_cons_succ, List.getElem?_cons_zero, bind_ok, fNeg_i, pz_last, i1, ofO_some, fMul_ii, k1, if_true, List.length_cons, List.length_nil, hpt, runE_ok]) rfl
def alng (a l : List Int) : Int := ((List.range a.length).map fun k => a[k]! * l[k]!).sum
theorem alng_bd {a l : List Int} (ha : BL 10 a) (hl : BL 200 l) (e : a.length = l.length) : Bd (210 + a.length) (alng a l) := Bd.sum (row_bd fun k hk => (nth_bd ha hk).mul (nth_bd hl (by omega))) (by simp)
theorem product_ok {l a : List Int} {b : Int} (hl : Pl l b) (ha : BL 10 a) (e : a.length = l.length) (hs : l.length ≤ 1000) : d_product [.tup (zs a), pz l b] = .ok (fr (alng a l) b) := by
  have hr := mRng1_ok (m := mOpA fLen (mCons (mVar 0) mNil)) (ρ := [.im (.tup (zs a)), .im (pz l b), .un]) (j := (a.length : Int)) a.length (by simp) rfl (by omega)
  have hc := rowc (i := 2) (ρ := [.im (.tup (zs a)), .im (pz l b), .un]) (me := mOp2 fMul (mOp2 fIx (mVar 0) (mVar 2)) (mOp2 fIx (mVar 1) (mVar 2))) (f := fun k => a[k]! * l[k]!) (n := a.length) (fun k hk => by
    have k1 : okMul a[k]! l[k]! = true := (nth_bd ha hk).okM (nth_bd hl.n (by omega)) (by decide)
    simp only [mOp2_d, mVar_d, List.set_cons_succ, List.set_cons_zero, List.getElem?_cons_succ, List.getElem?_cons_zero, bind_ok, (NS.t a).ix k hk, pz_num (show k < l.length by omega), ofO_some, fMul_ii, k1, if_true]) (by omega)
  have hq := ratio_ok (t := alng a l) (b := b) (by have := hl.p; omega) hl.m (by decide)
  refine wpr_eq (wpr_F ?_)
  show wps (m_product [.im (.tup (zs a)), .im (pz l b), .un]) _
  unfold m_product
  refine wps_r (d := fr (alng a l) b) ?_ rfl
  simp only [sRet_d, mCall_d, mCons_d, mNil_d, mOpA_d, mFz_d, mLc_d, wipeE_cons, wipeE_nil, List.set_cons_succ, List.set_cons_zero]
  rw [hr, bind_ok, hc]
  have hq : d_ratio [.int ((List.range a.length).map fun k => a[k]! * l[k]!).sum, .int b] = .ok (fr (alng a l) b) := hq
  generalize ((List.range a.length).map fun k => a[k]! * l[k]!) = L at hq
  simp only [bind_ok, Cnd_l, List.nil_append, fSum_l, intsOf_ints, Option.map_some, ofO_some, mOp2_d, mVar_d, List.getElem?_cons_succ, List.getElem?_cons_zero, mOp1_d, mC_d, fNeg_i, pz_last, List.length_cons, List.length_nil, if_true, hq, runE_ok]
theorem along_ok {l a : List Int} {b : Int} (hl : Pl l b) (ha : BL 10 a) (e : a.length = l.length) (hs : l.length ≤ 1000) : d_law_along [.tup (zs a), pz l b] = .ok (fr (alng a l) b) := by
  have hr := mRng1_ok (m := mOpA fLen (mCons (mVar 0) mNil)) (ρ := [.im (.tup (zs a)), .im (pz l b), .un]) (j := (a.length : Int)) a.length (by simp) rfl (by omega)
  have hc := rowc (i := 2) (ρ := [.im (.tup (zs a)), .im (pz l b), .un]) (me := mOp2 fMul (mOp2 fIx (mVar 0) (mVar 2)) (mOp2 fIx (mVar 1) (mVar 2))) (f := fun k => a[k]! * l[k]!) (n := a.length) (fun k hk => by
    have k1 : okMul a[k]! l[k]! = true := (nth_bd ha hk).okM (nth_bd hl.n (by omega)) (by decide)
    simp only [mOp2_d, mVar_d, List.set_cons_succ, List.set_cons_zero, List.getElem?_cons_succ, List.getElem?_cons_zero, bind_ok, (NS.t a).ix k hk, pz_num (show k < l.length by omega), ofO_some, fMul_ii, k1, if_true]) (by omega)
  have hq := fraction_ok (t := alng a l) (b := b) (by have := hl.p; omega) hl.m (by decide)
  refine wpr_eq (wpr_F ?_)
  show wps (m_law_along [.im (.tup (zs a)), .im (pz l b), .un]) _
  unfold m_law_along
  refine wps_r (d := fr (alng a l) b) ?_ rfl
  simp only [sRet_d, mCall_d, mCons_d, mNil_d, mOpA_d, mFz_d, mLc_d, wipeE_cons, wipeE_nil, List.set_cons_succ, List.set_cons_zero]
  rw [hr, bind_ok, hc]
  have hq : d_law_fraction [.int ((List.range a.length).map fun k => a[k]! * l[k]!).sum, .int b] = .ok (fr (alng a l) b) := hq
  generalize ((List.range a.length).map fun k => a[k]! * l[k]!) = L at hq
  simp only [bind_ok, Cnd_l, List.nil_append, fSum_l, intsOf_ints, Option.map_some, ofO_some, mOp2_d, mVar_d, List.getElem?_cons_succ, List.getElem?_cons_zero, mOpA_d, mCons_d, mNil_d, (NS.t a).ln, pz_bot (l := l) (b := b) (show (a.length : Int) = l.length by omega), List.length_cons, List.length_nil, if_true, hq, runE_ok]
end Cm
namespace Cm
open PySem FL L2
/-- the way from one place to another, times both bottoms -/
def dif (l m : List Int) (b c : Int) : List Int := (List.range l.length).map fun k => m[k]! * b - l[k]! * c
theorem dif_bd {l m : List Int} {b c : Int} (hl : Pl l b) (hm : Pl m c) (e : m.length = l.length) : BL 241 (dif l m b c) := row_bd fun k hk => ((nth_bd hm.n (by omega)).mul hl.m).sub ((nth_bd hl.n hk).mul hm.m)
theorem dif_len (l m : List Int) (b c : Int) : (dif l m b c).length = l.length := by simp [dif]
theorem difference_ok {l m : List Int} {b c : Int} (hl : Pl l b) (hm : Pl m c) (e : m.length = l.length) (hs : l.length ≤ 1000) : d_difference [pz l b, pz m c] = .ok (.tup (zs (dif l m b c))) := by
  have hr := mRng1_ok (m := mCall 1 d_dimension_of (mCons (mVar 0) mNil)) (ρ := [.im (pz l b), .im (pz m c), .un]) (j := (l.length : Int)) l.length (by simp [dim_ok]) rfl (by omega)
  have hc := rowc (i := 2) (ρ := [.im (pz l b), .im (pz m c), .un]) (me := mOp2 fSub (mOp2 fMul (mOp2 fIx (mVar 1) (mVar 2)) (mOp2 fIx (mVar 0) (mOp1 fNeg (mI 1)))) (mOp2 fMul (mOp2 fIx (mVar 0) (mVar 2)) (mOp2 fIx (mVar 1) (mOp1 fNeg (mI 1))))) (f := fun k => m[k]! * b - l[k]! * c) (n := l.length) (fun k hk => by
    have k1 : okMul l[k]! c = true := (nth_bd hl.n hk).okM hm.m (by decide)
    have k2 : okMul m[k]! b = true := (nth_bd hm.n (by omega)).okM hl.m (by decide)
    simp only [mOp2_d, mOp1_d, mVar_d, mC_d, List.set_cons_succ, List.set_cons_zero, List.getElem?_cons_succ, List.getElem?_cons_zero, bind_ok, pz_num hk, pz_num (show k < m.length by omega), fNeg_i, pz_last, ofO_some, fMul_ii, k1, k2, if_true, fSub_ii]) hs
  refine wpr_eq (wpr_F ?_)
  show wps (m_difference [.im (pz l b), .im (pz m c), .un]) _
  unfold m_difference
  refine wps_r (d := .tup (zs (dif l m b c))) ?_ rfl
  simp only [sRet_d, mCons_d, mNil_d, mOpA_d, mFz_d, mLc_d, wipeE_cons, wipeE_nil, List.set_cons_succ, List.set_cons_zero]
  rw [hr, bind_ok, hc]
  simp only [bind_ok, Cnd_l, List.nil_append, fTuple_l, ofO_some, runE_ok]
  rfl
def sqs (l : List Int) : Int := (l.map fun x => x * x).sum
theorem sqs_c {i : Nat} {ρ : En} {l : List Int} (hi : i < ρ.length) (hl : BL 241 l) (hs : l.length ≤ 1000) : compL (bName i) mYes (mOp2 fMul (mVar i) (mVar i)) ρ (zs l) [] = .ok (.l (zs (l.map fun x => x * x))) :=
  mapc (fun x hx => by
    have k1 : okMul x x = true := (hl x hx).okM (hl x hx) (by decide)
    simp [hi, k1]) hs
theorem squared_ok {l m : List Int} {b c : Int} (hl : Pl l b) (hm : Pl m c) (e : m.length = l.length) (hs : l.length ≤ 1000) : d_squared [pz l b, pz m c] = .ok (fr (sqs (dif l m b c)) (b * c * (b * c))) := by
  have hc := sqs_c (i := 3) (ρ := [.im (pz l b), .im (pz m c), .im (.int (b * c)), .un]) (by simp) (dif_bd hl hm e) (by rw [dif_len]; exact hs)
  have hp : 0 < b * c := Int.mul_pos hl.p hm.p
  have hp2 : 0 < b * c * (b * c) := Int.mul_pos hp hp
  have k1 : okMul b c = true := hl.m.okM hm.m (by decide)
  have k2 : okMul (b * c) (b * c) = true := (hl.m.mul hm.m).okM (hl.m.mul hm.m) (by decide)
  have hq := ratio_ok (t := sqs (dif l m b c)) (b := b * c * (b * c)) (by omega) ((hl.m.mul hm.m).mul (hl.m.mul hm.m)) (by decide)
  have hd := difference_ok hl hm e hs
  refine wpr_eq (wpr_F (wps_nx (ρ1 := [.im (pz l b), .im (pz m c), .im (.int (b * c)), .un]) (by simp [k1]) ?_))
  refine wps_r (d := fr (sqs (dif l m b c)) (b * c * (b * c))) ?_ rfl
  have hq : d_ratio [.int ((dif l m b c).map fun x => x * x).sum, .int (b * c * (b * c))] = .ok (fr (sqs (dif l m b c)) (b * c * (b * c))) := hq
  generalize ((dif l m b c).map fun x => x * x) = L at hq hc
  simp only [sRet_d, mCall_d, mCons_d, mNil_d, mOpA_d, mFz_d, mLc_d, mSeq_d, mVar_d, wipeE_cons, wipeE_nil, List.set_cons_succ, List.set_cons_zero, List.getElem?_cons_succ, List.getElem?_cons_zero, bind_ok, List.length_cons, List.length_nil, if_true, hd, elems_tup, ofO_some, hc, Cnd_l, List.nil_append, fSum_l, intsOf_ints, Option.map_some, mOp2_d, fMul_ii, k2, hq, runE_ok]
theorem square_ok {l m : List Int} {b c : Int} (hl : Pl l b) (hm : Pl m c) (e : m.length = l.length) (hs : l.length ≤ 1000) : d_law_square [pz l b, pz m c] = .ok (fr (sqs (dif l m b c)) (b * c * (b * c))) := by
  have hr := mRng1_ok (m := mVar 2) (ρ := [.im (pz l b), .im (pz m c), .im (.int (l.length : Int)), .un, .un, .un]) (j := (l.length : Int)) l.length (by simp) rfl (by omega)
  have hc1 := rowc (i := 4) (ρ := [.im (pz l b), .im (pz m c), .im (.int (l.length : Int)), .un, .un, .un]) (me := mOp2 fSub (mOp2 fMul (mOp2 fIx (mVar 0) (mVar 4)) (mOp2 fIx (mVar 1) (mVar 2))) (mOp2 fMul (mOp2 fIx (mVar 1) (mVar 4)) (mOp2 fIx (mVar 0) (mVar 2)))) (f := fun k => l[k]! * c - m[k]! * b) (n := l.length) (fun k hk => by
    have k1 : okMul l[k]! c = true := (nth_bd hl.n hk).okM hm.m (by decide)
    have k2 : okMul m[k]! b = true := (nth_bd hm.n (by omega)).okM hl.m (by decide)
    simp only [mOp2_d, mVar_d, List.set_cons_succ, List.set_cons_zero, List.getElem?_cons_succ, List.getElem?_cons_zero, bind_ok, pz_num hk, pz_num (show k < m.length by omega), pz_bot (l := l) (b := b) rfl, pz_bot (l := m) (b := c) (show (l.length : Int) = m.length by omega), ofO_some, fMul_ii, k1, k2, if_true, fSub_ii]) hs
  have e1 : ((List.range l.length).map fun k => l[k]! * c - m[k]! * b) = ng (dif l m b c) := by
    unfold ng dif
    rw [List.map_map]
    apply List.map_congr_left
    intro k _
    show _ = -(_ - _)
    omega
  rw [e1] at hc1
  have e2 : sqs (ng (dif l m b c)) = sqs (dif l m b c) := by
    unfold sqs ng
    rw [List.map_map]
    exact congrArg List.sum (List.map_congr_left fun x _ => Int.neg_mul_neg x x)
  have hb : BL 241 (ng (dif l m b c)) := by
    intro x hx
    obtain ⟨y, hy, rfl⟩ := List.mem_map.mp hx
    exact (dif_bd hl hm e y hy).neg
  have hlen : (ng (dif l m b c)).length ≤ 1000 := by rw [ng_len, dif_len]; exact hs
  have hc := sqs_c (i := 5) (ρ := [.im (pz l b), .im (pz m c), .im (.int (l.length : Int)), .im (.lst (zs (ng (dif l m b c)))), .un, .un]) (by simp) hb hlen
  have eb : b * b * c * c = b * c * (b * c) := by grind
  have hp : 0 < b * c := Int.mul_pos hl.p hm.p
  have hp2 : 0 < b * c * (b * c) := Int.mul_pos hp hp
  have k1 : okMul b b = true := hl.m.okM hl.m (by decide)
  have k2 : okMul (b * b) c = true := (hl.m.mul hl.m).okM hm.m (by decide)
  have k3 : okMul (b * b * c) c = true := ((hl.m.mul hl.m).mul hm.m).okM hm.m (by decide)
  have hq := fraction_ok (t := sqs (ng (dif l m b c))) (b := b * c * (b * c)) (by omega) ((hl.m.mul hm.m).mul (hl.m.mul hm.m)) (by decide)
  rw [e2] at hq
  refine wpr_eq (wpr_F (wps_nx (ρ1 := [.im (pz l b), .im (pz m c), .im (.int (l.length : Int)), .un, .un, .un]) (by simp) ?_))
  refine wps_nx (ρ1 := [.im (pz l b), .im (pz m c), .im (.int (l.length : Int)), .im (.lst (zs (ng (dif l m b c)))), .un, .un]) ?_ ?_
  · simp only [sSet_d, mFz_d, mLc_d, wipeE_cons, wipeE_nil, List.set_cons_succ, List.set_cons_zero]
    rw [hr, bind_ok, hc1]
    simp only [bind_ok, Cnd_l, List.nil_append, runE_ok]
  refine wps_r (d := fr (sqs (dif l m b c)) (b * c * (b * c))) ?_ rfl
  have hq : d_law_fraction [.int ((ng (dif l m b c)).map fun x => x * x).sum, .int (b * c * (b * c))] = .ok (fr (sqs (dif l m b c)) (b * c * (b * c))) := by rw [← e2]; rw [← e2] at hq; exact hq
  generalize ((ng (dif l m b c)).map fun x => x * x) = L at hq hc
  simp only [sRet_d, mCall_d, mCons_d, mNil_d, mOpA_d, mFz_d, mLc_d, mSeq_d, mVar_d, wipeE_cons, wipeE_nil, List.set_cons_succ, List.set_cons_zero, List.getElem?_cons_succ, List.getElem?_cons_zero, bind_ok, List.length_cons, List.length_nil, if_true, elems_lst, ofO_some, hc, Cnd_l, List.nil_append, fSum_l, intsOf_ints, Option.map_some, mOp2_d, fMul_ii, pz_bot (l := l) (b := b) rfl, pz_bot (l := m) (b := c) (show (l.length : Int) = m.length by omega), k1, k2, k3, eb, hq, runE_ok]
/-- the sign of the first number that is not 0, turned -/
def sgn1 : List Int → Int
  | [] => 0
  | x :: l => if 0 < x then -1 else if x < 0 then 1 else sgn1 l
theorem compare_ok {l m : List Int} {b c : Int} (hl : Pl l b) (hm : Pl m c) (e : m.length = l.length) (hs : l.length ≤ 1000) : d_compare_points [pz l b, pz m c] = .ok (.int (sgn1 (dif l m b c))) := by
  have hd := difference_ok hl hm e hs
  generalize dif l m b c = L at hd
  refine wpr_eq (wpr_F (wps_seq ?_))
  refine wps_for L .int (by simp [hd]) (fun pre ρ => ∃ z, ρ = [.im (pz l b), .im (pz m c), z] ∧ ∀ post, L = pre ++ post → sgn1 L = sgn1 post) ⟨.un, rfl, fun post h => by rw [h]; rfl⟩ ?_ ?_
  · rintro pre x post ρ e1 ⟨z, rfl, hz⟩
    have h1 := hz _ e1
    refine ⟨_, rfl, wps_seq ?_⟩
    by_cases p : 0 < x
    · refine wps_r (d := .int (-1)) (by simp [p]) ?_
      rw [h1]; show D.int (-1) = D.int (sgn1 (x :: post)); simp [sgn1, p]
    · refine wps_n (ρ := [.im (pz l b), .im (pz m c), .im (.int x)]) (by simp [p]) ?_
      show wps _ _
      by_cases q : x < 0
      · refine wps_r (d := .int 1) (by simp [q]) ?_
        rw [h1]; show D.int 1 = D.int (sgn1 (x :: post)); simp [sgn1, p, q]
      · refine wps_n (ρ := [.im (pz l b), .im (pz m c), .im (.int x)]) (by simp [q]) ⟨_, rfl, fun post' h => ?_⟩
        have : post' = post := by
          rw [h, List.append_assoc] at e1
          have := List.append_cancel_left e1
          simpa using this
        subst this
        rw [h1]; simp [sgn1, p, q]
  · rintro ρ ⟨z, rfl, hz⟩
    have h1 := hz [] (by simp)
    rw [h1]
    exact wps_r (d := .int 0) (by simp) rfl
theorem iszero_ok (l : List Int) : d_is_zero [.tup (zs l)] = .ok (.bl (l.all fun x => decide (x = 0))) := by
  refine wpr_eq (wpr_F (wps_seq ?_))
  refine wps_for l .int (by simp) (fun pre ρ => ∃ z, ρ = [.im (.tup (zs l)), z] ∧ ∀ x ∈ pre, x = 0) ⟨.un, rfl, by simp⟩ ?_ ?_
  · rintro pre x post ρ e1 ⟨z, rfl, hz⟩
    refine ⟨_, rfl, ?_⟩
    by_cases h : x = 0
    · refine wps_n (ρ := [.im (.tup (zs l)), .im (.int x)]) (by simp [h]) ⟨_, rfl, fun y hy => ?_⟩
      rcases List.mem_append.mp hy with h' | h'
      · exact hz y h'
      · simp at h'; rw [h', h]
    · refine wps_r (d := .bl false) (by simp [h]) ?_
      have : (l.all fun x => decide (x = 0)) = false := by
        rw [List.all_eq_false]
        exact ⟨x, by rw [e1]; simp, by simp [h]⟩
      rw [this]; rfl
  · rintro ρ ⟨z, rfl, hz⟩
    have : (l.all fun x => decide (x = 0)) = true := by
      rw [List.all_eq_true]
      intro x hx
      simp [hz x hx]
    rw [this]
    exact wps_r (d := .bl true) (by simp) rfl
theorem short_gen {l : List Int} (h : ∃ x ∈ l, x ≠ 0) (hb : BL 241 l) (hl : l.length ≤ 1000) : d_plain [.tup (zs l)] = .ok (.tup (zs (sh l))) ∧ d_law_short [.tup (zs l)] = .ok (.tup (zs (sh l))) := by
  have hp := gl_pos h
  have hg : Bd 241 (gl l : Int) := by
    obtain ⟨x, hx, h0⟩ := h
    exact (hb x hx).of_dvd h0 (gl_dvd hx)
  have hc := divs (ρ := [.im (.tup (zs l)), .im (.int (gl l : Int)), .un]) (i := 2) (mg := mVar 1) (l := l) hg (by decide) (by omega) (by simp) (fun x => by simp) hl
  have fin : ∀ z, wps (sRet (mOpA fTuple (mCons (mFz (mLc (bName 2) [2] (mSeq (mVar 0)) mYes (mOp2 fFdiv (mVar 2) (mVar 1)))) mNil)) [.im (.tup (zs l)), .im (.int (gl l : Int)), z]) (PF fun d => d = .tup (zs (sh l))) := fun z => by
    refine wps_r (d := .tup (zs (sh l))) ?_ rfl
    simp only [sRet_d, mOpA_d, mCons_d, mNil_d, mFz_d, mLc_d, mSeq_d, mVar_d, wipeE_cons, wipeE_nil, List.set_cons_succ, List.set_cons_zero, List.getElem?_cons_succ, List.getElem?_cons_zero, bind_ok, elems_tup, ofO_some, hc, Cnd_l, fTuple_l, runE_ok]
    rfl
  constructor
  · refine wpr_eq (wpr_F (wps_nx rfl (wps_seq ?_)))
    refine wps_for l .int rfl (fun pre ρ => ∃ z, ρ = [.im (.tup (zs l)), .im (.int (gl pre : Int)), z]) ⟨_, rfl⟩ ?_ ?_
    · rintro pre x post ρ e ⟨z, rfl⟩
      exact ⟨_, rfl, wps_n rfl ⟨.im (.int x), by simp [gl_snoc]⟩⟩
    · rintro ρ ⟨z, rfl⟩
      exact fin z
  · refine wpr_eq (wpr_F (wps_nx rfl (wps_seq ?_)))
    refine wps_for l .int rfl (fun pre ρ => ∃ z, ρ = [.im (.tup (zs l)), .im (.int (gl pre : Int)), z]) ⟨_, rfl⟩ ?_ ?_
    · rintro pre x post ρ e ⟨z, rfl⟩
      exact ⟨_, rfl, wps_n (by simp [gcd_ok]; rfl) ⟨.im (.int x), by simp [gl_snoc]⟩⟩
    · rintro ρ ⟨z, rfl⟩
      exact fin z
theorem sgn1_zero : ∀ {l : List Int}, sgn1 l = 0 ↔ ∀ x ∈ l, x = 0
  | [] => by simp [sgn1]
  | x :: l => by
    unfold sgn1
    by_cases p : 0 < x
    · simp [p]; omega
    · by_cases q : x < 0
      · simp [p, q]; omega
      · have : x = 0 := by omega
        subst this
        simp [sgn1_zero (l := l)]
theorem direction_ok {l m : List Int} {b c : Int} (hl : Pl l b) (hm : Pl m c) (e : m.length = l.length) (hs : l.length ≤ 1000) : d_direction [pz l b, pz m c] = .ok (if sgn1 (dif l m b c) = 0 then .non else .tup (zs (sh (dif l m b c)))) := by
  have hd := difference_ok hl hm e hs
  have hb := dif_bd hl hm e
  have hlen : (dif l m b c).length ≤ 1000 := by rw [dif_len]; exact hs
  generalize dif l m b c = L at hd hb hlen
  have hz := iszero_ok L
  refine wpr_eq (wpr_F (wps_nx (ρ1 := [.im (pz l b), .im (pz m c), .im (.tup (zs L))]) (by simp [hd]) (wps_seq ?_)))
  by_cases h : sgn1 L = 0
  · have : (L.all fun x => decide (x = 0)) = true := by
      rw [List.all_eq_true]; intro x hx; simp [sgn1_zero.mp h x hx]
    rw [this] at hz
    rw [if_pos h]
    exact wps_r (d := .non) (by simp [hz]) rfl
  · have hne : ∃ x ∈ L, x ≠ 0 := by
      by_cases q : ∃ x ∈ L, x ≠ 0
      · exact q
      · refine absurd (sgn1_zero.mpr fun x hx => ?_) h
        by_cases r : x = 0
        · exact r
        · exact absurd ⟨x, hx, r⟩ q
    have : (L.all fun x => decide (x = 0)) = false := by
      obtain ⟨x, hx, h0⟩ := hne
      rw [List.all_eq_false]; exact ⟨x, hx, by simp [h0]⟩
    rw [this] at hz
    rw [if_neg h]
    have hp := (short_gen hne hb hlen).1
    refine wps_n (ρ := [.im (pz l b), .im (pz m c), .im (.tup (zs L))]) (by simp [hz]) ?_
    exact wps_r (d := .tup (zs (sh L))) (by simp [hp]) rfl
end Cm
namespace Cm
open PySem FL L2
abbrev Plc := List Int × Int
def ep (p : Plc) : D := pz p.1 p.2
/-- places of one size, shares that are not all 0 -/
structure Ms (P : List Plc) (S : List Int) (n : Nat) : Prop where
  pl : ∀ p ∈ P, Pl p.1 p.2 ∧ p.1.length = n
  len : P.length ≤ 10
  sl : S.length = P.length
  sb : BL 10 S
  ne : P ≠ []
  pos : 0 < S.sum
theorem ep_ix {P : List Plc} {k : Nat} (h : k < P.length) : fIx (.lst (P.map ep)) (.int (k : Int)) = some (ep P[k]!) := by
  show L2.atI (P.map ep) (k : Int) = _
  rw [FL.atI_nat, List.getElem?_map, List.getElem!_eq_getElem?_getD, List.getElem?_eq_getElem h]
  rfl
theorem ep_ixT {P : List Plc} {k : Nat} (h : k < P.length) : fIx (.tup (P.map ep)) (.int (k : Int)) = some (ep P[k]!) := ep_ix h
theorem mem_at {P : List Plc} {k : Nat} (h : k < P.length) : P[k]! ∈ P := by
  rw [List.getElem!_eq_getElem?_getD, List.getElem?_eq_getElem h]
  exact List.getElem_mem h
/-- one share's part in one number, B a common bottom -/
def tmv (P : List Plc) (S : List Int) (B : Int) (k j : Nat) : Int := S[j]! * P[j]!.1[k]! * B.fdiv P[j]!.2
def Tm (P : List Plc) (S : List Int) (B : Int) (k i : Nat) : Int := ((List.range i).map (tmv P S B k)).sum
theorem Tm_succ (P : List Plc) (S : List Int) (B : Int) (k i : Nat) : Tm P S B k (i + 1) = Tm P S B k i + tmv P S B k i := by
  unfold Tm
  rw [List.range_succ, List.map_append, List.sum_append]
  simp
def mixn (P : List Plc) (S : List Int) (B : Int) (n : Nat) : List Int := (List.range n).map fun k => Tm P S B k P.length
/-- both common bottoms -/
def bigB (P : List Plc) : Int := P.foldl (fun a p => a * p.2) 1
def lowB (P : List Plc) : Int := P.foldl (fun a p => (a * p.2).fdiv ((Nat.gcd a.natAbs p.2.natAbs : Nat) : Int)) 1
theorem lcm_step {a b : Int} (ha : 0 < a) (hb : 0 < b) : 0 < (a * b).fdiv ((Nat.gcd a.natAbs b.natAbs : Nat) : Int) ∧ a ∣ (a * b).fdiv ((Nat.gcd a.natAbs b.natAbs : Nat) : Int) ∧ b ∣ (a * b).fdiv ((Nat.gcd a.natAbs b.natAbs : Nat) : Int) ∧ (a * b).fdiv ((Nat.gcd a.natAbs b.natAbs : Nat) : Int) ∣ a * b := by
  obtain ⟨x, rfl⟩ := Int.eq_ofNat_of_zero_le (show 0 ≤ a by omega)
  obtain ⟨y, rfl⟩ := Int.eq_ofNat_of_zero_le (show 0 ≤ b by omega)
  have hx : 0 < x := by omega
  have hy : 0 < y := by omega
  have hg : 0 < Nat.gcd x y := Nat.gcd_pos_of_pos_left _ hx
  have e : ((x : Int) * (y : Int)).fdiv ((Nat.gcd x y : Nat) : Int) = ((Nat.lcm x y : Nat) : Int) := by
    rw [Int.fdiv_eq_ediv_of_nonneg _ (by omega)]
    unfold Nat.lcm
    rw [← Int.natCast_mul, ← Int.natCast_ediv]
  rw [Int.natAbs_natCast, Int.natAbs_natCast, e]
  have hl : 0 < Nat.lcm x y := Nat.lcm_pos hx hy
  refine ⟨by omega, Int.natCast_dvd_natCast.mpr (Nat.dvd_lcm_left _ _), Int.natCast_dvd_natCast.mpr (Nat.dvd_lcm_right _ _), ?_⟩
  rw [← Int.natCast_mul]
  exact Int.natCast_dvd_natCast.mpr (Nat.lcm_dvd_mul _ _)
/-- what is true of both after each place -/
theorem bots : ∀ (P : List Plc) (a c : Int), (∀ p ∈ P, 0 < p.2) → 0 < a → 0 < c → a ∣ c →
    0 < P.foldl (fun a p => (a * p.2).fdiv ((Nat.gcd a.natAbs p.2.natAbs : Nat) : Int)) a ∧ 0 < P.foldl (fun a p => a * p.2) c ∧
    a ∣ P.foldl (fun a p => (a * p.2).fdiv ((Nat.gcd a.natAbs p.2.natAbs : Nat) : Int)) a ∧
    (∀ p ∈ P, p.2 ∣ P.foldl (fun a p => (a * p.2).fdiv ((Nat.gcd a.natAbs p.2.natAbs : Nat) : Int)) a) ∧
    P.foldl (fun a p => (a * p.2).fdiv ((Nat.gcd a.natAbs p.2.natAbs : Nat) : Int)) a ∣ P.foldl (fun a p => a * p.2) c
  | [], a, c, _, ha, hc, h => ⟨ha, hc, Int.dvd_refl _, fun _ hp => (nomatch hp), h⟩
  | p :: P, a, c, hp, ha, hc, h => by
    obtain ⟨s1, s2, s3, s4⟩ := lcm_step ha (hp p (by simp))
    have hcp : 0 < c * p.2 := Int.mul_pos hc (hp p (by simp))
    have hd : (a * p.2).fdiv ((Nat.gcd a.natAbs p.2.natAbs : Nat) : Int) ∣ c * p.2 := Int.dvd_trans s4 (Int.mul_dvd_mul h (Int.dvd_refl _))
    obtain ⟨q1, q2, q3, q4, q5⟩ := bots P _ (c * p.2) (fun q hq => hp q (by simp [hq])) s1 hcp hd
    refine ⟨q1, q2, Int.dvd_trans s2 q3, fun q hq => ?_, q5⟩
    rcases List.mem_cons.mp hq with rfl | hq
    · exact Int.dvd_trans s3 q3
    · exact q4 q hq
theorem big_bd : ∀ (P : List Plc) (c : Int) (n : Nat), (∀ p ∈ P, Bd 40 p.2) → Bd n c → Bd (n + 40 * P.length) (P.foldl (fun a p => a * p.2) c)
  | [], c, n, _, h => h
  | p :: P, c, n, hp, h => by
    have := big_bd P (c * p.2) (n + 40) (fun q hq => hp q (by simp [hq])) (h.mul (hp p (by simp)))
    refine this.mono ?_
    simp only [List.length_cons]; omega
theorem dvd_bd {n : Nat} {a b : Int} (h : Bd n b) (hb : 0 < b) (d : a ∣ b) : Bd n a := by
  unfold Bd at *
  exact Nat.lt_of_le_of_lt (Nat.le_of_dvd (by omega) (Int.natAbs_dvd_natAbs.mpr d)) h
section
variable {P : List Plc} {S : List Int} {n : Nat}
theorem Ms.bots (h : Ms P S n) : 0 < lowB P ∧ 0 < bigB P ∧ (∀ p ∈ P, p.2 ∣ lowB P) ∧ lowB P ∣ bigB P := by
  obtain ⟨q1, q2, _, q4, q5⟩ := Cm.bots P 1 1 (fun p hp => (h.pl p hp).1.p) (by decide) (by decide) (Int.dvd_refl _)
  exact ⟨q1, q2, q4, q5⟩
theorem Ms.big (h : Ms P S n) : Bd 401 (bigB P) := (big_bd P 1 1 (fun p hp => (h.pl p hp).1.m) (by show (1 : Int).natAbs < 2 ^ 1; decide)).mono (by have := h.len; omega)
theorem Ms.low (h : Ms P S n) : Bd 401 (lowB P) := dvd_bd h.big h.bots.2.1 h.bots.2.2.2
theorem Ms.quo (h : Ms P S n) {B : Int} (hb : Bd 401 B) {p : Plc} (hp : p ∈ P) (d : p.2 ∣ B) : Bd 401 (B.fdiv p.2) := by
  have h0 := (h.pl p hp).1.p
  refine hb.of_div (g := p.2) (by omega) ?_
  rw [Int.fdiv_eq_ediv_of_nonneg _ (by omega)]
  exact Int.ediv_mul_cancel d
theorem Ms.tbd (h : Ms P S n) {B : Int} (hb : Bd 401 B) (d : ∀ p ∈ P, p.2 ∣ B) {k j : Nat} (hk : k < n) (hj : j < P.length) : Bd 611 (tmv P S B k j) :=
  ((nth_bd h.sb (by rw [h.sl]; exact hj)).mul (nth_bd (h.pl _ (mem_at hj)).1.n (by rw [(h.pl _ (mem_at hj)).2]; exact hk))).mul (h.quo hb (mem_at hj) (d _ (mem_at hj)))
theorem Ms.ssum (h : Ms P S n) : Bd 20 S.sum := Bd.sum h.sb (by rw [h.sl]; exact h.len)
/-- the same place by both bottoms -/
theorem Ms.same (h : Ms P S n) : rn (mixn P S (lowB P) n) (lowB P * S.sum) = rn (mixn P S (bigB P) n) (bigB P * S.sum) ∧ rb (mixn P S (lowB P) n) (lowB P * S.sum) = rb (mixn P S (bigB P) n) (bigB P * S.sum) := by
  obtain ⟨h1, h2, h3, c, hc⟩ := h.bots
  have hcp : 0 < c := by
    rw [hc] at h2
    by_cases q : 0 < c
    · exact q
    · have : lowB P * c ≤ 0 := Int.mul_nonpos_of_nonneg_of_nonpos (by omega) (by omega)
      omega
  have e1 : mixn P S (bigB P) n = (mixn P S (lowB P) n).map (c * ·) := by
    unfold mixn
    rw [List.map_map]
    apply List.map_congr_left
    intro k _
    show Tm P S (bigB P) k P.length = c * Tm P S (lowB P) k P.length
    have key : ∀ i, i ≤ P.length → Tm P S (bigB P) k i = c * Tm P S (lowB P) k i := by
      intro i
      induction i with
      | zero => intro _; simp [Tm]
      | succ i ih =>
        intro hi
        rw [Tm_succ, Tm_succ, ih (by omega), Int.mul_add]
        have e : tmv P S (bigB P) k i = c * tmv P S (lowB P) k i := by
          unfold tmv
          have hp := mem_at (P := P) (k := i) (by omega)
          have h0 := (h.pl _ hp).1.p
          obtain ⟨q, hq⟩ := h3 _ hp
          have a1 : (bigB P).fdiv P[i]!.2 = q * c := by rw [hc, hq, Int.fdiv_eq_ediv_of_nonneg _ (by omega), Int.mul_assoc]; exact Int.mul_ediv_cancel_left _ (by omega)
          have a2 : (lowB P).fdiv P[i]!.2 = q := by rw [hq, Int.fdiv_eq_ediv_of_nonneg _ (by omega)]; exact Int.mul_ediv_cancel_left _ (by omega)
          rw [a1, a2]
          grind
        rw [e]
    exact key _ (Nat.le_refl _)
  have e2 : bigB P * S.sum = c * (lowB P * S.sum) := by rw [hc]; grind
  have hs := h.pos
  have hp : 0 < lowB P * S.sum := Int.mul_pos h1 hs
  obtain ⟨r1, r2⟩ := r_scale (l := mixn P S (lowB P) n) (b := lowB P * S.sum) hcp (by omega)
  rw [e1, e2]
  exact ⟨r1.symm, r2.symm⟩
end
end Cm
namespace Cm
open PySem FL L2
theorem foldl_snoc {α β : Type} (f : β → α → β) (c : β) (l : List α) (x : α) : (l ++ [x]).foldl f c = f (l.foldl f c) x := by simp
theorem map_set {n j : Nat} {f g : Nat → Int} (hj : j < n) (h : ∀ k, k < n → k ≠ j → g k = f k) : ((List.range n).map f).set j (g j) = (List.range n).map g := by
  apply List.ext_getElem
  · simp
  · intro i h1 h2
    have hi : i < n := by simpa using h2
    rw [List.getElem_set]
    by_cases e : j = i
    · subst e; simp
    · rw [if_neg e]; simp [h i hi (Ne.symm e)]
theorem mean_ok {P : List Plc} {S : List Int} {n : Nat} {s : D} (h : Ms P S n) (hs : NS s S) (hsum : fSum [s] = some (.int S.sum)) (hn : n ≤ 1000) : d_law_mean [.lst (P.map ep), s] = .ok (pz (rn (mixn P S (bigB P) n) (bigB P * S.sum)) (rb (mixn P S (bigB P) n) (bigB P * S.sum))) := by
  obtain ⟨h1, h2, h3, h4⟩ := h.bots
  have hlen := List.length_pos_iff.mpr h.ne
  have h0 := h.pl _ (mem_at hlen)
  have hd3 : ∀ p ∈ P, p.2 ∣ bigB P := fun p hp => Int.dvd_trans (h3 p hp) h4
  have hpos := h.pos
  refine wpr_eq (wpr_F (wps_nx (ρ1 := [.im (.lst (P.map ep)), .im s, .im (.int (n : Int)), .un, .un, .un, .un, .un, .un]) ?_ (wps_nx (ρ1 := [.im (.lst (P.map ep)), .im s, .im (.int (n : Int)), .im (.int 1), .un, .un, .un, .un, .un]) (by simp) (wps_seq ?_))))
  · have i0 : fIx (.lst (P.map ep)) (.int 0) = some (ep P[0]!) := ep_ix (k := 0) hlen
    have l0 : fLen [ep P[0]!] = some (.int ((P[0]!.1.length : Int) + 1)) := pz_len _ _
    show sSet _ _ _ = _
    simp only [sSet_d, mOp2_d, mOpA_d, mCons_d, mNil_d, mVar_d, mC_d, startE_d, List.map_cons, List.map_nil, List.cons_append, List.nil_append, List.getElem?_cons_zero, List.getElem?_cons_succ, bind_ok, i0, l0, ofO_some, fSub_ii, runE_ok, h0.2]
    rw [Int.add_sub_cancel]
    rfl
  refine wps_for P ep rfl (fun pre ρ => ∃ z, ρ = [.im (.lst (P.map ep)), .im s, .im (.int (n : Int)), .im (.int (pre.foldl (fun a p => a * p.2) 1)), z, .un, .un, .un, .un]) ⟨_, rfl⟩ ?_ ?_
  · rintro pre p post ρ e ⟨z, rfl⟩
    have hp := h.pl p (by rw [e]; simp)
    have hb : Bd (1 + 40 * pre.length) (pre.foldl (fun a p => a * p.2) 1) := big_bd pre 1 1 (fun q hq => (h.pl q (by rw [e]; simp [hq])).1.m) (by show (1 : Int).natAbs < 2 ^ 1; decide)
    have hl : pre.length ≤ 10 := by have := congrArg List.length e; have := h.len; simp at *; omega
    have k1 : okMul (pre.foldl (fun a p => a * p.2) 1) p.2 = true := hb.okM hp.1.m (by omega)
    have ib : fIx (ep p) (.int (n : Int)) = some (.int p.2) := pz_bot (by rw [hp.2])
    refine ⟨_, rfl, wps_n (ρ := [.im (.lst (P.map ep)), .im s, .im (.int (n : Int)), .im (.int ((pre ++ [p]).foldl (fun a p => a * p.2) 1)), .im (ep p), .un, .un, .un, .un]) ?_ ⟨_, rfl⟩⟩
    rw [foldl_snoc]
    simp [ib, k1]
  rintro ρ ⟨z, rfl⟩
  have eB : P.foldl (fun a p => a * p.2) 1 = bigB P := rfl
  rw [eB]
  generalize hB : bigB P = B at *
  have hBb : Bd 401 B := by rw [← hB]; exact h.big
  refine wps_nx (ρ1 := [.im (.lst (P.map ep)), .im s, .im (.int (n : Int)), .im (.int B), z, .ow false (.l []), .un, .un, .un]) (by simp) (wps_seq ?_)
  have hr := mRng1_ok (m := mVar 2) (ρ := [.im (.lst (P.map ep)), .im s, .im (.int (n : Int)), .im (.int B), z, .ow false (.l []), .un, .un, .un]) (j := (n : Int)) n (by simp) rfl (by omega)
  refine wps_for (List.range n) (fun (k : Nat) => D.int (k : Int)) hr (fun pre ρ => ∃ y1 y2 y3, ρ = [.im (.lst (P.map ep)), .im s, .im (.int (n : Int)), .im (.int B), z, .ow false (.l (zs ((List.range pre.length).map fun k => Tm P S B k P.length))), y1, y2, y3]) ⟨_, _, _, rfl⟩ ?_ ?_
  · rintro pre k post ρ e ⟨y1, y2, y3, rfl⟩
    obtain ⟨rfl, hk⟩ := range_split e
    generalize hi : pre.length = i at *
    refine ⟨_, rfl, wps_nx (ρ1 := [.im (.lst (P.map ep)), .im s, .im (.int (n : Int)), .im (.int B), z, .ow false (.l (zs ((List.range i).map fun k => Tm P S B k P.length))), .im (.int (i : Int)), .im (.int 0), y3]) (by simp) (wps_seq ?_)⟩
    have hr2 := mRng1_ok (m := mOpA fLen (mCons (mVar 0) mNil)) (ρ := [.im (.lst (P.map ep)), .im s, .im (.int (n : Int)), .im (.int B), z, .ow false (.l (zs ((List.range i).map fun k => Tm P S B k P.length))), .im (.int (i : Int)), .im (.int 0), y3]) (j := (P.length : Int)) P.length (by simp) rfl (by have := h.len; omega)
    refine wps_for (List.range P.length) (fun (k : Nat) => D.int (k : Int)) hr2 (fun pre2 ρ => ∃ y4, ρ = [.im (.lst (P.map ep)), .im s, .im (.int (n : Int)), .im (.int B), z, .ow false (.l (zs ((List.range i).map fun k => Tm P S B k P.length))), .im (.int (i : Int)), .im (.int (Tm P S B i pre2.length)), y4]) ⟨_, rfl⟩ ?_ ?_
    · rintro pre2 j post2 ρ e2 ⟨y4, rfl⟩
      obtain ⟨rfl, hj⟩ := range_split e2
      generalize hq : pre2.length = q at *
      have hp := h.pl _ (mem_at hj)
      have k1 : okMul S[q]! P[q]!.1[i]! = true := (nth_bd h.sb (by rw [h.sl]; exact hj)).okM (nth_bd hp.1.n (by rw [hp.2]; exact hk)) (by decide)
      have k2 : okMul (S[q]! * P[q]!.1[i]!) (B.fdiv P[q]!.2) = true := ((nth_bd h.sb (by rw [h.sl]; exact hj)).mul (nth_bd hp.1.n (by rw [hp.2]; exact hk))).okM (h.quo hBb (mem_at hj) (hd3 _ (mem_at hj))) (by decide)
      have k3 : okDiv B P[q]!.2 = true := hp.1.m.okD (by decide) (by have := hp.1.p; omega)
      have i1 : fIx (.lst (P.map ep)) (.int (q : Int)) = some (ep P[q]!) := ep_ix hj
      have i2 : fIx (ep P[q]!) (.int (i : Int)) = some (.int P[q]!.1[i]!) := pz_num (by rw [hp.2]; exact hk)
      have i3 : fIx (ep P[q]!) (.int (n : Int)) = some (.int P[q]!.2) := pz_bot (by rw [hp.2])
      have i4 := hs.ix q (by rw [h.sl]; exact hj)
      refine ⟨_, rfl, wps_n (ρ := [.im (.lst (P.map ep)), .im s, .im (.int (n : Int)), .im (.int B), z, .ow false (.l (zs ((List.range i).map fun k => Tm P S B k P.length))), .im (.int (i : Int)), .im (.int (Tm P S B i (q + 1))), .im (.int (q : Int))]) ?_ ⟨.im (.int (q : Int)), by simp [hq]⟩⟩
      rw [Tm_succ]
      unfold tmv
      generalize zs ((List.range i).map fun k => Tm P S B k P.length) = Z
      simp only [sSet_d, mOp2_d, mVar_d, List.set_cons_succ, List.set_cons_zero, List.getElem?_cons_succ, List.getElem?_cons_zero, bind_ok, i1, i2, i3, i4, ofO_some, fMul_ii, k1, k2, if_true, fFdiv_ii, k3, fAdd_ii, runE_ok]
    · rintro ρ ⟨y4, rfl⟩
      rw [List.length_range]
      refine wps_n (ρ := [.im (.lst (P.map ep)), .im s, .im (.int (n : Int)), .im (.int B), z, .ow false (.l (zs ((List.range (i + 1)).map fun k => Tm P S B k P.length))), .im (.int (i : Int)), .im (.int (Tm P S B i P.length)), y4]) ?_ ⟨.im (.int (i : Int)), .im (.int (Tm P S B i P.length)), y4, by simp [hi]⟩
      have e3 : zs ((List.range (i + 1)).map fun k => Tm P S B k P.length) = zs ((List.range i).map fun k => Tm P S B k P.length) ++ [.int (Tm P S B i P.length)] := by
        rw [List.range_succ, List.map_append]; simp
      have hl : (zs ((List.range i).map fun k => Tm P S B k P.length)).length < 16777215 := by simp; omega
      rw [e3]
      generalize zs ((List.range i).map fun k => Tm P S B k P.length) = Z at hl
      simp only [sApp_d, mVar_d, mCons_d, mNil_d, List.set_cons_succ, List.set_cons_zero, List.getElem?_cons_succ, List.getElem?_cons_zero, bind_ok, runE_ok, hl, if_true]
  · rintro ρ ⟨y1, y2, y3, rfl⟩
    rw [List.length_range]
    have k1 : okMul B S.sum = true := hBb.okM h.ssum (by decide)
    have hp : 0 < B * S.sum := Int.mul_pos h2 hpos
    have hq := reduced_ok (NS.l (mixn P S B n)) (b := B * S.sum) hp (hBb.mul h.ssum) (by decide) (by simp [mixn]; exact hn)
    have e4 : ((List.range n).map fun k => Tm P S B k P.length) = mixn P S B n := rfl
    rw [e4]
    generalize mixn P S B n = M at hq
    refine wps_r (d := pz (rn M (B * S.sum)) (rb M (B * S.sum))) ?_ rfl
    simp only [sFrz_d, frz1_d, Cnd_l, sRet_d, mCall_d, mOp2_d, mOpA_d, mVar_d, mCons_d, mNil_d, List.set_cons_succ, List.set_cons_zero, List.getElem?_cons_succ, List.getElem?_cons_zero, bind_ok, hsum, ofO_some, fMul_ii, k1, if_true, List.length_cons, List.length_nil, hq, runE_ok]
theorem mixed_ok {P : List Plc} {S : List Int} {n : Nat} (h : Ms P S n) (hn : n ≤ 1000) : d_mixed [.tup (P.map ep), .tup (zs S)] = .ok (pz (rn (mixn P S (lowB P) n) (lowB P * S.sum)) (rb (mixn P S (lowB P) n) (lowB P * S.sum))) := by
  obtain ⟨h1, h2, h3, h4⟩ := h.bots
  have hlen := List.length_pos_iff.mpr h.ne
  have h0 := h.pl _ (mem_at hlen)
  have hpos := h.pos
  have dim : d_dimension_of [ep P[0]!] = .ok (.int (n : Int)) := by
    have := dim_ok P[0]!.1 P[0]!.2
    rw [h0.2] at this; exact this
  refine wpr_eq (wpr_F (wps_nx (ρ1 := [.im (.tup (P.map ep)), .im (.tup (zs S)), .im (.int (n : Int)), .un, .un, .un, .un, .un]) ?_ (wps_nx (ρ1 := [.im (.tup (P.map ep)), .im (.tup (zs S)), .im (.int (n : Int)), .im (.int 1), .un, .un, .un, .un]) (by simp) (wps_seq ?_))))
  · have i0 : fIx (.tup (P.map ep)) (.int 0) = some (ep P[0]!) := ep_ixT (k := 0) hlen
    show sSet _ _ _ = _
    simp only [sSet_d, mCall_d, mOp2_d, mCons_d, mNil_d, mVar_d, mC_d, startE_d, List.map_cons, List.map_nil, List.cons_append, List.nil_append, List.getElem?_cons_zero, List.getElem?_cons_succ, bind_ok, i0, ofO_some, List.length_cons, List.length_nil, if_true, dim, runE_ok]
    rfl
  have step : ∀ pre p post, P = pre ++ p :: post → 0 < pre.foldl (fun a p => (a * p.2).fdiv ((Nat.gcd a.natAbs p.2.natAbs : Nat) : Int)) 1 ∧ Bd 401 (pre.foldl (fun a p => (a * p.2).fdiv ((Nat.gcd a.natAbs p.2.natAbs : Nat) : Int)) 1) := fun pre p post e => by
    have hm : ∀ q ∈ pre, q ∈ P := fun q hq => by rw [e]; simp [hq]
    obtain ⟨q1, q2, _, _, q5⟩ := Cm.bots pre 1 1 (fun q hq => (h.pl q (hm q hq)).1.p) (by decide) (by decide) (Int.dvd_refl _)
    have hb : Bd (1 + 40 * pre.length) (pre.foldl (fun a p => a * p.2) 1) := big_bd pre 1 1 (fun q hq => (h.pl q (hm q hq)).1.m) (by show (1 : Int).natAbs < 2 ^ 1; decide)
    have hl : pre.length ≤ 10 := by have := congrArg List.length e; have := h.len; simp at *; omega
    exact ⟨q1, (dvd_bd hb q2 q5).mono (by omega)⟩
  refine wps_for P ep rfl (fun pre ρ => ∃ z, ρ = [.im (.tup (P.map ep)), .im (.tup (zs S)), .im (.int (n : Int)), .im (.int (pre.foldl (fun a p => (a * p.2).fdiv ((Nat.gcd a.natAbs p.2.natAbs : Nat) : Int)) 1)), z, .un, .un, .un]) ⟨_, rfl⟩ ?_ ?_
  · rintro pre p post ρ e ⟨z, rfl⟩
    have hp := h.pl p (by rw [e]; simp)
    obtain ⟨s1, s2⟩ := step pre p post e
    rw [foldl_snoc]
    generalize pre.foldl (fun a p => (a * p.2).fdiv ((Nat.gcd a.natAbs p.2.natAbs : Nat) : Int)) 1 = A at s1 s2
    have k1 : okMul A p.2 = true := s2.okM hp.1.m (by decide)
    have hg : 0 < Nat.gcd A.natAbs p.2.natAbs := Nat.gcd_pos_of_pos_left _ (by omega)
    have k2 : okDiv (A * p.2) ((Nat.gcd A.natAbs p.2.natAbs : Nat) : Int) = true := (s2.of_dvd (by omega) (Nat.gcd_dvd_left _ _)).okD (by decide) (by omega)
    have ib : fIx (ep p) (.int (-1)) = some (.int p.2) := pz_last _ _
    refine ⟨_, rfl, wps_n (ρ := [.im (.tup (P.map ep)), .im (.tup (zs S)), .im (.int (n : Int)), .im (.int ((A * p.2).fdiv ((Nat.gcd A.natAbs p.2.natAbs : Nat) : Int))), .im (ep p), .un, .un, .un]) ?_ ⟨_, rfl⟩⟩
    simp [ib, k1, k2]
  rintro ρ ⟨z, rfl⟩
  have eB : P.foldl (fun a p => (a * p.2).fdiv ((Nat.gcd a.natAbs p.2.natAbs : Nat) : Int)) 1 = lowB P := rfl
  rw [eB]
  have hBb : Bd 401 (lowB P) := h.low
  generalize hB : lowB P = B at *
  have hr := mRng1_ok (m := mVar 2) (ρ := [.im (.tup (P.map ep)), .im (.tup (zs S)), .im (.int (n : Int)), .im (.int B), z, .un, .un, .un]) (j := (n : Int)) n (by simp) rfl (by omega)
  have hc := rowc (i := 5) (ρ := [.im (.tup (P.map ep)), .im (.tup (zs S)), .im (.int (n : Int)), .im (.int B), z, .un, .un, .un]) (me := mI 0) (f := fun k => Tm P S B k 0) (n := n) (fun k hk => rfl) hn
  have hz : zipOf [.tup (P.map ep), .tup (zs S)] = some ((List.range P.length).map fun j => D.tup [ep P[j]!, .int S[j]!]) := by
    refine congrArg some ?_
    unfold zipD
    apply List.ext_getElem
    · simp [h.sl]
    · intro j q1 q2
      have hj : j < P.length := by simpa using q2
      have hj2 : j < S.length := by rw [h.sl]; exact hj
      simp [hj, hj2]
  refine wps_nx (ρ1 := [.im (.tup (P.map ep)), .im (.tup (zs S)), .im (.int (n : Int)), .im (.int B), z, .un, .ow false (.l (zs ((List.range n).map fun k => Tm P S B k 0))), .un]) ?_ (wps_seq ?_)
  · simp only [sOwn_d, mLc_d, wipeE_cons, wipeE_nil, List.set_cons_succ, List.set_cons_zero]
    rw [hr, bind_ok, hc]
    simp only [List.nil_append, runE_ok, List.set_cons_succ, List.set_cons_zero]
  refine wps_for (List.range P.length) (fun j => D.tup [ep P[j]!, .int S[j]!]) ?_ (fun pre ρ => ∃ y1 y2 y3, ρ = [.im (.tup (P.map ep)), .im (.tup (zs S)), .im (.int (n : Int)), .im (.int B), y1, y2, .ow false (.l (zs ((List.range n).map fun k => Tm P S B k pre.length))), y3]) ⟨_, _, _, rfl⟩ ?_ ?_
  · show (Res.bind _ _) = _
    generalize zs ((List.range n).map fun k => Tm P S B k 0) = Z
    simp only [mCons_d, mNil_d, mVar_d, List.getElem?_cons_succ, List.getElem?_cons_zero, bind_ok, hz, ofO_some]
  · rintro pre j post ρ e ⟨y1, y2, y3, rfl⟩
    obtain ⟨rfl, hj⟩ := range_split e
    generalize hi : pre.length = j at *
    have hp := h.pl _ (mem_at hj)
    refine ⟨[.im (.tup (P.map ep)), .im (.tup (zs S)), .im (.int (n : Int)), .im (.int B), .im (ep P[j]!), y2, .ow false (.l (zs ((List.range n).map fun k => Tm P S B k j))), .im (.int S[j]!)], rfl, ?_⟩
    have hr2 := mRng1_ok (m := mVar 2) (ρ := [.im (.tup (P.map ep)), .im (.tup (zs S)), .im (.int (n : Int)), .im (.int B), .im (ep P[j]!), y2, .ow false (.l (zs ((List.range n).map fun k => Tm P S B k j))), .im (.int S[j]!)]) (j := (n : Int)) n (by simp) rfl (by omega)
    refine wps_for (List.range n) (fun (k : Nat) => D.int (k : Int)) hr2 (fun pre2 ρ => ∃ y4, ρ = [.im (.tup (P.map ep)), .im (.tup (zs S)), .im (.int (n : Int)), .im (.int B), .im (ep P[j]!), y4, .ow false (.l (zs ((List.range n).map fun k => if k < pre2.length then Tm P S B k (j + 1) else Tm P S B k j))), .im (.int S[j]!)]) ⟨y2, by simp⟩ ?_ ?_
    · rintro pre2 k post2 ρ e2 ⟨y4, rfl⟩
      obtain ⟨rfl, hk⟩ := range_split e2
      generalize hq : pre2.length = k at *
      have k1 : okMul S[j]! P[j]!.1[k]! = true := (nth_bd h.sb (by rw [h.sl]; exact hj)).okM (nth_bd hp.1.n (by rw [hp.2]; exact hk)) (by decide)
      have k2 : okMul (S[j]! * P[j]!.1[k]!) (B.fdiv P[j]!.2) = true := ((nth_bd h.sb (by rw [h.sl]; exact hj)).mul (nth_bd hp.1.n (by rw [hp.2]; exact hk))).okM (h.quo hBb (mem_at hj) (h3 _ (mem_at hj))) (by decide)
      have k3 : okDiv B P[j]!.2 = true := hp.1.m.okD (by decide) (by have := hp.1.p; omega)
      have i2 : fIx (ep P[j]!) (.int (k : Int)) = some (.int P[j]!.1[k]!) := pz_num (by rw [hp.2]; exact hk)
      have i3 : fIx (ep P[j]!) (.int (-1)) = some (.int P[j]!.2) := pz_last _ _
      have es : (zs ((List.range n).map fun q => if q < k then Tm P S B q (j + 1) else Tm P S B q j)).set k (.int (Tm P S B k (j + 1))) = zs ((List.range n).map fun q => if q < k + 1 then Tm P S B q (j + 1) else Tm P S B q j) := by
        have := map_set (n := n) (j := k) (f := fun q => if q < k then Tm P S B q (j + 1) else Tm P S B q j) (g := fun q => if q < k + 1 then Tm P S B q (j + 1) else Tm P S B q j) hk (fun q _ hne => by
          by_cases a : q < k
          · rw [if_pos (by omega), if_pos a]
          · rw [if_neg (by omega), if_neg a])
        rw [if_pos (by omega)] at this
        show (List.map D.int _).set k (.int _) = _
        rw [← List.map_set, this]
      have eg : (zs ((List.range n).map fun q => if q < k then Tm P S B q (j + 1) else Tm P S B q j))[k]? = some (.int (Tm P S B k j)) := by simp [hk]
      have el : (zs ((List.range n).map fun q => if q < k then Tm P S B q (j + 1) else Tm P S B q j)).length = n := by simp
      refine ⟨_, rfl, wps_n (ρ := [.im (.tup (P.map ep)), .im (.tup (zs S)), .im (.int (n : Int)), .im (.int B), .im (ep P[j]!), .im (.int (k : Int)), .ow false (.l (zs ((List.range n).map fun q => if q < k + 1 then Tm P S B q (j + 1) else Tm P S B q j))), .im (.int S[j]!)]) ?_ ⟨.im (.int (k : Int)), by simp [hq]⟩⟩
      rw [← es]
      generalize zs ((List.range n).map fun q => if q < k then Tm P S B q (j + 1) else Tm P S B q j) = Z at eg el
      have ei : fIx (.lst Z) (.int (k : Int)) = some (.int (Tm P S B k j)) := by show L2.atI Z _ = _; rw [FL.atI_nat, eg]
      have ej : L2.ixN Z.length (k : Int) = some k := by
        unfold L2.ixN
        rw [if_pos (by omega), if_pos (by omega)]; simp
      rw [Tm_succ]
      unfold tmv
      simp only [sIdx_d, mIxO_d, mOp2_d, mVar_d, mOp1_d, mC_d, fNeg_i, List.set_cons_succ, List.set_cons_zero, List.getElem?_cons_succ, List.getElem?_cons_zero, bind_ok, i2, i3, ei, ej, ofO_some, fMul_ii, k1, k2, if_true, fFdiv_ii, k3, fAdd_ii, runE_ok]
    · rintro ρ ⟨y4, rfl⟩
      refine ⟨.im (ep P[j]!), y4, .im (.int S[j]!), ?_⟩
      have e9 : ((List.range n).map fun k => if k < (List.range n).length then Tm P S B k (j + 1) else Tm P S B k j) = (List.range n).map fun k => Tm P S B k (pre ++ [j]).length := by
        apply List.map_congr_left
        intro k hk
        have hk : k < n := by simpa using hk
        rw [if_pos (by simpa using hk)]; simp [hi]
      rw [e9]
  · rintro ρ ⟨y1, y2, y3, rfl⟩
    rw [List.length_range]
    have k1 : okMul B S.sum = true := hBb.okM h.ssum (by decide)
    have hp : 0 < B * S.sum := Int.mul_pos h1 hpos
    have hq := point_ok (NS.l (mixn P S B n)) (b := B * S.sum) (by omega) (hBb.mul h.ssum) (by decide) (by simp [mixn]; exact hn)
    rw [if_neg (by omega)] at hq
    have e4 : ((List.range n).map fun k => Tm P S B k P.length) = mixn P S B n := rfl
    rw [e4]
    generalize mixn P S B n = M at hq
    refine wps_r (d := pz (rn M (B * S.sum)) (rb M (B * S.sum))) ?_ rfl
    simp only [sFrz_d, frz1_d, Cnd_l, sRet_d, mCall_d, mOp2_d, mOpA_d, mVar_d, mCons_d, mNil_d, List.set_cons_succ, List.set_cons_zero, List.getElem?_cons_succ, List.getElem?_cons_zero, bind_ok, fSum_t, intsOf_ints, Option.map_some, ofO_some, fMul_ii, k1, if_true, List.length_cons, List.length_nil, hq, runE_ok]
end Cm
namespace Cm
open PySem FL L2
theorem sgn1_snoc : ∀ (l : List Int) (x : Int), sgn1 (l ++ [x]) = if sgn1 l = 0 then sgn1 [x] else sgn1 l
  | [], x => rfl
  | y :: l, x => by
    show (if 0 < y then -1 else if y < 0 then 1 else sgn1 (l ++ [x])) = if (if 0 < y then -1 else if y < 0 then 1 else sgn1 l) = 0 then sgn1 [x] else (if 0 < y then -1 else if y < 0 then 1 else sgn1 l)
    rw [sgn1_snoc l x]
    by_cases p : 0 < y
    · simp [p]
    · by_cases q : y < 0
      · simp [p, q]
      · simp [p, q]
theorem mid_mean {l m : List Int} {b c : Int} (hb : 0 < b) (hc : 0 < c) : mixn [(l, b), (m, c)] [1, 1] (bigB [(l, b), (m, c)]) l.length = midn l m b c ∧ bigB [(l, b), (m, c)] * ([1, 1] : List Int).sum = 2 * b * c := by
  have e : bigB [(l, b), (m, c)] = b * c := by simp [bigB]
  have q1 : (b * c).fdiv b = c := by rw [Int.fdiv_eq_ediv_of_nonneg _ (by omega)]; exact Int.mul_ediv_cancel_left _ (by omega)
  have q2 : (b * c).fdiv c = b := by rw [Int.fdiv_eq_ediv_of_nonneg _ (by omega)]; exact Int.mul_ediv_cancel _ (by omega)
  rw [e]
  constructor
  · unfold mixn midn
    apply List.map_congr_left
    intro k _
    have r2 : List.range 2 = [0, 1] := rfl
    simp [Tm, tmv, r2, q1, q2]
  · simp; grind
theorem two_ok {l m a : List Int} {b c s t : Int} (hl : Pl l b) (hm : Pl m c) (e : m.length = l.length) (hs : l.length ≤ 1000) (ha : BL 10 a) (ea : a.length = l.length) (h1 : Bd 20 s) (h2 : Bd 20 t) (h3 : 0 < t) :
    d_law_two [pz l b, pz m c, .tup (zs a), .tup (zs [s, t])] = .ok (.bl true) := by
  have M : Ms [(l, b), (m, c)] [1, 1] l.length := ⟨fun p hp => by
    simp only [List.mem_cons, List.not_mem_nil, or_false] at hp
    rcases hp with rfl | rfl
    · exact ⟨hl, rfl⟩
    · exact ⟨hm, e⟩, by simp, rfl, fun x hx => by
    simp only [List.mem_cons, List.not_mem_nil, or_false, or_self] at hx
    subst hx
    show (1 : Int).natAbs < 2 ^ 10
    decide, by simp, by decide⟩
  have f1 := middle_ok hl hm e hs
  have f2 := mean_ok (s := .lst (zs [1, 1])) M (NS.l [1, 1]) rfl hs
  obtain ⟨g1, g2⟩ := mid_mean (l := l) (m := m) hl.p hm.p
  rw [g1, g2] at f2
  have f2 : d_law_mean [.lst [pz l b, pz m c], .lst [.int 1, .int 1]] = .ok (pz (rn (midn l m b c) (2 * b * c)) (rb (midn l m b c) (2 * b * c))) := f2
  have n1 := pz_same (rn (midn l m b c) (2 * b * c)) (rb (midn l m b c) (2 * b * c))
  generalize pz (rn (midn l m b c) (2 * b * c)) (rb (midn l m b c) (2 * b * c)) = X1 at f1 f2 n1
  have f3 := squared_ok hl hm e hs
  have f4 := square_ok hl hm e hs
  have n2 := fr_same (sqs (dif l m b c)) (b * c * (b * c))
  generalize fr (sqs (dif l m b c)) (b * c * (b * c)) = X2 at f3 f4 n2
  have f5 := product_ok hl ha ea hs
  have f6 := along_ok hl ha ea hs
  have n3 := fr_same (alng a l) b
  generalize fr (alng a l) b = X3 at f5 f6 n3
  have hbt : 0 < b * t := Int.mul_pos hl.p h3
  have f7 := moved_ok hl ha ea hs h1 h2 h3
  have f8 := reduced_ok (NS.l (movn l a b s t)) (b := b * t) hbt (hl.m.mul h2) (by decide) (by simp [movn]; exact hs)
  have n4 := pz_same (rn (movn l a b s t) (b * t)) (rb (movn l a b s t) (b * t))
  generalize pz (rn (movn l a b s t) (b * t)) (rb (movn l a b s t) (b * t)) = X4 at f7 f8 n4
  have kbt : okMul b t = true := hl.m.okM h2 (by decide)
  have i1 : fIx (.tup (zs [s, t])) (.int 1) = some (.int t) := rfl
  have i0 : fIx (.tup (zs [s, t])) (.int 0) = some (.int s) := rfl
  have ib : fIx (pz l b) (.int (l.length : Int)) = some (.int b) := pz_bot rfl
  have ic : fIx (pz m c) (.int (l.length : Int)) = some (.int c) := pz_bot (by rw [e])
  generalize hT : D.tup (zs [s, t]) = T at *
  refine wpr_eq (wpr_F (wps_nx (ρ1 := [.im (pz l b), .im (pz m c), .im (.tup (zs a)), .im T, .im (.int (l.length : Int)), .un, .un, .un, .un, .un, .un, .un, .un]) (by simp) ?_))
  refine wps_nx (ρ1 := [.im (pz l b), .im (pz m c), .im (.tup (zs a)), .im T, .im (.int (l.length : Int)), .un, .un, .un, .un, .un, .un, .un, .un]) (by simp [f1, f2, n1, f3, f4, n2]) ?_
  refine wps_nx (ρ1 := [.im (pz l b), .im (pz m c), .im (.tup (zs a)), .im T, .im (.int (l.length : Int)), .un, .un, .un, .un, .un, .un, .un, .un]) (by simp [f5, f6, n3]) ?_
  have hr := mRng1_ok (m := mVar 4) (ρ := [.im (pz l b), .im (pz m c), .im (.tup (zs a)), .im T, .im (.int (l.length : Int)), .un, .un, .un, .un, .un, .un, .un, .un]) (j := (l.length : Int)) l.length (by simp) rfl (by omega)
  have hc := rowc (i := 11) (ρ := [.im (pz l b), .im (pz m c), .im (.tup (zs a)), .im T, .im (.int (l.length : Int)), .un, .un, .un, .un, .un, .un, .un, .un]) (me := mOp2 fAdd (mOp2 fMul (mOp2 fIx (mVar 0) (mVar 11)) (mOp2 fIx (mVar 3) (mI 1))) (mOp2 fMul (mOp2 fMul (mOp2 fIx (mVar 2) (mVar 11)) (mOp2 fIx (mVar 3) (mI 0))) (mOp2 fIx (mVar 0) (mVar 4)))) (f := fun k => l[k]! * t + a[k]! * s * b) (n := l.length) (fun k hk => by
    have k1 : okMul l[k]! t = true := (nth_bd hl.n hk).okM h2 (by decide)
    have k2 : okMul a[k]! s = true := (nth_bd ha (by omega)).okM h1 (by decide)
    have k3 : okMul (a[k]! * s) b = true := ((nth_bd ha (by omega)).mul h1).okM hl.m (by decide)
    simp only [mOp2_d, mVar_d, mC_d, List.set_cons_succ, List.set_cons_zero, List.getElem?_cons_succ, List.getElem?_cons_zero, bind_ok, pz_num hk, (NS.t a).ix k (by omega), i1, i0, ib, ofO_some, fMul_ii, k1, k2, k3, if_true, fAdd_ii]) hs
  refine wps_nx (ρ1 := [.im (pz l b), .im (pz m c), .im (.tup (zs a)), .im T, .im (.int (l.length : Int)), .im (.lst (zs (movn l a b s t))), .un, .un, .un, .un, .un, .un, .un]) ?_ ?_
  · simp only [sSet_d, mFz_d, mLc_d, wipeE_cons, wipeE_nil, List.set_cons_succ, List.set_cons_zero]
    rw [hr, bind_ok, hc]
    simp only [bind_ok, Cnd_l, List.nil_append, runE_ok, List.set_cons_succ, List.set_cons_zero]
    rfl
  generalize zs (movn l a b s t) = Z at f8
  refine wps_nx (ρ1 := [.im (pz l b), .im (pz m c), .im (.tup (zs a)), .im T, .im (.int (l.length : Int)), .im (.lst Z), .un, .un, .un, .un, .un, .un, .un]) (by simp [f7, f8, n4, ib, i1, kbt]) ?_
  have hr := mRng1_ok (m := mVar 4) (ρ := [.im (pz l b), .im (pz m c), .im (.tup (zs a)), .im T, .im (.int (l.length : Int)), .im (.lst Z), .un, .un, .un, .un, .un, .un, .un]) (j := (l.length : Int)) l.length (by simp) rfl (by omega)
  have hc := rowc (i := 11) (ρ := [.im (pz l b), .im (pz m c), .im (.tup (zs a)), .im T, .im (.int (l.length : Int)), .im (.lst Z), .un, .un, .un, .un, .un, .un, .un]) (me := mOp2 fSub (mOp2 fMul (mOp2 fIx (mVar 1) (mVar 11)) (mOp2 fIx (mVar 0) (mVar 4))) (mOp2 fMul (mOp2 fIx (mVar 0) (mVar 11)) (mOp2 fIx (mVar 1) (mVar 4)))) (f := fun k => m[k]! * b - l[k]! * c) (n := l.length) (fun k hk => by
    have k1 : okMul l[k]! c = true := (nth_bd hl.n hk).okM hm.m (by decide)
    have k2 : okMul m[k]! b = true := (nth_bd hm.n (by omega)).okM hl.m (by decide)
    simp only [mOp2_d, mVar_d, mC_d, List.set_cons_succ, List.set_cons_zero, List.getElem?_cons_succ, List.getElem?_cons_zero, bind_ok, pz_num hk, pz_num (show k < m.length by omega), ib, ic, ofO_some, fMul_ii, k1, k2, if_true, fSub_ii]) hs
  have hdb := dif_bd hl hm e
  have hdl : (dif l m b c).length ≤ 1000 := by rw [dif_len]; exact hs
  have f9 := compare_ok hl hm e hs
  have f10 := direction_ok hl hm e hs
  have ed : ((List.range l.length).map fun k => m[k]! * b - l[k]! * c) = dif l m b c := rfl
  rw [ed] at hc
  generalize dif l m b c = L at hdb hdl f9 f10 hc
  refine wps_nx (ρ1 := [.im (pz l b), .im (pz m c), .im (.tup (zs a)), .im T, .im (.int (l.length : Int)), .im (.lst Z), .im (.tup (zs L)), .un, .un, .un, .un, .un, .un]) ?_ ?_
  · simp only [sSet_d, mOpA_d, mCons_d, mNil_d, mFz_d, mLc_d, wipeE_cons, wipeE_nil, List.set_cons_succ, List.set_cons_zero]
    rw [hr, bind_ok, hc]
    simp only [bind_ok, Cnd_l, List.nil_append, fTuple_l, ofO_some, runE_ok, List.set_cons_succ, List.set_cons_zero]
  refine wps_nx (ρ1 := [.im (pz l b), .im (pz m c), .im (.tup (zs a)), .im T, .im (.int (l.length : Int)), .im (.lst Z), .im (.tup (zs L)), .im (.int 0), .un, .un, .un, .un, .un]) (by simp) (wps_seq ?_)
  refine wps_for L .int (by simp) (fun pre ρ => ∃ z, ρ = [.im (pz l b), .im (pz m c), .im (.tup (zs a)), .im T, .im (.int (l.length : Int)), .im (.lst Z), .im (.tup (zs L)), .im (.int (sgn1 pre)), z, .un, .un, .un, .un]) ⟨_, rfl⟩ ?_ ?_
  · rintro pre x post ρ e1 ⟨z, rfl⟩
    refine ⟨_, rfl, wps_n (ρ := [.im (pz l b), .im (pz m c), .im (.tup (zs a)), .im T, .im (.int (l.length : Int)), .im (.lst Z), .im (.tup (zs L)), .im (.int (sgn1 (pre ++ [x]))), .im (.int x), .un, .un, .un, .un]) ?_ ⟨_, rfl⟩⟩
    rw [sgn1_snoc]
    by_cases h0 : sgn1 pre = 0
    · rw [if_pos h0]
      have : sgn1 [x] = (if x < 0 then 1 else 0) - (if 0 < x then 1 else 0) := by
        unfold sgn1
        by_cases p : 0 < x
        · have : ¬ x < 0 := by omega
          simp [p, this]
        · by_cases q : x < 0
          · simp [p, q]
          · simp [p, q, sgn1]
      rw [this]
      simp [h0]
    · rw [if_neg h0]
      simp [h0]
  · rintro ρ ⟨z, rfl⟩
    refine wps_nx (ρ1 := [.im (pz l b), .im (pz m c), .im (.tup (zs a)), .im T, .im (.int (l.length : Int)), .im (.lst Z), .im (.tup (zs L)), .im (.int (sgn1 L)), z, .im (.int (sgn1 L)), .un, .un, .un]) (by simp [f9]) ?_
    refine wps_nx (ρ1 := [.im (pz l b), .im (pz m c), .im (.tup (zs a)), .im T, .im (.int (l.length : Int)), .im (.lst Z), .im (.tup (zs L)), .im (.int (sgn1 L)), z, .im (.int (sgn1 L)), .un, .un, .un]) (by simp [whole_int]) ?_
    by_cases h0 : sgn1 L = 0
    · rw [if_pos h0] at f10
      refine wps_nx (ρ1 := [.im (pz l b), .im (pz m c), .im (.tup (zs a)), .im T, .im (.int (l.length : Int)), .im (.lst Z), .im (.tup (zs L)), .im (.int (sgn1 L)), z, .im (.int (sgn1 L)), .im .non, .un, .un]) (by simp [f10]) (wps_seq ?_)
      exact wps_r (d := .bl true) (by simp [h0]) rfl
    · rw [if_neg h0] at f10
      have hne : ∃ x ∈ L, x ≠ 0 := by
        by_cases q : ∃ x ∈ L, x ≠ 0
        · exact q
        · refine absurd (sgn1_zero.mpr fun x hx => ?_) h0
          by_cases r : x = 0
          · exact r
          · exact absurd ⟨x, hx, r⟩ q
      have hsh := (short_gen hne hdb hdl).2
      have hw := whole_all (ρ := [.im (pz l b), .im (pz m c), .im (.tup (zs a)), .im T, .im (.int (l.length : Int)), .im (.lst Z), .im (.tup (zs L)), .im (.int (sgn1 L)), z, .im (.int (sgn1 L)), .im (.tup (zs (sh L))), .un, .un]) (i := 12) (l := sh L) (by simp) (by rw [sh_length]; exact hdl)
      refine wps_nx (ρ1 := [.im (pz l b), .im (pz m c), .im (.tup (zs a)), .im T, .im (.int (l.length : Int)), .im (.lst Z), .im (.tup (zs L)), .im (.int (sgn1 L)), z, .im (.int (sgn1 L)), .im (.tup (zs (sh L))), .un, .un]) (by simp [f10]) ?_
      refine wps_nx (ρ1 := [.im (pz l b), .im (pz m c), .im (.tup (zs a)), .im T, .im (.int (l.length : Int)), .im (.lst Z), .im (.tup (zs L)), .im (.int (sgn1 L)), z, .im (.int (sgn1 L)), .im (.tup (zs (sh L))), .un, .un]) (by simp [h0]) ?_
      exact wps_r (d := .bl true) (by simp [hsh, hw, isi_tuple_tup]) rfl
end Cm
namespace Cm
open PySem FL L2
/-! slices -/
theorem cut_take {xs : List D} {k : Nat} (h : k ≤ xs.length) : cutD xs none (some (k : Int)) = xs.take k := by
  unfold cutD
  rw [HT.sIx_nat, HT.sIx_none, Nat.min_eq_left h]
  simp
theorem cut_drop {xs : List D} {k : Nat} (h : k ≤ xs.length) : cutD xs (some (k : Int)) none = xs.drop k := by
  unfold cutD
  rw [HT.sIx_nat, HT.sIx_none, Nat.min_eq_left h]
  exact List.take_of_length_le (by simp)
theorem cut_mid {xs : List D} {i j : Nat} (h : i ≤ xs.length) (h2 : j ≤ xs.length) : cutD xs (some (i : Int)) (some (j : Int)) = (xs.drop i).take (j - i) := by
  unfold cutD
  rw [HT.sIx_nat, HT.sIx_nat, Nat.min_eq_left h, Nat.min_eq_left h2]
/-! points told apart -/
theorem isp_len {v : List Int} {d : Int} (h : (v.length : Int) ≠ d + 1) : d_is_point [.tup (zs v), .int d] = .ok (.bl false) := by
  unfold d_is_point m_is_point
  simp [h]
theorem isp_ends {l : List Int} {b : Int} {d : Int} (h : (l.length : Int) = d) (hb : b < 1) : d_is_point [.tup (zs (l ++ [b])), .int d] = .ok (.bl false) := by
  have i1 : fIx (.tup (zs (l ++ [b]))) (.int (-1)) = some (.int b) := pz_last l b
  have i2 : fLen [.tup (zs (l ++ [b]))] = some (.int ((l.length : Int) + 1)) := pz_len l b
  generalize D.tup (zs (l ++ [b])) = T at i1 i2
  unfold d_is_point m_is_point
  simp [i1, i2, h, hb]
theorem isp_gl {l : List Int} {b : Int} {d : Int} (h : (l.length : Int) = d) (hb : 1 ≤ b) : d_is_point [.tup (zs (l ++ [b])), .int d] = .ok (.bl (decide (gl (l ++ [b]) = 1))) := by
  have i1 : fIx (.tup (zs (l ++ [b]))) (.int (-1)) = some (.int b) := pz_last l b
  have i2 : fLen [.tup (zs (l ++ [b]))] = some (.int ((l.length : Int) + 1)) := pz_len l b
  have i3 : elems (.tup (zs (l ++ [b]))) = some (zs (l ++ [b])) := rfl
  generalize l ++ [b] = v at i1 i2 i3
  generalize D.tup (zs v) = T at i1 i2 i3
  refine wpr_eq (wpr_F (wps_nx (ρ1 := [.im T, .im (.int d), .un, .un]) (by simp [i1, i2, h, hb]) (wps_nx (ρ1 := [.im T, .im (.int d), .im (.int 0), .un]) (by simp) (wps_seq ?_))))
  refine wps_for v .int (by simp [i3]) (fun pre ρ => ∃ z, ρ = [.im T, .im (.int d), .im (.int (gl pre : Int)), z]) ⟨_, rfl⟩ ?_ ?_
  · rintro pre x post ρ e ⟨z, rfl⟩
    exact ⟨_, rfl, wps_n (ρ := [.im T, .im (.int d), .im (.int (gl (pre ++ [x]) : Int)), .im (.int x)]) (by rw [gl_snoc]; simp) ⟨_, rfl⟩⟩
  · rintro ρ ⟨z, rfl⟩
    refine wps_r (d := .bl (decide (gl v = 1))) ?_ rfl
    have : ((gl v : Int) = 1) ↔ gl v = 1 := by omega
    simp [this]
theorem rep_zero : ∀ n : Nat, repD [D.int 0] (n : Int) = zs (List.replicate n 0) := fun n => by
  unfold repD
  rw [Int.toNat_natCast]
  induction n with
  | zero => rfl
  | succ n ih => rw [List.replicate_succ, List.flatten_cons, ih, List.replicate_succ]; rfl
theorem rep_one : ∀ n : Nat, repD [D.int 1] (n : Int) = zs (List.replicate n 1) := fun n => by
  unfold repD
  rw [Int.toNat_natCast]
  induction n with
  | zero => rfl
  | succ n ih => rw [List.replicate_succ, List.flatten_cons, ih, List.replicate_succ]; rfl
theorem near_ok {l : List Int} {b r : Int} {R : D} (hl : Pl l b) (hn : l.length ≤ 900) (h1 : 1 ≤ l.length) (hr : fIx R (.int 0) = some (.int r)) (h0 : 0 ≤ r) (h5 : r < 5) : d_law_near [pz l b, .int (l.length : Int), R] = .ok (.bl true) := by
  have hp := hl.p
  have hg : gl (l ++ [b]) = 1 := by rw [gl_bot]; exact hl.g
  have a1 : d_is_point [pz l b, .int (l.length : Int)] = .ok (.bl true) := by
    have := isp_gl (l := l) (b := b) rfl (by omega)
    rw [hg] at this; exact this
  have a2 : d_is_point [pz l b, .int ((l.length : Int) + 1)] = .ok (.bl false) := isp_len (by simp; omega)
  have ib : fIx (pz l b) (.int (l.length : Int)) = some (.int b) := pz_bot rfl
  have b2 : Bd 4 (2 + r) := by show (2 + r).natAbs < 2 ^ 4; omega
  -- the spoilt ones
  have s1 : d_is_point [.tup (zs ((l ++ [b]).map fun x => x * (2 + r))), .int (l.length : Int)] = .ok (.bl false) := by
    have e : (l ++ [b]).map (fun x => x * (2 + r)) = l.map (fun x => x * (2 + r)) ++ [b * (2 + r)] := by simp
    have hpos : 1 ≤ b * (2 + r) := Int.mul_pos hp (show 0 < 2 + r by omega)
    have := isp_gl (l := l.map fun x => x * (2 + r)) (b := b * (2 + r)) (d := (l.length : Int)) (by simp) hpos
    rw [← e] at this
    rw [this]
    have eg : gl ((l ++ [b]).map fun x => x * (2 + r)) = (2 + r).natAbs := by
      have := gl_scale (2 + r) (l ++ [b])
      rw [hg, Nat.mul_one] at this
      rw [← this]
      congr 1
      exact List.map_congr_left fun x _ => Int.mul_comm x (2 + r)
    rw [eg]
    have : (2 + r).natAbs ≠ 1 := by omega
    simp [this]
  have s2 : d_is_point [.tup (zs (l ++ [-b])), .int (l.length : Int)] = .ok (.bl false) := isp_ends rfl (by omega)
  have s3 : d_is_point [.tup (zs (l ++ [b] ++ [1])), .int (l.length : Int)] = .ok (.bl false) := isp_len (by first | (simp; done) | (simp; omega))
  have s4 : d_is_point [.tup (zs (l ++ [0])), .int (l.length : Int)] = .ok (.bl false) := isp_ends rfl (by omega)
  have s5 : d_is_point [.tup (zs (List.replicate l.length 0 ++ [2 + r])), .int (l.length : Int)] = .ok (.bl false) := by
    have := isp_gl (l := List.replicate l.length 0) (b := 2 + r) (d := (l.length : Int)) (by simp) (by omega)
    rw [this]
    have eg : gl (List.replicate l.length 0 ++ [2 + r]) = (2 + r).natAbs := by
      rw [gl_bot]
      refine Nat.dvd_antisymm (gl_dvd (by simp)) (gl_great fun x hx => ?_)
      rcases List.mem_cons.mp hx with rfl | hx
      · exact Nat.dvd_refl _
      · rw [List.eq_of_mem_replicate hx]; exact Nat.dvd_zero _
    rw [eg]
    have : (2 + r).natAbs ≠ 1 := by omega
    simp [this]
  have s6 : d_is_point [.tup (zs ((l ++ [b]).drop 1)), .int (l.length : Int)] = .ok (.bl false) := isp_len (by rw [List.length_drop, List.length_append, List.length_singleton]; omega)
  have t1 : fSl (pz l b) none (some (l.length : Int)) = some (.tup (zs l)) := by
    show some (D.tup (cutD (zs (l ++ [b])) none (some _))) = _
    rw [cut_take (by simp)]
    simp
  have t2 : fSl (pz l b) (some 1) none = some (.tup (zs ((l ++ [b]).drop 1))) := by
    show some (D.tup (cutD (zs (l ++ [b])) (some ((1 : Nat) : Int)) none)) = _
    rw [cut_drop (by simp)]
    simp
  have hc := mapc (i := 4) (ρ := [.im (pz l b), .im (.int (l.length : Int)), .im R, .un, .un, .un]) (me := mOp2 fMul (mVar 4) (mOp2 fAdd (mI 2) (mOp2 fIx (mVar 2) (mI 0)))) (f := fun x => x * (2 + r)) (l := l ++ [b]) (fun x hx => by
    have hx2 : Bd 200 x := by
      rcases List.mem_append.mp hx with h | h
      · exact hl.n x h
      · simp at h; subst h; exact hl.m.mono (by decide)
    have k : okMul x (2 + r) = true := hx2.okM b2 (by decide)
    simp [hr, k]) (by simp; omega)
  have lz : ∀ v : List Int, v.length ≤ 1002 → (zs v).length + 1 < 16777216 := fun v h => by simp; omega
  have j1 : ∀ (v : List Int) (x : Int), v.length ≤ 1002 → fAdd (.tup (zs v)) (.tup [.int x]) = some (.tup (zs (v ++ [x]))) := fun v x h => by
    rw [fAdd_tt, if_pos (by simp; omega)]; simp
  have j2 : fAdd (pz l b) (.tup [.int 1]) = some (.tup (zs (l ++ [b] ++ [1]))) := j1 _ _ (by simp; omega)
  have j3 : fMul (.tup [.int 0]) (.int (l.length : Int)) = some (.tup (zs (List.replicate l.length 0))) := by
    have q : (decide (-1000 ≤ (l.length : Int)) && decide ((l.length : Int) ≤ 1000) && decide (([D.int 0] : List D).length ≤ 1000) && !([D.int 0] : List D).isEmpty) = true := by
      have q1 : decide (-1000 ≤ (l.length : Int)) = true := decide_eq_true (by omega)
      have q2 : decide ((l.length : Int) ≤ 1000) = true := decide_eq_true (by omega)
      rw [q1, q2]; rfl
    rw [fMul_ti, rep_zero, if_pos q]
  have j4 := j1 l (-b) (by omega)
  have j5 := j1 l 0 (by omega)
  have j6 := j1 (List.replicate l.length 0) (2 + r) (by simp; omega)
  generalize hE1 : D.tup (zs ((l ++ [b]).map fun x => x * (2 + r))) = E1 at s1
  generalize hE2 : D.tup (zs (l ++ [-b])) = E2 at s2 j4
  generalize hE3 : D.tup (zs (l ++ [b] ++ [1])) = E3 at s3 j2
  generalize hE4 : D.tup (zs (l ++ [0])) = E4 at s4 j5
  generalize hE5 : D.tup (zs (List.replicate l.length 0 ++ [2 + r])) = E5 at s5 j6
  generalize hE6 : D.tup (zs ((l ++ [b]).drop 1)) = E6 at s6 t2
  refine wpr_eq (wpr_F (wps_nx (ρ1 := [.im (pz l b), .im (.int (l.length : Int)), .im R, .un, .un, .un]) (by simp [a1, a2, fNotB]) ?_))
  refine wps_nx (ρ1 := [.im (pz l b), .im (.int (l.length : Int)), .im R, .im (.lst [E1, E2, E3]), .un, .un]) ?_ ?_
  · have el : elems (pz l b) = some (zs (l ++ [b])) := rfl
    generalize zs ((l ++ [b]).map fun x => x * (2 + r)) = Z1 at hc hE1
    generalize zs (l ++ [b]) = Z2 at hc el
    simp [el, hc, hE1, t1, ib, j2, j4]
  refine wps_nx (ρ1 := [.im (pz l b), .im (.int (l.length : Int)), .im R, .im (.lst [E1, E2, E3, E4, E5]), .un, .un]) ?_ ?_
  · have j3' : fMul (.tup [.int 0]) (.int (l.length : Int)) = some (.tup (zs (List.replicate l.length 0))) := j3
    generalize zs (List.replicate l.length 0) = Z1 at j3' j6
    simp [t1, j5, j3', j6, hr, -fMul_ti]
  refine wps_nx (ρ1 := [.im (pz l b), .im (.int (l.length : Int)), .im R, .im (.lst [E1, E2, E3, E4, E5]), .un, .un]) ?_ ?_
  · by_cases h : 1 < l.length
    · have h' : (1 : Int) < (l.length : Int) := by omega
      simp [t2, s6, fNotB]
    · have h' : ¬ (1 : Int) < (l.length : Int) := by omega
      simp [h']
  · refine wps_r (d := .bl true) ?_ rfl
    simp [compL, s1, s2, s3, s4, s5, fNotB, blsOf]
end Cm
namespace Cm
open PySem FL L2
theorem isplace_ok {l : List Int} {b : Int} (hl : Pl l b) : d_law_is_place [pz l b, .int (l.length : Int)] = .ok (.bl true) := by
  have hg : gl (l ++ [b]) = 1 := by rw [gl_bot]; exact hl.g
  have ib : fIx (pz l b) (.int (l.length : Int)) = some (.int b) := pz_bot rfl
  have hb : 1 ≤ b := hl.p
  refine wpr_eq (wpr_F (wps_nx (ρ1 := [.im (pz l b), .im (.int (l.length : Int)), .un, .un]) (by simp) (wps_nx (ρ1 := [.im (pz l b), .im (.int (l.length : Int)), .im (.int 0), .un]) (by simp) (wps_seq ?_))))
  refine wps_for (l ++ [b]) .int (by simp only [mSeq_d, mVar_d, List.getElem?_cons_zero, bind_ok, pz_elems, ofO_some]) (fun pre ρ => ∃ z, ρ = [.im (pz l b), .im (.int (l.length : Int)), .im (.int (gl pre : Int)), z]) ⟨_, rfl⟩ ?_ ?_
  · rintro pre x post ρ e ⟨z, rfl⟩
    refine ⟨_, rfl, wps_nx (ρ1 := [.im (pz l b), .im (.int (l.length : Int)), .im (.int (gl pre : Int)), .im (.int x)]) (by simp [whole_int]) (wps_n (ρ := [.im (pz l b), .im (.int (l.length : Int)), .im (.int (gl (pre ++ [x]) : Int)), .im (.int x)]) (by rw [gl_snoc]; simp [gcd_ok]) ⟨_, rfl⟩)⟩
  · rintro ρ ⟨z, rfl⟩
    rw [hg]
    exact wps_r (d := .bl true) (by simp [ib, hb]) rfl
theorem signed_ok {l : List Int} {b : Int} {n : Nat} (hb0 : b ≠ 0) (hb : Bd n b) (hn : n ≤ 9000) (hl : l.length ≤ 1000) : d_law_signed [.lst (zs l), .int b] = .ok (if b < 0 then pz (rn (ng l) (-b)) (rb (ng l) (-b)) else pz (rn l b) (rb l b)) := by
  refine wpr_eq (wpr_F ?_)
  show wps (m_law_signed [.im (.lst (zs l)), .im (.int b), .un]) _
  unfold m_law_signed
  refine wps_seq ?_
  by_cases h : b < 0
  · rw [if_pos h]
    have hc := mapc (i := 2) (ρ := [.im (.lst (zs l)), .im (.int b), .un]) (me := mOp1 fNeg (mVar 2)) (f := fun x => -x) (l := l) (fun x hx => by simp) hl
    have hq := reduced_ok (NS.l (ng l)) (b := -b) (by omega) hb.neg hn (by rw [ng_len]; exact hl)
    have e : (l.map fun x => -x) = ng l := rfl
    rw [e] at hc
    generalize zs (ng l) = Z at hc hq
    refine wps_r (d := pz (rn (ng l) (-b)) (rb (ng l) (-b))) ?_ rfl
    simp only [sIf_d, mTst_d, mOp2_d, mVar_d, mC_d, List.getElem?_cons_succ, List.getElem?_cons_zero, bind_ok, fLt_ii, ofO_some, decide_eq_true h, isBl_bl, runE_ok, if_true, sRet_d, mCall_d, mCons_d, mNil_d, mFz_d, mLc_d, mSeq_d, elems_lst, wipeE_cons, wipeE_nil, List.set_cons_succ, List.set_cons_zero, hc, Cnd_l, List.nil_append, mOp1_d, fNeg_i, List.length_cons, List.length_nil, hq]
  · rw [if_neg h]
    have hq := reduced_ok (NS.l l) (b := b) (by omega) hb hn hl
    refine wps_n (ρ := [.im (.lst (zs l)), .im (.int b), .un]) (by simp [h]) ?_
    exact wps_r (d := pz (rn l b) (rb l b)) (by simp [hq]) rfl
theorem home_ok (l : List Int) (h : l.length ≤ 1000) : d_home_point [.tup (zs l)] = .ok (pz l 1) := by
  unfold d_home_point m_home_point
  have : l.length + 1 < 16777216 := by omega
  simp [this, pz]
theorem big_ok {w x y z : Int} (hw : 0 ≤ w) (hx : 0 ≤ x ∧ x < 1000000000) (hy : 0 ≤ y ∧ y < 1000000000) (hz : 0 ≤ z ∧ z < 1000000000) : wpr (d_law_big [.lst (zs [w, x, y, z])]) fun d => ∃ v, d = .int v ∧ Bd 190 v := by
  have bx : Bd 30 x := by show x.natAbs < 2 ^ 30; omega
  have b_y : Bd 30 y := by show y.natAbs < 2 ^ 30; omega
  have bz : Bd 30 z := by show z.natAbs < 2 ^ 30; omega
  have p18 : Bd 60 1000000000000000000 := by show (1000000000000000000 : Int).natAbs < 2 ^ 60; decide
  have p45 : Bd 150 1000000000000000000000000000000000000000000000 := by show (1000000000000000000000000000000000000000000000 : Int).natAbs < 2 ^ 150; decide
  have p22 : Bd 80 10000000000000000000000 := by show (10000000000000000000000 : Int).natAbs < 2 ^ 80; decide
  have k18 : okPow 10 18 = true := by decide
  have k45 : okPow 10 45 = true := by decide
  have k22 : okPow 10 22 = true := by decide
  have m1 : okMul x 1000000000000000000 = true := bx.okM p18 (by decide)
  have m2 : okMul x 1000000000000000000000000000000000000000000000 = true := bx.okM p45 (by decide)
  have m3 : okMul y 10000000000000000000000 = true := b_y.okM p22 (by decide)
  have d4 : okDiv w 4 = true := okDiv_small (by decide) (by decide)
  have d16 : okDiv w 16 = true := okDiv_small (by decide) (by decide)
  obtain ⟨t, ht, hb⟩ : ∃ t : Int, atI [D.int (x.fmod 13), .int (x.fmod 1009), .int x, .int (x * 1000000000000000000 + y)] (w.fmod 4) = some (.int t) ∧ Bd 190 t := by
    have h1 : Bd 190 (x.fmod 13) := by
      rw [Int.fmod_eq_emod_of_nonneg _ (by decide)]
      exact Bd.mono (a := 4) (by show (x % 13).natAbs < 2 ^ 4; omega) (by decide)
    have h2 : Bd 190 (x.fmod 1009) := by
      rw [Int.fmod_eq_emod_of_nonneg _ (by decide)]
      exact Bd.mono (a := 10) (by show (x % 1009).natAbs < 2 ^ 10; omega) (by decide)
    have h3 : Bd 190 (x * 1000000000000000000 + y) := ((bx.mul p18).add (b_y.mono (by decide))).mono (by decide)
    have hr : w.fmod 4 = 0 ∨ w.fmod 4 = 1 ∨ w.fmod 4 = 2 ∨ w.fmod 4 = 3 := by
      rw [Int.fmod_eq_emod_of_nonneg _ (by decide)]; omega
    rcases hr with h | h | h | h <;> rw [h]
    · exact ⟨_, rfl, h1⟩
    · exact ⟨_, rfl, h2⟩
    · exact ⟨_, rfl, bx.mono (by decide)⟩
    · exact ⟨_, rfl, h3⟩
  have h4 : Bd 190 (x * 1000000000000000000000000000000000000000000000 + y * 10000000000000000000000 + z) := (((bx.mul p45).add ((b_y.mul p22).mono (by decide))).add (bz.mono (by decide))).mono (by decide)
  have fin : ∀ v, Bd 190 v → wps (sSeq (sIf (mTst (mOp2 fEq (mOp2 fMod (mOp2 fFdiv (mOpA fInt (mCons (mOp2 fIx (mVar 0) (mI 0)) mNil)) (mI 16)) (mI 2)) (mI 1))) (sRet (mOp1 fNeg (mVar 1))) sNop) (sRet (mVar 1)) [.im (.lst (zs [w, x, y, z])), .im (.int v)]) (PF fun d => ∃ v, d = .int v ∧ Bd 190 v) := fun v hv => by
    by_cases h : (w.fdiv 16).fmod 2 = 1
    · exact wps_seq (wps_r (d := .int (-v)) (by simp [d16, h]) ⟨_, rfl, hv.neg⟩)
    · exact wps_nx (ρ1 := [.im (.lst (zs [w, x, y, z])), .im (.int v)]) (by simp [d16, h]) (wps_r (d := .int v) (by simp) ⟨_, rfl, hv⟩)
  refine wpr_F (wps_nx (ρ1 := [.im (.lst (zs [w, x, y, z])), .im (.int t)]) ?_ ?_)
  · simp [k18, m1, ht]
  by_cases h : (w.fdiv 4).fmod 4 = 3
  · refine wps_nx (ρ1 := [.im (.lst (zs [w, x, y, z])), .im (.int (x * 1000000000000000000000000000000000000000000000 + y * 10000000000000000000000 + z))]) ?_ (fin _ h4)
    simp [d4, h, k45, k22, m2, m3]
  · exact wps_nx (ρ1 := [.im (.lst (zs [w, x, y, z])), .im (.int t)]) (by simp [d4, h]) (fin _ hb)
theorem drawn_ok (c : Int) (n : Nat) (hn : n ≤ 3) : wpr (d_law_drawn [.int c, .int (n : Int)]) fun d => ∃ l b, d = .lst [.lst (zs l), .int b] ∧ l.length = n ∧ BL 190 l ∧ 1 ≤ b ∧ b ≤ 1000000000 := by
  obtain ⟨d, hd, row, rfl, hr⟩ := digits_ok c [6, 96, 1000000000, 1000000000, 1000000000, 96, 1000000000, 1000000000, 1000000000, 96, 1000000000, 1000000000, 1000000000] (by decide) (by decide)
  have hd' : d_law_digits [.int c, .lst [.int 6, .int 96, .int 1000000000, .int 1000000000, .int 1000000000, .int 96, .int 1000000000, .int 1000000000, .int 1000000000, .int 96, .int 1000000000, .int 1000000000, .int 1000000000]] = .ok (.lst (zs row)) := hd
  obtain ⟨r0, r1, r2, r3, r4, r5, r6, r7, r8, r9, ra, rb, rc, rfl⟩ : ∃ r0 r1 r2 r3 r4 r5 r6 r7 r8 r9 ra rb rc, row = [r0, r1, r2, r3, r4, r5, r6, r7, r8, r9, ra, rb, rc] := by
    match row, hr.1 with
    | [r0, r1, r2, r3, r4, r5, r6, r7, r8, r9, ra, rb, rc], _ => exact ⟨_, _, _, _, _, _, _, _, _, _, _, _, _, rfl⟩
  have b0 := hr.2 0 r0 6 rfl rfl
  have b1 := hr.2 1 r1 96 rfl rfl
  have b2 := hr.2 2 r2 1000000000 rfl rfl
  have b3 := hr.2 3 r3 1000000000 rfl rfl
  have b4 := hr.2 4 r4 1000000000 rfl rfl
  have b5 := hr.2 5 r5 96 rfl rfl
  have b6 := hr.2 6 r6 1000000000 rfl rfl
  have b7 := hr.2 7 r7 1000000000 rfl rfl
  have b8 := hr.2 8 r8 1000000000 rfl rfl
  have b9 := hr.2 9 r9 96 rfl rfl
  have ba := hr.2 10 ra 1000000000 rfl rfl
  have bb := hr.2 11 rb 1000000000 rfl rfl
  have bc := hr.2 12 rc 1000000000 rfl rfl
  have k9 : okPow 10 9 = true := by decide
  have rep : repD [D.int 1000000000] 3 = [.int 1000000000, .int 1000000000, .int 1000000000] := rfl
  have g : ∀ k, k < n → ∃ (v u : Int) (L : D), fSl (.lst (zs [r0, r1, r2, r3, r4, r5, r6, r7, r8, r9, ra, rb, rc])) (some (1 + 4 * (k : Int))) (some (5 + 4 * (k : Int))) = some L ∧ d_law_big [L] = .ok (.int v) ∧ Bd 190 v ∧ fIx (.lst (zs [r0, r1, r2, r3, r4, r5, r6, r7, r8, r9, ra, rb, rc])) (.int (2 + 4 * (k : Int))) = some (.int u) := by
    intro k hk
    have : k = 0 ∨ k = 1 ∨ k = 2 := by omega
    rcases this with rfl | rfl | rfl
    · obtain ⟨_, h1, v, rfl, h2⟩ := big_ok b1.1 b2 b3 b4
      exact ⟨v, r2, _, rfl, h1, h2, rfl⟩
    · obtain ⟨_, h1, v, rfl, h2⟩ := big_ok b5.1 b6 b7 b8
      exact ⟨v, r6, _, rfl, h1, h2, rfl⟩
    · obtain ⟨_, h1, v, rfl, h2⟩ := big_ok b9.1 ba bb bc
      exact ⟨v, ra, _, rfl, h1, h2, rfl⟩
  have i0 : fIx (.lst (zs [r0, r1, r2, r3, r4, r5, r6, r7, r8, r9, ra, rb, rc])) (.int 0) = some (.int r0) := rfl
  have i2 : fIx (.lst (zs [r0, r1, r2, r3, r4, r5, r6, r7, r8, r9, ra, rb, rc])) (.int 2) = some (.int r2) := rfl
  generalize hR : D.lst (zs [r0, r1, r2, r3, r4, r5, r6, r7, r8, r9, ra, rb, rc]) = R at *
  obtain ⟨bt, hbt, hb1, hb2⟩ : ∃ t : Int, atI [D.int (1 + r2.fmod 12), .int (1 + r2.fmod 12), .int 1, .int (1 + r2), .int 2, .int 6] r0 = some (.int t) ∧ 1 ≤ t ∧ t ≤ 1000000000 := by
    have h1 : 1 ≤ 1 + r2.fmod 12 ∧ 1 + r2.fmod 12 ≤ 1000000000 := by rw [Int.fmod_eq_emod_of_nonneg _ (by decide)]; omega
    have hq : r0 = 0 ∨ r0 = 1 ∨ r0 = 2 ∨ r0 = 3 ∨ r0 = 4 ∨ r0 = 5 := by omega
    rcases hq with rfl | rfl | rfl | rfl | rfl | rfl
    · exact ⟨_, rfl, h1⟩
    · exact ⟨_, rfl, h1⟩
    · exact ⟨_, rfl, by decide⟩
    · exact ⟨_, rfl, by omega⟩
    · exact ⟨_, rfl, by decide⟩
    · exact ⟨_, rfl, by decide⟩
  refine wpr_F (wps_nx (ρ1 := [.im (.int c), .im (.int (n : Int)), .im R, .un, .un, .un, .un]) (by simp [k9, rep, hd']) (wps_nx (ρ1 := [.im (.int c), .im (.int (n : Int)), .im R, .im (.int bt), .un, .un, .un]) (by simp [i0, i2, hbt]) (wps_nx (ρ1 := [.im (.int c), .im (.int (n : Int)), .im R, .im (.int bt), .ow false (.l []), .un, .un]) (by simp) (wps_seq ?_))))
  have hrg := mRng1_ok (m := mVar 1) (ρ := [.im (.int c), .im (.int (n : Int)), .im R, .im (.int bt), .ow false (.l []), .un, .un]) (j := (n : Int)) n (by simp) rfl (by omega)
  refine wps_for (List.range n) (fun (k : Nat) => D.int (k : Int)) hrg (fun pre ρ => ∃ l y1 y2, ρ = [.im (.int c), .im (.int (n : Int)), .im R, .im (.int bt), .ow false (.l (zs l)), y1, y2] ∧ l.length = pre.length ∧ BL 190 l) ⟨[], _, _, rfl, rfl, by simp [BL]⟩ ?_ ?_
  · rintro pre k post ρ e ⟨l, y1, y2, rfl, hl, hbl⟩
    obtain ⟨hk0, hk⟩ := range_split e
    obtain ⟨v, u, L, g1, g2, g3, g4⟩ := g k hk
    have m4 : okMul 4 (k : Int) = true := okMul_b (by omega) (by omega) (by omega) (by omega)
    have hll : l.length < 16777215 := by omega
    have fin : ∀ x, Bd 190 x → wps (sApp 4 (mCons (mVar 6) mNil) [.im (.int c), .im (.int (n : Int)), .im R, .im (.int bt), .ow false (.l (zs l)), .im (.int (k : Int)), .im (.int x)]) (PL (fun ρ => ∃ l y1 y2, ρ = [.im (.int c), .im (.int (n : Int)), .im R, .im (.int bt), .ow false (.l (zs l)), y1, y2] ∧ l.length = (pre ++ [k]).length ∧ BL 190 l) (PN (sFrz 4 (sRet (mFz (mLst (mCons (mVar 4) (mCons (mVar 3) mNil)))))) (PF fun d => ∃ l b, d = .lst [.lst (zs l), .int b] ∧ l.length = n ∧ BL 190 l ∧ 1 ≤ b ∧ b ≤ 1000000000))) := fun x hx => by
      refine wps_n (ρ := [.im (.int c), .im (.int (n : Int)), .im R, .im (.int bt), .ow false (.l (zs (l ++ [x]))), .im (.int (k : Int)), .im (.int x)]) (by simp [hll]) ⟨l ++ [x], _, _, rfl, by simp [hl], fun y hy => ?_⟩
      rcases List.mem_append.mp hy with h | h
      · exact hbl y h
      · simp at h; subst h; exact hx
    refine ⟨_, rfl, wps_nx (ρ1 := [.im (.int c), .im (.int (n : Int)), .im R, .im (.int bt), .ow false (.l (zs l)), .im (.int (k : Int)), .im (.int v)]) (by simp [m4, g1, g2]) ?_⟩
    by_cases h : r0 < 4
    · refine wps_nx (ρ1 := [.im (.int c), .im (.int (n : Int)), .im R, .im (.int bt), .ow false (.l (zs l)), .im (.int (k : Int)), .im (.int (u.fmod 4001 - 2000))]) (by simp [i0, h, m4, g4]) (fin _ ?_)
      rw [Int.fmod_eq_emod_of_nonneg _ (by decide)]
      exact Bd.mono (a := 12) (by show (u % 4001 - 2000).natAbs < 2 ^ 12; omega) (by decide)
    · exact wps_nx (ρ1 := [.im (.int c), .im (.int (n : Int)), .im R, .im (.int bt), .ow false (.l (zs l)), .im (.int (k : Int)), .im (.int v)]) (by simp [i0, h]) (fin v g3)
  · rintro ρ ⟨l, y1, y2, rfl, hl, hbl⟩
    rw [List.length_range] at hl
    exact wps_r (d := .lst [.lst (zs l), .int bt]) (by simp) ⟨l, bt, rfl, hl, hbl, hb1, hb2⟩
end Cm
namespace Cm
open PySem FL L2
theorem rn_id {l : List Int} {b : Int} (h : gl (b :: l) = 1) : rn l b = l ∧ rb l b = b := by
  unfold rn rb
  rw [h]
  refine ⟨?_, by simp⟩
  conv => rhs; rw [← List.map_id l]
  apply List.map_congr_left
  intro x _
  simp
theorem lone {p : Plc} (h : Pl p.1 p.2) : pz (rn (mixn [p] [3] (lowB [p]) p.1.length) (lowB [p] * ([3] : List Int).sum)) (rb (mixn [p] [3] (lowB [p]) p.1.length) (lowB [p] * ([3] : List Int).sum)) = ep p := by
  obtain ⟨l, b⟩ := p
  have hp : 0 < b := h.p
  have e : lowB [(l, b)] = b := by
    show (1 * b).fdiv ((Nat.gcd (1 : Int).natAbs b.natAbs : Nat) : Int) = b
    rw [Int.one_mul]
    have : Nat.gcd (1 : Int).natAbs b.natAbs = 1 := Nat.gcd_one_left _
    rw [this]; simp
  have q : b.fdiv b = 1 := Int.fdiv_self (by omega)
  have e2 : mixn [(l, b)] [3] b l.length = l.map (3 * ·) := by
    unfold mixn
    apply List.ext_getElem
    · simp
    · intro i h1 h2
      have hi : i < l.length := by simpa using h2
      have r1 : List.range 1 = [0] := rfl
      simp [Tm, tmv, r1, q, hi]
  rw [e]
  show pz (rn (mixn [(l, b)] [3] b l.length) (b * ([3] : List Int).sum)) (rb (mixn [(l, b)] [3] b l.length) (b * ([3] : List Int).sum)) = pz l b
  have e3 : b * ([3] : List Int).sum = 3 * b := by simp; omega
  rw [e2, e3]
  obtain ⟨s1, s2⟩ := r_scale (l := l) (b := b) (c := 3) (by decide) (by omega)
  rw [s1, s2]
  obtain ⟨i1, i2⟩ := rn_id h.g
  rw [i1, i2]
theorem Pl.of {l : List Int} {b : Int} (hl : BL 200 l) (hb : Bd 40 b) (hp : 0 < b) : Pl (rn l b) (rb l b) := ⟨rn_bd (by omega) hl, rb_bd (by omega) hb, rb_pos hp, r_low (by omega)⟩
/-- what the program makes of a drawn place -/
theorem made_ok {l : List Int} {b : Int} (hl : BL 190 l) (hb : Bd 36 b) (hb0 : b ≠ 0) (hn : l.length ≤ 900) :
    ∃ p : Plc, d_point [.tup (zs l), .int b] = .ok (ep p) ∧ d_law_signed [.lst (zs l), .int b] = .ok (ep p) ∧ Pl p.1 p.2 ∧ p.1.length = l.length := by
  have h1 := point_ok (NS.t l) hb0 hb (by decide) (by omega)
  have h2 := signed_ok hb0 hb (by decide) (l := l) (by omega)
  by_cases h : b < 0
  · rw [if_pos h] at h1 h2
    refine ⟨(rn (ng l) (-b), rb (ng l) (-b)), h1, h2, Pl.of ?_ (hb.neg.mono (by decide)) (by omega), by rw [rn_len, ng_len]⟩
    intro x hx
    obtain ⟨y, hy, rfl⟩ := List.mem_map.mp hx
    exact ((hl y hy).neg).mono (by decide)
  · rw [if_neg h] at h1 h2
    exact ⟨(rn l b, rb l b), h1, h2, Pl.of (hl.mono (by decide)) (hb.mono (by decide)) (by omega), rn_len _ _⟩
theorem choo {n : Nat} {Q : Nat → Int → Prop} (h : ∀ k, k < n → ∃ u, Q k u) : ∃ f : Nat → Int, ∀ k, k < n → Q k (f k) :=
  ⟨fun k => if h1 : k < n then Classical.choose (h k h1) else 0, fun k h1 => by
    simp only [dif_pos h1]
    exact Classical.choose_spec (h k h1)⟩
theorem share_ok {t b : Int} (ht : -1000 ≤ t ∧ t ≤ 1000) (hb : 1 ≤ b ∧ b ≤ 30) : ∃ s u, fr t b = .tup (zs [s, u]) ∧ Bd 20 s ∧ Bd 20 u ∧ 0 < u := by
  have hg : 0 < Nat.gcd t.natAbs b.natAbs := Nat.gcd_pos_of_pos_right _ (by omega)
  have e : sg t b = ((Nat.gcd t.natAbs b.natAbs : Nat) : Int) := by unfold sg; rw [if_neg (by omega)]
  have m1 := fdiv_mul hg (Nat.gcd_dvd_left t.natAbs b.natAbs)
  have m2 := fdiv_mul hg (Nat.gcd_dvd_right t.natAbs b.natAbs)
  rw [← e] at m1 m2
  have h0 : sg t b ≠ 0 := sg_nz (by omega)
  have bt : Bd 20 t := by show t.natAbs < 2 ^ 20; omega
  have bb : Bd 20 b := by show b.natAbs < 2 ^ 20; omega
  refine ⟨t.fdiv (sg t b), b.fdiv (sg t b), rfl, bt.of_div h0 m1, bb.of_div h0 m2, ?_⟩
  have hp : 0 < sg t b := by omega
  by_cases q : 0 < b.fdiv (sg t b)
  · exact q
  · have : b.fdiv (sg t b) * sg t b ≤ 0 := Int.mul_nonpos_of_nonpos_of_nonneg (by omega) (by omega)
    omega
theorem good (ns : List Int) (hns : ns.length ≤ 63) : d_law [.scr ns] = .ok (.bl true) := by
  obtain ⟨_, hc0, c0, rfl⟩ := cell_ok ns 0 (by decide) (by decide)
  obtain ⟨_, hc1, c1, rfl⟩ := cell_ok ns 1 (by decide) (by decide)
  obtain ⟨_, hd0, row0, rfl, hr0⟩ := digits_ok c0 [3, 7, 5, 61, 61, 61] (by decide) (by decide)
  obtain ⟨_, hd1, row1, rfl, hr1⟩ := digits_ok c1 [101, 101, 101, 2000, 30, 10, 10, 10, 10] (by decide) (by decide)
  obtain ⟨s0, s1, s2, s3, s4, s5, rfl⟩ : ∃ a b c d e f, row0 = [a, b, c, d, e, f] := by
    match row0, hr0.1 with
    | [a, b, c, d, e, f], _ => exact ⟨_, _, _, _, _, _, rfl⟩
  obtain ⟨t0, t1, t2, t3, t4, t5, t6, t7, t8, rfl⟩ : ∃ a b c d e f g h i, row1 = [a, b, c, d, e, f, g, h, i] := by
    match row1, hr1.1 with
    | [a, b, c, d, e, f, g, h, i], _ => exact ⟨_, _, _, _, _, _, _, _, _, rfl⟩
  have bs0 := hr0.2 0 s0 3 rfl rfl
  have bs1 := hr0.2 1 s1 7 rfl rfl
  have bs2 := hr0.2 2 s2 5 rfl rfl
  have bs3 := hr0.2 3 s3 61 rfl rfl
  have bs4 := hr0.2 4 s4 61 rfl rfl
  have bs5 := hr0.2 5 s5 61 rfl rfl
  have bt0 := hr1.2 0 t0 101 rfl rfl
  have bt1 := hr1.2 1 t1 101 rfl rfl
  have bt2 := hr1.2 2 t2 101 rfl rfl
  have bt3 := hr1.2 3 t3 2000 rfl rfl
  have bt4 := hr1.2 4 t4 30 rfl rfl
  have bt5 := hr1.2 5 t5 10 rfl rfl
  have bt6 := hr1.2 6 t6 10 rfl rfl
  have bt7 := hr1.2 7 t7 10 rfl rfl
  have bt8 := hr1.2 8 t8 10 rfl rfl
  obtain ⟨n0, rfl⟩ := Int.eq_ofNat_of_zero_le bs0.1
  have rep : repD [D.int 10] 4 = [.int 10, .int 10, .int 10, .int 10] := rfl
  have hd0 : d_law_digits [.int c0, .lst [.int 3, .int 7, .int 5, .int 61, .int 61, .int 61]] = .ok (.lst (zs [(n0 : Int), s1, s2, s3, s4, s5])) := hd0
  have hd1 : d_law_digits [.int c1, .lst [.int 101, .int 101, .int 101, .int 2000, .int 30, .int 10, .int 10, .int 10, .int 10]] = .ok (.lst (zs [t0, t1, t2, t3, t4, t5, t6, t7, t8])) := hd1
  have i0 : fIx (.lst (zs [(n0 : Int), s1, s2, s3, s4, s5])) (.int 0) = some (.int (n0 : Int)) := rfl
  have i1 : fIx (.lst (zs [(n0 : Int), s1, s2, s3, s4, s5])) (.int 1) = some (.int s1) := rfl
  have gs : ∀ k : Nat, k < n0 + 1 → ∃ u : Int, fIx (.lst (zs [(n0 : Int), s1, s2, s3, s4, s5])) (.int (3 + (k : Int))) = some (.int u) ∧ 0 ≤ u ∧ u < 61 := fun k hk => by
    have : k = 0 ∨ k = 1 ∨ k = 2 := by omega
    rcases this with rfl | rfl | rfl
    · exact ⟨s3, rfl, bs3⟩
    · exact ⟨s4, rfl, bs4⟩
    · exact ⟨s5, rfl, bs5⟩
  have gt : ∀ k : Nat, k < n0 + 1 → ∃ u : Int, fIx (.lst (zs [t0, t1, t2, t3, t4, t5, t6, t7, t8])) (.int (k : Int)) = some (.int u) ∧ 0 ≤ u ∧ u < 101 := fun k hk => by
    have : k = 0 ∨ k = 1 ∨ k = 2 := by omega
    rcases this with rfl | rfl | rfl
    · exact ⟨t0, rfl, bt0⟩
    · exact ⟨t1, rfl, bt1⟩
    · exact ⟨t2, rfl, bt2⟩
  have gh : ∀ k : Nat, k < 4 → ∃ u : Int, fIx (.lst (zs [t0, t1, t2, t3, t4, t5, t6, t7, t8])) (.int (5 + (k : Int))) = some (.int u) ∧ 0 ≤ u ∧ u < 10 := fun k hk => by
    have : k = 0 ∨ k = 1 ∨ k = 2 ∨ k = 3 := by omega
    rcases this with rfl | rfl | rfl | rfl
    · exact ⟨t5, rfl, bt5⟩
    · exact ⟨t6, rfl, bt6⟩
    · exact ⟨t7, rfl, bt7⟩
    · exact ⟨t8, rfl, bt8⟩
  have j3 : fIx (.lst (zs [t0, t1, t2, t3, t4, t5, t6, t7, t8])) (.int 3) = some (.int t3) := rfl
  have j4 : fIx (.lst (zs [t0, t1, t2, t3, t4, t5, t6, t7, t8])) (.int 4) = some (.int t4) := rfl
  obtain ⟨R2, hR2, hR20⟩ : ∃ R2, fSl (.lst (zs [(n0 : Int), s1, s2, s3, s4, s5])) (some 2) none = some R2 ∧ fIx R2 (.int 0) = some (.int s2) := ⟨_, rfl, rfl⟩
  generalize hS : D.lst (zs [(n0 : Int), s1, s2, s3, s4, s5]) = S at *
  generalize hT : D.lst (zs [t0, t1, t2, t3, t4, t5, t6, t7, t8]) = T at *
  generalize hN : n0 + 1 = N at *
  have eN : (1 : Int) + (n0 : Int) = (N : Int) := by omega
  have hN3 : N ≤ 3 := by omega
  have hN1 : 1 ≤ N := by omega
  refine wpr_eq (wpr_F (wps_nx (ρ1 := [.im (.scr ns), .im S, .un, .un, .un, .un, .un, .un, .un, .un, .un, .un, .un, .un, .un]) (by simp [hc0, hd0]) ?_))
  refine wps_nx (ρ1 := [.im (.scr ns), .im S, .im (.int (N : Int)), .un, .un, .un, .un, .un, .un, .un, .un, .un, .un, .un, .un]) (by simp [i0, eN]) ?_
  refine wps_nx (ρ1 := [.im (.scr ns), .im S, .im (.int (N : Int)), .im T, .un, .un, .un, .un, .un, .un, .un, .un, .un, .un, .un]) (by simp [hc1, rep, hd1]) ?_
  -- the arrow
  obtain ⟨f, hf⟩ := choo gt
  have hr := mRng1_ok (m := mVar 2) (ρ := [.im (.scr ns), .im S, .im (.int (N : Int)), .im T, .un, .un, .un, .un, .un, .un, .un, .un, .un, .un, .un]) (j := (N : Int)) N (by simp) rfl (by omega)
  have hc := rowc (i := 4) (ρ := [.im (.scr ns), .im S, .im (.int (N : Int)), .im T, .un, .un, .un, .un, .un, .un, .un, .un, .un, .un, .un]) (me := mOp2 fSub (mOpA fInt (mCons (mOp2 fIx (mVar 3) (mVar 4)) mNil)) (mI 50)) (f := fun k => f k - 50) (n := N) (fun k hk => by simp [(hf k hk).1]) (by omega)
  have ha0 : BL 10 ((List.range N).map fun k => f k - 50) := row_bd fun k hk => by
    have := (hf k hk).2
    show (f k - 50).natAbs < 2 ^ 10
    omega
  have hl0 : ((List.range N).map fun k => f k - 50).length = N := by simp
  generalize (List.range N).map (fun k => f k - 50) = a0 at hc ha0 hl0
  refine wps_nx (ρ1 := [.im (.scr ns), .im S, .im (.int (N : Int)), .im T, .un, .im (.tup (zs a0)), .un, .un, .un, .un, .un, .un, .un, .un, .un]) ?_ ?_
  · simp only [sSet_d, mOpA_d, mCons_d, mNil_d, mFz_d, mLc_d, wipeE_cons, wipeE_nil, List.set_cons_succ, List.set_cons_zero]
    rw [hr, bind_ok, hc]
    simp only [bind_ok, Cnd_l, List.nil_append, fTuple_l, ofO_some, runE_ok, List.set_cons_succ, List.set_cons_zero]
  obtain ⟨a, ha, hal, hstep⟩ : ∃ a, BL 10 a ∧ a.length = N ∧ sIf (mtNot (mTru (mOpA fAny (mCons (mFz (mLc (bName 14) [14] (mSeq (mVar 5)) mYes (mOp2 fNe (mVar 14) (mI 0)))) mNil)))) (sSet 5 (mOp2 fMul (mTup (mCons (mI 1) mNil)) (mVar 2))) sNop [.im (.scr ns), .im S, .im (.int (N : Int)), .im T, .un, .im (.tup (zs a0)), .un, .un, .un, .un, .un, .un, .un, .un, .un]
      = some (.nx [.im (.scr ns), .im S, .im (.int (N : Int)), .im T, .un, .im (.tup (zs a)), .un, .un, .un, .un, .un, .un, .un, .un, .un]) := by
    have hc2 := compL_map (bt := bName 14) (mt := mYes) (me := mOp2 fNe (mVar 14) (mI 0)) (ρ := [.im (.scr ns), .im S, .im (.int (N : Int)), .im T, .un, .im (.tup (zs a0)), .un, .un, .un, .un, .un, .un, .un, .un, .un]) (enc := D.int) (f := fun x => .bl (!decide (x = 0))) a0 [] (fun x hx => ⟨_, rfl, rfl, by simp⟩) (by simp; omega)
    have e1 : a0.map (fun x => D.bl (!decide (x = 0))) = bls (a0.map fun x => !decide (x = 0)) := by simp
    rw [e1] at hc2
    generalize a0.map (fun x => !decide (x = 0)) = B at hc2
    cases hB : B.any id with
    | true =>
      refine ⟨a0, ha0, hl0, ?_⟩
      simp only [sIf_d, mtNot_d, mTru_d, mOpA_d, mCons_d, mNil_d, mFz_d, mLc_d, mSeq_d, mVar_d, wipeE_cons, wipeE_nil, List.set_cons_succ, List.set_cons_zero, List.getElem?_cons_succ, List.getElem?_cons_zero, bind_ok, elems_tup, ofO_some, hc2, Cnd_l, List.nil_append, fAny_l, blsOf_bls, Option.map_some, hB, tru_bl, Bool.not_true, runE_ok, Bool.false_eq_true, if_false, sNop_d]
    | false =>
      refine ⟨List.replicate N 1, fun x hx => ?_, by simp, ?_⟩
      · rw [List.eq_of_mem_replicate hx]; show (1 : Int).natAbs < 2 ^ 10; decide
      · have hm : fMul (.tup [.int 1]) (.int (N : Int)) = some (.tup (zs (List.replicate N 1))) := by
          have q : (decide (-1000 ≤ (N : Int)) && decide ((N : Int) ≤ 1000) && decide (([D.int 1] : List D).length ≤ 1000) && !([D.int 1] : List D).isEmpty) = true := by
            have q1 : decide (-1000 ≤ (N : Int)) = true := decide_eq_true (by omega)
            have q2 : decide ((N : Int) ≤ 1000) = true := decide_eq_true (by omega)
            rw [q1, q2]; rfl
          rw [fMul_ti, rep_one, if_pos q]
        simp only [sIf_d, mtNot_d, mTru_d, mOpA_d, mCons_d, mNil_d, mFz_d, mLc_d, mSeq_d, mVar_d, wipeE_cons, wipeE_nil, List.set_cons_succ, List.set_cons_zero, List.getElem?_cons_succ, List.getElem?_cons_zero, bind_ok, elems_tup, ofO_some, hc2, Cnd_l, List.nil_append, fAny_l, blsOf_bls, Option.map_some, hB, tru_bl, Bool.not_false, runE_ok, if_true, sSet_d, mOp2_d, mTup_d, mC_d, List.length_cons, List.length_nil]
        rw [if_pos (by decide), bind_ok, hm]
        rfl
  refine wps_nx hstep ?_
  clear hstep hc hr ha0 hl0
  -- the share
  obtain ⟨s, t, efr, hs1, hs2, hs3⟩ := share_ok (t := t3 - 1000) (b := 1 + t4) (by omega) (by omega)
  have hfr := fraction_ok (t := t3 - 1000) (b := 1 + t4) (n := 20) (by omega) (by show (1 + t4).natAbs < 2 ^ 20; omega) (by decide)
  rw [efr] at hfr
  refine wps_nx (ρ1 := [.im (.scr ns), .im S, .im (.int (N : Int)), .im T, .un, .im (.tup (zs a)), .im (.tup (zs [s, t])), .un, .un, .un, .un, .un, .un, .un, .un]) ?_ ?_
  · simp only [sSet_d, mCall_d, mCons_d, mNil_d, mOp2_d, mOpA_d, mVar_d, mC_d, List.set_cons_succ, List.set_cons_zero, List.getElem?_cons_succ, List.getElem?_cons_zero, bind_ok, j3, j4, ofO_some, fInt_i, fSub_ii, fAdd_ii, List.length_cons, List.length_nil, if_true, hfr, runE_ok]
  generalize hSh : D.tup (zs [s, t]) = Sh
  -- the home
  obtain ⟨g, hg⟩ := choo gs
  have hr := mRng1_ok (m := mVar 2) (ρ := [.im (.scr ns), .im S, .im (.int (N : Int)), .im T, .un, .im (.tup (zs a)), .im Sh, .un, .un, .un, .un, .un, .un, .un, .un]) (j := (N : Int)) N (by simp) rfl (by omega)
  have hc := rowc (i := 4) (ρ := [.im (.scr ns), .im S, .im (.int (N : Int)), .im T, .un, .im (.tup (zs a)), .im Sh, .un, .un, .un, .un, .un, .un, .un, .un]) (me := mOp2 fSub (mOpA fInt (mCons (mOp2 fIx (mVar 1) (mOp2 fAdd (mI 3) (mVar 4))) mNil)) (mI 30)) (f := fun k => g k - 30) (n := N) (fun k hk => by simp [(hg k hk).1]) (by omega)
  have hh0 : BL 190 ((List.range N).map fun k => g k - 30) := row_bd fun k hk => by
    have := (hg k hk).2
    exact Bd.mono (a := 10) (by show (g k - 30).natAbs < 2 ^ 10; omega) (by decide)
  have hhl : ((List.range N).map fun k => g k - 30).length = N := by simp
  generalize (List.range N).map (fun k => g k - 30) = h at hc hh0 hhl
  refine wps_nx (ρ1 := [.im (.scr ns), .im S, .im (.int (N : Int)), .im T, .un, .im (.tup (zs a)), .im Sh, .im (.tup (zs h)), .un, .un, .un, .un, .un, .un, .un]) ?_ ?_
  · simp only [sSet_d, mOpA_d, mCons_d, mNil_d, mFz_d, mLc_d, wipeE_cons, wipeE_nil, List.set_cons_succ, List.set_cons_zero]
    rw [hr, bind_ok, hc]
    simp only [bind_ok, Cnd_l, List.nil_append, fTuple_l, ofO_some, runE_ok, List.set_cons_succ, List.set_cons_zero]
  have hadd : fAdd (.tup (zs h)) (.tup [.int 1]) = some (ep (h, 1)) := by
    rw [fAdd_tt, if_pos (by simp; omega)]
    unfold ep pz
    simp
  have hhp : d_home_point [.tup (zs h)] = .ok (ep (h, 1)) := home_ok h (by omega)
  have hne : fNe (ep (h, 1)) (ep (h, 1)) = some (.bl false) := pz_same _ _
  have hpl : Pl h 1 := ⟨hh0.mono (by decide), by show (1 : Int).natAbs < 2 ^ 40; decide, by decide, by rw [gl_cons]; exact Nat.gcd_one_left _⟩
  generalize hH : D.tup (zs h) = Hm at hadd hhp
  refine wps_nx (ρ1 := [.im (.scr ns), .im S, .im (.int (N : Int)), .im T, .un, .im (.tup (zs a)), .im Sh, .im Hm, .ow false (.l [ep (h, 1)]), .un, .un, .un, .un, .un, .un]) (by simp [hadd]) ?_
  refine wps_nx (ρ1 := [.im (.scr ns), .im S, .im (.int (N : Int)), .im T, .un, .im (.tup (zs a)), .im Sh, .im Hm, .ow false (.l [ep (h, 1)]), .un, .un, .un, .un, .un, .un]) (by simp [hadd, hhp, hne]) (wps_seq ?_)
  have hr3 := mRng1_ok (m := mI 3) (ρ := [.im (.scr ns), .im S, .im (.int (N : Int)), .im T, .un, .im (.tup (zs a)), .im Sh, .im Hm, .ow false (.l [ep (h, 1)]), .un, .un, .un, .un, .un, .un]) (j := 3) 3 rfl rfl (by omega)
  refine wps_for (List.range 3) (fun (k : Nat) => D.int (k : Int)) hr3 (fun pre ρ => ∃ (P : List Plc) (y1 y2 y3 y4 : Sl), ρ = [.im (.scr ns), .im S, .im (.int (N : Int)), .im T, y1, .im (.tup (zs a)), .im Sh, .im Hm, .ow false (.l (P.map ep)), y2, y3, y4, .un, .un, .un] ∧ P.length = pre.length + 1 ∧ ∀ p ∈ P, Pl p.1 p.2 ∧ p.1.length = N)
    ⟨[(h, 1)], _, _, _, _, rfl, rfl, fun p hp => by simp at hp; subst hp; exact ⟨hpl, hhl⟩⟩ ?_ ?_
  · rintro pre k post ρ e ⟨P, y1, y2, y3, y4, rfl, hPl, hP⟩
    obtain ⟨hk0, hk⟩ := range_split e
    obtain ⟨_, hcl, cc, rfl⟩ := cell_ok ns (2 + (k : Int)) (by omega) (by omega)
    obtain ⟨_, hdr, l, b, rfl, hl1, hl2, hb1, hb2⟩ := drawn_ok cc N hN3
    obtain ⟨u, hu, hu2⟩ : ∃ u : Int, atI [D.int 1, .int 1, .int (-1)] ((s1 + (k : Int)).fmod 3) = some (.int u) ∧ (u = 1 ∨ u = -1) := by
      have hq : (s1 + (k : Int)).fmod 3 = 0 ∨ (s1 + (k : Int)).fmod 3 = 1 ∨ (s1 + (k : Int)).fmod 3 = 2 := by
        rw [Int.fmod_eq_emod_of_nonneg _ (by decide)]; omega
      rcases hq with h | h | h <;> rw [h]
      · exact ⟨1, rfl, .inl rfl⟩
      · exact ⟨1, rfl, .inl rfl⟩
      · exact ⟨-1, rfl, .inr rfl⟩
    have bu : Bd 2 u := by show u.natAbs < 2 ^ 2; omega
    have bb : Bd 34 b := by show b.natAbs < 2 ^ 34; omega
    have mu : okMul u b = true := bu.okM bb (by decide)
    have hub : u * b ≠ 0 := Int.mul_ne_zero (by omega) (by omega)
    obtain ⟨p, m1, m2, m3, m4⟩ := made_ok hl2 (bu.mul bb) hub (by omega)
    have m5 : d_law_is_place [ep p, .int (N : Int)] = .ok (.bl true) := by
      have := isplace_ok m3
      rw [m4, hl1] at this
      exact this
    have m6 : fNe (ep p) (ep p) = some (.bl false) := pz_same _ _
    have m7 := nopoint_ok (d := .tup (zs l))
    have hPs : P.length < 16777215 := by omega
    refine ⟨_, rfl, wps_nx (ρ1 := [.im (.scr ns), .im S, .im (.int (N : Int)), .im T, .im (.int (k : Int)), .im (.tup (zs a)), .im Sh, .im Hm, .ow false (.l (P.map ep)), .im (.lst [.lst (zs l), .int b]), y3, y4, .un, .un, .un]) (by simp [hcl, hdr]) ?_⟩
    refine wps_nx (ρ1 := [.im (.scr ns), .im S, .im (.int (N : Int)), .im T, .im (.int (k : Int)), .im (.tup (zs a)), .im Sh, .im Hm, .ow false (.l (P.map ep)), .im (.lst [.lst (zs l), .int b]), .im (.int (u * b)), y4, .un, .un, .un]) (by simp [i1, hu, mu]) ?_
    refine wps_nx (ρ1 := [.im (.scr ns), .im S, .im (.int (N : Int)), .im T, .im (.int (k : Int)), .im (.tup (zs a)), .im Sh, .im Hm, .ow false (.l (P.map ep)), .im (.lst [.lst (zs l), .int b]), .im (.int (u * b)), .im (ep p), .un, .un, .un]) (by simp [m1]) ?_
    refine wps_nx (ρ1 := [.im (.scr ns), .im S, .im (.int (N : Int)), .im T, .im (.int (k : Int)), .im (.tup (zs a)), .im Sh, .im Hm, .ow false (.l (P.map ep)), .im (.lst [.lst (zs l), .int b]), .im (.int (u * b)), .im (ep p), .un, .un, .un]) (by simp [m5, m2, m6, m7]) ?_
    refine wps_n (ρ := [.im (.scr ns), .im S, .im (.int (N : Int)), .im T, .im (.int (k : Int)), .im (.tup (zs a)), .im Sh, .im Hm, .ow false (.l ((P ++ [p]).map ep)), .im (.lst [.lst (zs l), .int b]), .im (.int (u * b)), .im (ep p), .un, .un, .un]) (by simp [hPs]) ⟨P ++ [p], _, _, _, _, rfl, by simp [hPl], fun q hq => ?_⟩
    rcases List.mem_append.mp hq with h' | h'
    · exact hP q h'
    · simp at h'; subst h'; exact ⟨m3, by rw [m4, hl1]⟩
  rintro ρ ⟨P, y1, y2, y3, y4, rfl, hPl, hP⟩
  have hPl : P.length = 4 := by simpa using hPl
  -- a multiple of a drawn place
  obtain ⟨p1, P1, hp1⟩ : ∃ p1 : Plc, fIx (.lst (P.map ep)) (.int 1) = some (ep p1) ∧ p1 = P[1]! := ⟨_, ep_ix (k := 1) (by omega), rfl⟩
  have hp1m : p1 ∈ P := by rw [hp1]; exact mem_at (by omega)
  obtain ⟨hp1a, hp1b⟩ := hP p1 hp1m
  have sl1 : fSl (ep p1) none (some (N : Int)) = some (.tup (zs p1.1)) := by
    show some (D.tup (cutD (zs (p1.1 ++ [p1.2])) none (some _))) = _
    rw [cut_take (by simp; omega), ← hp1b]
    simp
  have ib1 : fIx (ep p1) (.int (N : Int)) = some (.int p1.2) := pz_bot (by rw [hp1b])
  have b3 : Bd 2 (3 : Int) := by show (3 : Int).natAbs < 2 ^ 2; decide
  have mb3 : okMul p1.2 3 = true := hp1a.m.okM b3 (by decide)
  have hc3 := mapc (i := 14) (ρ := [.im (.scr ns), .im S, .im (.int (N : Int)), .im T, y1, .im (.tup (zs a)), .im Sh, .im Hm, .ow false (.l (P.map ep)), y2, y3, y4, .un, .un, .un]) (me := mOp2 fMul (mVar 14) (mI 3)) (f := fun x => x * 3) (l := p1.1) (fun x hx => by
    have k3 : okMul x 3 = true := (hp1a.n x hx).okM b3 (by decide)
    simp [k3]) (by omega)
  have hpp : 0 < p1.2 * 3 := Int.mul_pos hp1a.p (by decide)
  have hq3 := point_ok (NS.t (p1.1.map fun x => x * 3)) (b := p1.2 * 3) (by omega) (hp1a.m.mul b3) (by decide) (by simp; omega)
  rw [if_neg (by omega)] at hq3
  obtain ⟨p2, hp2, hp2a, hp2b⟩ : ∃ p2 : Plc, d_point [.tup (zs (p1.1.map fun x => x * 3)), .int (p1.2 * 3)] = .ok (ep p2) ∧ Pl p2.1 p2.2 ∧ p2.1.length = N := by
    refine ⟨(rn (p1.1.map fun x => x * 3) (p1.2 * 3), rb (p1.1.map fun x => x * 3) (p1.2 * 3)), hq3, ?_, by rw [rn_len]; simp [hp1b]⟩
    -- by the scale it is the place itself
    have e1 : p1.1.map (fun x => x * 3) = p1.1.map (3 * ·) := List.map_congr_left fun x _ => Int.mul_comm x 3
    obtain ⟨s1, s2⟩ := r_scale (l := p1.1) (b := p1.2) (c := 3) (by decide) (by have := hp1a.p; omega)
    have e2 : p1.2 * 3 = 3 * p1.2 := Int.mul_comm _ _
    show Pl (rn _ _) (rb _ _)
    rw [e1, e2, s1, s2]
    obtain ⟨q1, q2⟩ := rn_id hp1a.g
    rw [q1, q2]
    exact hp1a
  have hPs : P.length < 16777215 := by omega
  refine wps_nx (ρ1 := [.im (.scr ns), .im S, .im (.int (N : Int)), .im T, y1, .im (.tup (zs a)), .im Sh, .im Hm, .ow false (.l ((P ++ [p2]).map ep)), y2, y3, y4, .un, .un, .un]) ?_ ?_
  · generalize zs (p1.1.map fun x => x * 3) = Z at hc3 hp2
    simp [P1, sl1, ib1, mb3, hc3, hp2, hPs]
  -- the shares
  obtain ⟨w, hw⟩ := choo gh
  have hr4 := mRng1_ok (m := mI 4) (ρ := [.im (.scr ns), .im S, .im (.int (N : Int)), .im T, y1, .im (.tup (zs a)), .im Sh, .im Hm, .ow false (.l ((P ++ [p2]).map ep)), y2, y3, y4, .un, .un, .un]) (j := 4) 4 rfl rfl (by omega)
  have hc4 := rowc (i := 4) (ρ := [.im (.scr ns), .im S, .im (.int (N : Int)), .im T, .un, .im (.tup (zs a)), .im Sh, .im Hm, .ow false (.l ((P ++ [p2]).map ep)), y2, y3, y4, .un, .un, .un]) (me := mOpA fInt (mCons (mOp2 fIx (mVar 3) (mOp2 fAdd (mI 5) (mVar 4))) mNil)) (f := w) (n := 4) (fun k hk => by simp [(hw k hk).1]) (by omega)
  have hw0 : ∀ x ∈ (List.range 4).map w, 0 ≤ x ∧ x < 10 := by
    intro x hx
    obtain ⟨k, hk, rfl⟩ := List.mem_map.mp hx
    exact (hw k (by simpa using hk)).2
  have hwl : ((List.range 4).map w).length = 4 := by simp
  generalize (List.range 4).map w = W0 at hc4 hw0 hwl
  refine wps_nx (ρ1 := [.im (.scr ns), .im S, .im (.int (N : Int)), .im T, y1, .im (.tup (zs a)), .im Sh, .im Hm, .ow false (.l ((P ++ [p2]).map ep)), y2, y3, y4, .im (.tup (zs W0)), .un, .un]) ?_ ?_
  · simp only [sSet_d, mOpA_d, mCons_d, mNil_d, mFz_d, mLc_d, wipeE_cons, wipeE_nil, List.set_cons_succ, List.set_cons_zero]
    rw [hr4, bind_ok, hc4]
    simp only [bind_ok, Cnd_l, List.nil_append, fTuple_l, ofO_some, runE_ok, List.set_cons_succ, List.set_cons_zero]
  obtain ⟨W, hWl, hWb, hWp, hWs⟩ : ∃ W : List Int, W.length = 4 ∧ BL 10 W ∧ 0 < W.sum ∧ sIf (mTst (mOp2 fEq (mOpA fSum (mCons (mVar 12) mNil)) (mI 0))) (sSet 12 (mTup (mCons (mI 0) (mCons (mI 2) (mCons (mI 0) (mCons (mI 1) mNil)))))) sNop [.im (.scr ns), .im S, .im (.int (N : Int)), .im T, y1, .im (.tup (zs a)), .im Sh, .im Hm, .ow false (.l ((P ++ [p2]).map ep)), y2, y3, y4, .im (.tup (zs W0)), .un, .un]
      = some (.nx [.im (.scr ns), .im S, .im (.int (N : Int)), .im T, y1, .im (.tup (zs a)), .im Sh, .im Hm, .ow false (.l ((P ++ [p2]).map ep)), y2, y3, y4, .im (.tup (zs W)), .un, .un]) := by
    have hnn : 0 ≤ W0.sum := by
      match W0, hwl with
      | [q1, q2, q3, q4], _ =>
        have z1 := hw0 q1 (by simp)
        have z2 := hw0 q2 (by simp)
        have z3 := hw0 q3 (by simp)
        have z4 := hw0 q4 (by simp)
        simp
        omega
    by_cases h0 : W0.sum = 0
    · refine ⟨[0, 2, 0, 1], rfl, ?_, by decide, ?_⟩
      · intro x hx
        simp only [List.mem_cons, List.not_mem_nil, or_false] at hx
        rcases hx with rfl | rfl | rfl | rfl <;> (show Int.natAbs _ < 2 ^ 10; decide)
      · simp [h0]
    · refine ⟨W0, hwl, fun x hx => ?_, by omega, by simp [h0]⟩
      have := hw0 x hx
      show x.natAbs < 2 ^ 10
      omega
  refine wps_nx hWs ?_
  clear hWs hc4 hr4 hc3 hc hr
  generalize hQ : P ++ [p2] = Q
  have hQl : Q.length = 5 := by rw [← hQ]; simp [hPl]
  have hQp : ∀ p ∈ Q, Pl p.1 p.2 ∧ p.1.length = N := by
    intro p hp
    rw [← hQ] at hp
    rcases List.mem_append.mp hp with h' | h'
    · exact hP p h'
    · simp at h'; subst h'; exact ⟨hp2a, hp2b⟩
  have hQ1 : fIx (.lst (Q.map ep)) (.int 1) = some (ep Q[1]!) := ep_ix (k := 1) (by omega)
  have hq1 := hQp _ (mem_at (P := Q) (k := 1) (by omega))
  have hQ4 : fSl (.lst (Q.map ep)) none (some 4) = some (.lst ((Q.take 4).map ep)) := by
    show some (D.lst (cutD (Q.map ep) none (some ((4 : Nat) : Int)))) = _
    rw [cut_take (by simp; omega)]
    simp
  have M : Ms (Q.take 4) W N := ⟨fun p hp => hQp p (List.mem_of_mem_take hp), by simp; omega, by rw [List.length_take]; omega, hWb, fun e => by
    have := congrArg List.length e
    rw [List.length_take, List.length_nil] at this
    omega, hWp⟩
  have f1 := mixed_ok M (by omega)
  have f2 := mean_ok (s := .tup (zs W)) M (NS.t W) (by simp) (by omega)
  obtain ⟨e1, e2⟩ := M.same
  rw [← e1, ← e2] at f2
  have n1 := pz_same (rn (mixn (Q.take 4) W (lowB (Q.take 4)) N) (lowB (Q.take 4) * W.sum)) (rb (mixn (Q.take 4) W (lowB (Q.take 4)) N) (lowB (Q.take 4) * W.sum))
  generalize pz (rn (mixn (Q.take 4) W (lowB (Q.take 4)) N) (lowB (Q.take 4) * W.sum)) (rb (mixn (Q.take 4) W (lowB (Q.take 4)) N) (lowB (Q.take 4) * W.sum)) = X1 at f1 f2 n1
  have M1 : Ms [Q[1]!] [3] Q[1]!.1.length := ⟨fun p hp => by
    have : p = Q[1]! := by simpa using hp
    subst this
    exact ⟨hq1.1, rfl⟩, by simp, rfl, fun x hx => by
    have : x = 3 := by simpa using hx
    subst this
    show (3 : Int).natAbs < 2 ^ 10
    decide, by simp, by decide⟩
  have f3 := mixed_ok M1 (by rw [hq1.2]; omega)
  rw [lone hq1.1] at f3
  have f3 : d_mixed [.tup [ep Q[1]!], .tup [.int 3]] = .ok (ep Q[1]!) := f3
  have n2 : fNe (ep Q[1]!) (ep Q[1]!) = some (.bl false) := pz_same _ _
  generalize hU : ep Q[1]! = U at f3 n2 hQ1
  generalize hTk : (Q.take 4).map ep = Tk at hQ4 f1 f2
  generalize hWd : D.tup (zs W) = Wd at f1 f2
  refine wps_nx (ρ1 := [.im (.scr ns), .im S, .im (.int (N : Int)), .im T, y1, .im (.tup (zs a)), .im Sh, .im Hm, .im (.lst (Q.map ep)), y2, y3, y4, .im Wd, .un, .un]) (by simp only [sFrz_d, frz1_d, List.getElem?_cons_succ, List.getElem?_cons_zero, Cnd_l, List.set_cons_succ, List.set_cons_zero]; simp [hQ4, f1, f2, n1, hQ1, f3, n2]) (wps_seq ?_)
  have hr5 := mRng1_ok (m := mOpA fLen (mCons (mVar 8) mNil)) (ρ := [.im (.scr ns), .im S, .im (.int (N : Int)), .im T, y1, .im (.tup (zs a)), .im Sh, .im Hm, .im (.lst (Q.map ep)), y2, y3, y4, .im Wd, .un, .un]) (j := (Q.length : Int)) Q.length (by simp) rfl (by omega)
  refine wps_for (List.range Q.length) (fun (k : Nat) => D.int (k : Int)) hr5 (fun pre ρ => ∃ z1 z2, ρ = [.im (.scr ns), .im S, .im (.int (N : Int)), .im T, z1, .im (.tup (zs a)), .im Sh, .im Hm, .im (.lst (Q.map ep)), y2, y3, y4, .im Wd, z2, .un]) ⟨_, _, rfl⟩ ?_ ?_
  · rintro pre k post ρ e ⟨z1, z2, rfl⟩
    obtain ⟨-, hk⟩ := range_split e
    have hpk := hQp _ (mem_at hk)
    have ik : fIx (.lst (Q.map ep)) (.int (k : Int)) = some (ep Q[k]!) := ep_ix hk
    have nk : d_law_near [ep Q[k]!, .int (N : Int), R2] = .ok (.bl true) := by
      have := near_ok hpk.1 (by rw [hpk.2]; omega) (by rw [hpk.2]; omega) hR20 bs2.1 bs2.2
      rw [hpk.2] at this
      exact this
    refine ⟨_, rfl, wps_nx (ρ1 := [.im (.scr ns), .im S, .im (.int (N : Int)), .im T, .im (.int (k : Int)), .im (.tup (zs a)), .im Sh, .im Hm, .im (.lst (Q.map ep)), y2, y3, y4, .im Wd, z2, .un]) (by
      simp only [sIf_d, mtNot_d, mTru_d, mCall_d, mCons_d, mNil_d, mOp2_d, mSl_d, mPart_d, mNoPart_d, mVar_d, mC_d, List.set_cons_succ, List.set_cons_zero, List.getElem?_cons_succ, List.getElem?_cons_zero, bind_ok, ik, ofO_some, intOf_int, hR2, List.length_cons, List.length_nil, if_true, nk, tru_bl, Bool.not_true, runE_ok, Bool.false_eq_true, if_false, sNop_d]) ?_⟩
    have hr6 := mRng1_ok (m := mOpA fLen (mCons (mVar 8) mNil)) (ρ := [.im (.scr ns), .im S, .im (.int (N : Int)), .im T, .im (.int (k : Int)), .im (.tup (zs a)), .im Sh, .im Hm, .im (.lst (Q.map ep)), y2, y3, y4, .im Wd, z2, .un]) (j := (Q.length : Int)) Q.length (by simp) rfl (by omega)
    refine wps_for (List.range Q.length) (fun (j : Nat) => D.int (j : Int)) hr6 (fun pre2 ρ => ∃ z3, ρ = [.im (.scr ns), .im S, .im (.int (N : Int)), .im T, .im (.int (k : Int)), .im (.tup (zs a)), .im Sh, .im Hm, .im (.lst (Q.map ep)), y2, y3, y4, .im Wd, z3, .un]) ⟨_, rfl⟩ ?_ ?_
    · rintro pre2 j post2 ρ e2 ⟨z3, rfl⟩
      obtain ⟨-, hj⟩ := range_split e2
      have hpj := hQp _ (mem_at hj)
      have ij : fIx (.lst (Q.map ep)) (.int (j : Int)) = some (ep Q[j]!) := ep_ix hj
      have tk := two_ok hpk.1 hpj.1 (by rw [hpj.2, hpk.2]) (by rw [hpk.2]; omega) ha (by rw [hal, hpk.2]) hs1 hs2 hs3
      rw [hSh] at tk
      have tk : d_law_two [ep Q[k]!, ep Q[j]!, .tup (zs a), Sh] = .ok (.bl true) := tk
      refine ⟨_, rfl, wps_n (ρ := [.im (.scr ns), .im S, .im (.int (N : Int)), .im T, .im (.int (k : Int)), .im (.tup (zs a)), .im Sh, .im Hm, .im (.lst (Q.map ep)), y2, y3, y4, .im Wd, .im (.int (j : Int)), .un]) ?_ ⟨_, rfl⟩⟩
      simp only [sIf_d, mtNot_d, mTru_d, mCall_d, mCons_d, mNil_d, mOp2_d, mVar_d, List.set_cons_succ, List.set_cons_zero, List.getElem?_cons_succ, List.getElem?_cons_zero, bind_ok, ik, ij, ofO_some, List.length_cons, List.length_nil, if_true, tk, tru_bl, Bool.not_true, runE_ok, Bool.false_eq_true, if_false, sNop_d]
    · rintro ρ ⟨z3, rfl⟩
      exact ⟨_, _, rfl⟩
  · rintro ρ ⟨z1, z2, rfl⟩
    exact wps_r (d := .bl true) (by simp) rfl
end Cm
namespace Cm
open PySem L2 FL
/-! ### the text -/
def topS (i : Nat) : Stmt := PySem.Challenge.pw_calmspot_k01_points_and_ways.main.body.getD i (.Pass ⟨0, 0, 0, 0⟩)
abbrev s_plain : Stmt := topS 2
abbrev s_is_zero : Stmt := topS 3
abbrev s_ratio : Stmt := topS 8
abbrev s_point : Stmt := topS 10
abbrev s_home_point : Stmt := topS 11
abbrev s_is_point : Stmt := topS 12
abbrev s_dimension_of : Stmt := topS 13
abbrev s_law_whole : Stmt := topS 23
abbrev s_law_cell : Stmt := topS 24
abbrev s_law_digits : Stmt := topS 25
abbrev s_law_gcd : Stmt := topS 26
abbrev s_law_big : Stmt := topS 33
abbrev s_middle : Stmt := topS 14
abbrev s_moved : Stmt := topS 15
abbrev s_mixed : Stmt := topS 16
abbrev s_product : Stmt := topS 17
abbrev s_difference : Stmt := topS 18
abbrev s_law_reduced : Stmt := topS 27
abbrev s_law_fraction : Stmt := topS 28
abbrev s_law_is_place : Stmt := topS 29
abbrev s_law_short : Stmt := topS 32
abbrev s_law_drawn : Stmt := topS 35
abbrev s_law_no_point : Stmt := topS 36
abbrev s_law_near : Stmt := topS 39
abbrev s_squared : Stmt := topS 19
abbrev s_compare_points : Stmt := topS 20
abbrev s_direction : Stmt := topS 21
abbrev s_law_along : Stmt := topS 30
abbrev s_law_square : Stmt := topS 31
abbrev s_law_signed : Stmt := topS 34
abbrev s_law_mean : Stmt := topS 37
abbrev s_law_two : Stmt := topS 38
abbrev s_law : Stmt := topS 40
def cA (K : PySem.W.Frag) (n : Str) : Addr := match PySem.W.nsIn K mainGlobals n with | some (some (.ref a)) => a | _ => 0
def clOf (K : PySem.W.Frag) (xa : Option (Addr × Value × Option Addr)) : Cl := ⟨fun n => match n with | 0 => cA K "CalmError" | 1 => cA K "ZeroBottom" | _ => 0, xa⟩
structure Txt (K : PySem.W.Frag) (mg : Str → Option Value) : Type where
  a_plain : Addr
  fd_plain : FuncData
  F_plain : Fun K "plain" "plain" s_plain a_plain fd_plain
  m_plain : mg "plain" = some (.ref a_plain)
  b_plain : Binds K fd_plain ["arrow"] []
  a_is_zero : Addr
  fd_is_zero : FuncData
  F_is_zero : Fun K "is_zero" "is_zero" s_is_zero a_is_zero fd_is_zero
  m_is_zero : mg "is_zero" = some (.ref a_is_zero)
  b_is_zero : Binds K fd_is_zero ["arrow"] []
  a_ratio : Addr
  fd_ratio : FuncData
  F_ratio : Fun K "ratio" "ratio" s_ratio a_ratio fd_ratio
  m_ratio : mg "ratio" = some (.ref a_ratio)
  b_ratio : Binds K fd_ratio ["top", "bottom"] []
  a_point : Addr
  fd_point : FuncData
  F_point : Fun K "point" "point" s_point a_point fd_point
  m_point : mg "point" = some (.ref a_point)
  b_point : Binds K fd_point ["numbers", "bottom"] []
  a_home_point : Addr
  fd_home_point : FuncData
  F_home_point : Fun K "home_point" "home_point" s_home_point a_home_point fd_home_point
  m_home_point : mg "home_point" = some (.ref a_home_point)
  b_home_point : Binds K fd_home_point ["home"] []
  a_is_point : Addr
  fd_is_point : FuncData
  F_is_point : Fun K "is_point" "is_point" s_is_point a_is_point fd_is_point
  m_is_point : mg "is_point" = some (.ref a_is_point)
  b_is_point : Binds K fd_is_point ["value", "dimension"] []
  a_dimension_of : Addr
  fd_dimension_of : FuncData
  F_dimension_of : Fun K "dimension_of" "dimension_of" s_dimension_of a_dimension_of fd_dimension_of
  m_dimension_of : mg "dimension_of" = some (.ref a_dimension_of)
  b_dimension_of : Binds K fd_dimension_of ["place"] []
  a_law_whole : Addr
  fd_law_whole : FuncData
  F_law_whole : Fun K "_law_whole" "_law_whole" s_law_whole a_law_whole fd_law_whole
  m_law_whole : mg "_law_whole" = some (.ref a_law_whole)
  b_law_whole : Binds K fd_law_whole ["value"] []
  a_law_cell : Addr
  fd_law_cell : FuncData
  F_law_cell : Fun K "_law_cell" "_law_cell" s_law_cell a_law_cell fd_law_cell
  m_law_cell : mg "_law_cell" = some (.ref a_law_cell)
  b_law_cell : Binds K fd_law_cell ["script", "k"] []
  a_law_digits : Addr
  fd_law_digits : FuncData
  F_law_digits : Fun K "_law_digits" "_law_digits" s_law_digits a_law_digits fd_law_digits
  m_law_digits : mg "_law_digits" = some (.ref a_law_digits)
  b_law_digits : Binds K fd_law_digits ["cell", "sizes"] []
  a_law_gcd : Addr
  fd_law_gcd : FuncData
  F_law_gcd : Fun K "_law_gcd" "_law_gcd" s_law_gcd a_law_gcd fd_law_gcd
  m_law_gcd : mg "_law_gcd" = some (.ref a_law_gcd)
  b_law_gcd : Binds K fd_law_gcd ["one", "other"] []
  a_law_big : Addr
  fd_law_big : FuncData
  F_law_big : Fun K "_law_big" "_law_big" s_law_big a_law_big fd_law_big
  m_law_big : mg "_law_big" = some (.ref a_law_big)
  b_law_big : Binds K fd_law_big ["row"] []
  a_middle : Addr
  fd_middle : FuncData
  F_middle : Fun K "middle" "middle" s_middle a_middle fd_middle
  m_middle : mg "middle" = some (.ref a_middle)
  b_middle : Binds K fd_middle ["one", "two"] []
  a_moved : Addr
  fd_moved : FuncData
  F_moved : Fun K "moved" "moved" s_moved a_moved fd_moved
  m_moved : mg "moved" = some (.ref a_moved)
  b_moved : Binds K fd_moved ["place", "arrow", "share"] []
  a_mixed : Addr
  fd_mixed : FuncData
  F_mixed : Fun K "mixed" "mixed" s_mixed a_mixed fd_mixed
  m_mixed : mg "mixed" = some (.ref a_mixed)
  b_mixed : Binds K fd_mixed ["places", "shares"] []
  a_product : Addr
  fd_product : FuncData
  F_product : Fun K "product" "product" s_product a_product fd_product
  m_product : mg "product" = some (.ref a_product)
  b_product : Binds K fd_product ["arrow", "place"] []
  a_difference : Addr
  fd_difference : FuncData
  F_difference : Fun K "difference" "difference" s_difference a_difference fd_difference
  m_difference : mg "difference" = some (.ref a_difference)
  b_difference : Binds K fd_difference ["one", "two"] []
  a_law_reduced : Addr
  fd_law_reduced : FuncData
  F_law_reduced : Fun K "_law_reduced" "_law_reduced" s_law_reduced a_law_reduced fd_law_reduced
  m_law_reduced : mg "_law_reduced" = some (.ref a_law_reduced)
  b_law_reduced : Binds K fd_law_reduced ["numbers", "bottom"] []
  a_law_fraction : Addr
  fd_law_fraction : FuncData
  F_law_fraction : Fun K "_law_fraction" "_law_fraction" s_law_fraction a_law_fraction fd_law_fraction
  m_law_fraction : mg "_law_fraction" = some (.ref a_law_fraction)
  b_law_fraction : Binds K fd_law_fraction ["over_line", "under_line"] []
  a_law_is_place : Addr
  fd_law_is_place : FuncData
  F_law_is_place : Fun K "_law_is_place" "_law_is_place" s_law_is_place a_law_is_place fd_law_is_place
  m_law_is_place : mg "_law_is_place" = some (.ref a_law_is_place)
  b_law_is_place : Binds K fd_law_is_place ["value", "size"] []
  a_law_short : Addr
  fd_law_short : FuncData
  F_law_short : Fun K "_law_short" "_law_short" s_law_short a_law_short fd_law_short
  m_law_short : mg "_law_short" = some (.ref a_law_short)
  b_law_short : Binds K fd_law_short ["arrow"] []
  a_law_drawn : Addr
  fd_law_drawn : FuncData
  F_law_drawn : Fun K "_law_drawn" "_law_drawn" s_law_drawn a_law_drawn fd_law_drawn
  m_law_drawn : mg "_law_drawn" = some (.ref a_law_drawn)
  b_law_drawn : Binds K fd_law_drawn ["cell", "size"] []
  a_law_no_point : Addr
  fd_law_no_point : FuncData
  F_law_no_point : Fun K "_law_no_point" "_law_no_point" s_law_no_point a_law_no_point fd_law_no_point
  m_law_no_point : mg "_law_no_point" = some (.ref a_law_no_point)
  b_law_no_point : Binds K fd_law_no_point ["numbers"] []
  a_law_near : Addr
  fd_law_near : FuncData
  F_law_near : Fun K "_law_near" "_law_near" s_law_near a_law_near fd_law_near
  m_law_near : mg "_law_near" = some (.ref a_law_near)
  b_law_near : Binds K fd_law_near ["place", "size", "row"] []
  a_squared : Addr
  fd_squared : FuncData
  F_squared : Fun K "squared" "squared" s_squared a_squared fd_squared
  m_squared : mg "squared" = some (.ref a_squared)
  b_squared : Binds K fd_squared ["one", "two"] []
  a_compare_points : Addr
  fd_compare_points : FuncData
  F_compare_points : Fun K "compare_points" "compare_points" s_compare_points a_compare_points fd_compare_points
  m_compare_points : mg "compare_points" = some (.ref a_compare_points)
  b_compare_points : Binds K fd_compare_points ["one", "two"] []
  a_direction : Addr
  fd_direction : FuncData
  F_direction : Fun K "direction" "direction" s_direction a_direction fd_direction
  m_direction : mg "direction" = some (.ref a_direction)
  b_direction : Binds K fd_direction ["one", "two"] []
  a_law_along : Addr
  fd_law_along : FuncData
  F_law_along : Fun K "_law_along" "_law_along" s_law_along a_law_along fd_law_along
  m_law_along : mg "_law_along" = some (.ref a_law_along)
  b_law_along : Binds K fd_law_along ["arrow", "place"] []
  a_law_square : Addr
  fd_law_square : FuncData
  F_law_square : Fun K "_law_square" "_law_square" s_law_square a_law_square fd_law_square
  m_law_square : mg "_law_square" = some (.ref a_law_square)
  b_law_square : Binds K fd_law_square ["one", "other"] []
  a_law_signed : Addr
  fd_law_signed : FuncData
  F_law_signed : Fun K "_law_signed" "_law_signed" s_law_signed a_law_signed fd_law_signed
  m_law_signed : mg "_law_signed" = some (.ref a_law_signed)
  b_law_signed : Binds K fd_law_signed ["numbers", "bottom"] []
  a_law_mean : Addr
  fd_law_mean : FuncData
  F_law_mean : Fun K "_law_mean" "_law_mean" s_law_mean a_law_mean fd_law_mean
  m_law_mean : mg "_law_mean" = some (.ref a_law_mean)
  b_law_mean : Binds K fd_law_mean ["places", "shares"] []
  a_law_two : Addr
  fd_law_two : FuncData
  F_law_two : Fun K "_law_two" "_law_two" s_law_two a_law_two fd_law_two
  m_law_two : mg "_law_two" = some (.ref a_law_two)
  b_law_two : Binds K fd_law_two ["one", "other", "arrow", "share"] []
  a_law : Addr
  fd_law : FuncData
  F_law : Fun K "law" "law" s_law a_law fd_law
  m_law : mg "law" = some (.ref a_law)
  b_law : Binds K fd_law ["script"] []
  g_CalmError : mg "CalmError" = some (.ref (cA K "CalmError"))
  g_ZeroBottom : mg "ZeroBottom" = some (.ref (cA K "ZeroBottom"))
  s_CalmError : PySem.W.subIn K (.ref (cA K "CalmError")) (.type "BaseException") = some true
  t_CalmError : PySem.W.typeIn K (.ref (cA K "CalmError")) = some (.type "type")
  d_CalmError : PySem.W.hasDictIn K (cA K "CalmError") = true
  q_ZeroBottom : PySem.W.excIn K (cA K "ZeroBottom") [.type "ValueError", .type "Exception", .type "BaseException", .type "object"] "ValueError.__new__" = true
  kp_ZeroBottom : PySem.W.keepIn K (.ref (cA K "ZeroBottom")) = true
  s_ZeroBottom : PySem.W.subIn K (.ref (cA K "ZeroBottom")) (.type "BaseException") = some true
  t_ZeroBottom : PySem.W.typeIn K (.ref (cA K "ZeroBottom")) = some (.type "type")
  d_ZeroBottom : PySem.W.hasDictIn K (cA K "ZeroBottom") = true
  h1_ZeroBottom : PySem.W.findIn K (.ref (cA K "ZeroBottom")) "__getattribute__" = some (some (.builtin "BaseException.__getattribute__"))
  h2_ZeroBottom : PySem.W.findIn K (.ref (cA K "ZeroBottom")) "__getattr__" = some none
  h3_ZeroBottom : PySem.W.findIn K (.ref (cA K "ZeroBottom")) "__class__" = some (some (.builtin "object.__class__"))
  h4_ZeroBottom : PySem.W.mroIn K (cA K "ZeroBottom") (.type "object") = some true
  hn_ : PySem.W.specialIn K (.builtin "object.__class__") "__get__" = some (some (.builtin "getset_descriptor.__get__"))
  ht_ : PySem.W.takesIn K (.builtin "object.__class__") = some true
  u_ZeroBottom_CalmError : PySem.W.subIn K (.ref (cA K "ZeroBottom")) (.ref (cA K "CalmError")) = some true
  kit_ZeroBottom_ZeroBottom : PySem.W.kitOne K (.ref (cA K "ZeroBottom")) (.ref (cA K "ZeroBottom")) = some true
  z_abs : mg "abs" = none
  z_all : mg "all" = none
  z_any : mg "any" = none
  z_bool : mg "bool" = none
  z_int : mg "int" = none
  z_isinstance : mg "isinstance" = none
  z_len : mg "len" = none
  z_list : mg "list" = none
  z_range : mg "range" = none
  z_sum : mg "sum" = none
  z_tuple : mg "tuple" = none
  z_zip : mg "zip" = none
  g_gcd : mg "gcd" = some (.builtin "math.gcd")
theorem Txt.xc_ZeroBottom {K : PySem.W.Frag} {mg : Str → Option Value} (T : Txt K mg) : XcC K (cA K "ZeroBottom") := ⟨T.d_ZeroBottom, T.h1_ZeroBottom, T.h2_ZeroBottom, T.s_ZeroBottom, T.h3_ZeroBottom, T.hn_, T.ht_, T.h4_ZeroBottom⟩
section
variable {P : Program} {w : World} {K : PySem.W.Frag} {mg : Str → Option Value} {base : Heap} {xa : Option (Addr × Value × Option Addr)}
theorem sc_plain : FnScope ["arrow", "common", "number"] ["arrow"] (defScope s_plain) := ⟨rfl, rfl, rfl, by decide +kernel, rfl, by decide +kernel, by decide +kernel⟩
theorem ok_plain (T : Txt K mg) : FnOk P w K mg base (L2.CX P w) 1 T.a_plain T.fd_plain ["arrow"] (spOf K (clOf K xa) 1 d_plain) :=
  fn_ok T.F_plain sc_plain rfl rfl fun cdv A outer s H E hr pw tk => by
    have hu : (A.deeper (PyProof.Rows.envOfC "plain" (defScope s_plain) s.heap.objs.size T.a_plain cdv)).units + 65 < cLine := by have := hr.un; omega
    exact (ss_cons (ss_set 1 (ps_set (i := 1) sc_plain.nd rfl (Or.inr rfl) so_int)) (ss_cons (ss_for pw rfl (si_seq (so_var 0 (pv 0))) (g_name 2) (pg_name (i := 2) sc_plain.nd rfl (Or.inl rfl)) (ss_one (ss_set 1 (ps_set (i := 1) sc_plain.nd rfl (Or.inr rfl) (so_callF cr_gcd a_gcd rfl T.g_gcd (sa_cons (so_var 1 (pv 1)) (sa_cons (so_var 2 (pv 2)) sa_nil))))))) (ss_one (ss_ret (so_callTy call_tuple_of a_tuple rfl T.z_tuple bt_tuple (sa_cons (so_fz (sc_lc (own := [("number", 2)]) rfl sc_plain.nd (g_name 2) (by decide) (si_seq (so_var 0 (pv 0))) (blkOk_by (N := ["arrow", "common", "number"]) (sc := defScope s_plain) (by decide +kernel)) (fun _ _ _ _ _ => (pg_name (i := 2) sc_plain.nd rfl (by first | exact Or.inl rfl | exact Or.inr rfl))) (fun _ _ _ _ _ => ts_nil) (fun _ _ _ _ _ => (so_bin op_fdivX o_fdiv (so_var 2 (pv 2)) (so_var 1 (pv 1)))))) sa_nil))))))
theorem sc_is_zero : FnScope ["arrow", "number"] ["arrow"] (defScope s_is_zero) := ⟨rfl, rfl, rfl, by decide +kernel, rfl, by decide +kernel, by decide +kernel⟩
theorem ok_is_zero (T : Txt K mg) : FnOk P w K mg base (L2.CX P w) 1 T.a_is_zero T.fd_is_zero ["arrow"] (spOf K (clOf K xa) 1 d_is_zero) :=
  fn_ok T.F_is_zero sc_is_zero rfl rfl fun cdv A outer s H E hr pw tk => by
    have hu : (A.deeper (PyProof.Rows.envOfC "is_zero" (defScope s_is_zero) s.heap.objs.size T.a_is_zero cdv)).units + 65 < cLine := by have := hr.un; omega
    exact (ss_cons (ss_for pw rfl (si_seq (so_var 0 (pv 0))) (g_name 1) (pg_name (i := 1) sc_is_zero.nd rfl (Or.inl rfl)) (ss_one (ss_if (sb_cmp (op_neD hr.units) o_ne (so_var 1 (pv 1)) so_int (nomark _)) (ss_one (ss_ret so_bl)) ss_nil))) (ss_one (ss_ret so_bl)))
theorem sc_ratio : FnScope ["top", "bottom", "common"] ["top", "bottom"] (defScope s_ratio) := ⟨rfl, rfl, rfl, by decide +kernel, rfl, by decide +kernel, by decide +kernel⟩
theorem ok_ratio (T : Txt K mg) : FnOk P w K mg base (L2.CX P w) 1 T.a_ratio T.fd_ratio ["top", "bottom"] (spOf K (clOf K xa) 2 d_ratio) :=
  fn_ok T.F_ratio sc_ratio rfl rfl fun cdv A outer s H E hr pw tk => by
    have hu : (A.deeper (PyProof.Rows.envOfC "ratio" (defScope s_ratio) s.heap.objs.size T.a_ratio cdv)).units + 65 < cLine := by have := hr.un; omega
    exact (ss_cons (ss_if (sb_cmp (op_eqD hr.units) o_eq (so_var 1 (pv 1)) so_int (nomark _)) (ss_one (ss_raise0 (c := 1) rfl tk (pm_bare PySem.F.excBase_ValueError T.q_ZeroBottom T.g_ZeroBottom T.kp_ZeroBottom (raises_own T.s_ZeroBottom T.t_ZeroBottom) rfl))) ss_nil) (ss_cons (ss_set 2 (ps_set (i := 2) sc_ratio.nd rfl (Or.inl rfl) (so_callF cr_gcd a_gcd rfl T.g_gcd (sa_cons (so_var 0 (pv 0)) (sa_cons (so_var 1 (pv 1)) sa_nil))))) (ss_cons (ss_if (sb_cmp op_lt o_lt (so_var 1 (pv 1)) so_int (nomark _)) (ss_one (ss_set 2 (ps_set (i := 2) sc_ratio.nd rfl (Or.inl rfl) (so_un un_neg o_neg (so_var 2 (pv 2)))))) ss_nil) (ss_one (ss_ret (so_tup (sa_cons (so_bin op_fdivX o_fdiv (so_var 0 (pv 0)) (so_var 2 (pv 2))) (sa_cons (so_bin op_fdivX o_fdiv (so_var 1 (pv 1)) (so_var 2 (pv 2))) sa_nil))))))))
theorem sc_point : FnScope ["numbers", "bottom", "common", "number"] ["numbers", "bottom"] (defScope s_point) := ⟨rfl, rfl, rfl, by decide +kernel, rfl, by decide +kernel, by decide +kernel⟩
theorem ok_point (T : Txt K mg) : FnOk P w K mg base (L2.CX P w) 1 T.a_point T.fd_point ["numbers", "bottom"] (spOf K (clOf K xa) 2 d_point) :=
  fn_ok T.F_point sc_point rfl rfl fun cdv A outer s H E hr pw tk => by
    have hu : (A.deeper (PyProof.Rows.envOfC "point" (defScope s_point) s.heap.objs.size T.a_point cdv)).units + 65 < cLine := by have := hr.un; omega
    exact (ss_cons (ss_if (sb_cmp (op_eqD hr.units) o_eq (so_var 1 (pv 1)) so_int (nomark _)) (ss_one (ss_raise0 (c := 1) rfl tk (pm_bare PySem.F.excBase_ValueError T.q_ZeroBottom T.g_ZeroBottom T.kp_ZeroBottom (raises_own T.s_ZeroBottom T.t_ZeroBottom) rfl))) ss_nil) (ss_cons (ss_set 2 (ps_set (i := 2) sc_point.nd rfl (Or.inr rfl) (so_var 1 (pv 1)))) (ss_cons (ss_for pw rfl (si_seq (so_var 0 (pv 0))) (g_name 3) (pg_name (i := 3) sc_point.nd rfl (Or.inl rfl)) (ss_one (ss_set 2 (ps_set (i := 2) sc_point.nd rfl (Or.inr rfl) (so_callF cr_gcd a_gcd rfl T.g_gcd (sa_cons (so_var 2 (pv 2)) (sa_cons (so_var 3 (pv 3)) sa_nil))))))) (ss_cons (ss_set 2 (ps_set (i := 2) sc_point.nd rfl (Or.inr rfl) (so_callB call_abs a_abs rfl T.z_abs bt_abs (sa_cons (so_var 2 (pv 2)) sa_nil)))) (ss_cons (ss_if (sb_cmp op_lt o_lt (so_var 1 (pv 1)) so_int (nomark _)) (ss_one (ss_set 2 (ps_set (i := 2) sc_point.nd rfl (Or.inr rfl) (so_un un_neg o_neg (so_var 2 (pv 2)))))) ss_nil) (ss_one (ss_ret (so_bin op_addU o_add (so_callTy call_tuple_of a_tuple rfl T.z_tuple bt_tuple (sa_cons (so_fz (sc_lc (own := [("number", 3)]) rfl sc_point.nd (g_name 3) (by decide) (si_seq (so_var 0 (pv 0))) (blkOk_by (N := ["numbers", "bottom", "common", "number"]) (sc := defScope s_point) (by decide +kernel)) (fun _ _ _ _ _ => (pg_name (i := 3) sc_point.nd rfl (by first | exact Or.inl rfl | exact Or.inr rfl))) (fun _ _ _ _ _ => ts_nil) (fun _ _ _ _ _ => (so_bin op_fdivX o_fdiv (so_var 3 (pv 3)) (so_var 2 (pv 2)))))) sa_nil)) (so_tup (sa_cons (so_bin op_fdivX o_fdiv (so_var 1 (pv 1)) (so_var 2 (pv 2))) sa_nil))))))))))
theorem sc_home_point : FnScope ["home"] ["home"] (defScope s_home_point) := ⟨rfl, rfl, rfl, by decide +kernel, rfl, by decide +kernel, by decide +kernel⟩
theorem ok_home_point (T : Txt K mg) : FnOk P w K mg base (L2.CX P w) 1 T.a_home_point T.fd_home_point ["home"] (spOf K (clOf K xa) 1 d_home_point) :=
  fn_ok T.F_home_point sc_home_point rfl rfl fun cdv A outer s H E hr pw tk => by
    have hu : (A.deeper (PyProof.Rows.envOfC "home_point" (defScope s_home_point) s.heap.objs.size T.a_home_point cdv)).units + 65 < cLine := by have := hr.un; omega
    exact (ss_one (ss_ret (so_bin op_addU o_add (so_callTy call_tuple_of a_tuple rfl T.z_tuple bt_tuple (sa_cons (so_var 0 (pv 0)) sa_nil)) (so_tup (sa_cons so_int sa_nil)))))
theorem sc_is_point : FnScope ["value", "dimension", "common", "number"] ["value", "dimension"] (defScope s_is_point) := ⟨rfl, rfl, rfl, by decide +kernel, rfl, by decide +kernel, by decide +kernel⟩
theorem ok_is_point (T : Txt K mg) : FnOk P w K mg base (L2.CX P w) 1 T.a_is_point T.fd_is_point ["value", "dimension"] (spOf K (clOf K xa) 2 d_is_point) :=
  fn_ok T.F_is_point sc_is_point rfl rfl fun cdv A outer s H E hr pw tk => by
    have hu : (A.deeper (PyProof.Rows.envOfC "is_point" (defScope s_is_point) s.heap.objs.size T.a_is_point cdv)).units + 65 < cLine := by have := hr.un; omega
    exact (ss_cons (ss_if (sw_b (sw_or (sb_cmp (op_neD hr.units) o_ne (so_callB call_len a_len rfl T.z_len bt_len (sa_cons (so_var 0 (pv 0)) sa_nil)) (so_bin op_addU o_add (so_var 1 (pv 1)) so_int) (nomark _)) (sw_or1 (sb_cmp op_lt o_lt (so_ix ix_U o_ix (so_var 0 (pv 0)) (so_un un_neg o_neg so_int) (fun _ _ => rfl)) so_int (nomark _))))) (ss_one (ss_ret so_bl)) ss_nil) (ss_cons (ss_set 2 (ps_set (i := 2) sc_is_point.nd rfl (Or.inl rfl) so_int)) (ss_cons (ss_for pw rfl (si_seq (so_var 0 (pv 0))) (g_name 3) (pg_name (i := 3) sc_is_point.nd rfl (Or.inl rfl)) (ss_one (ss_set 2 (ps_set (i := 2) sc_is_point.nd rfl (Or.inl rfl) (so_callF cr_gcd a_gcd rfl T.g_gcd (sa_cons (so_var 2 (pv 2)) (sa_cons (so_var 3 (pv 3)) sa_nil))))))) (ss_one (ss_ret (so_cmp (op_eqD hr.units) o_eq (so_var 2 (pv 2)) so_int (nomark _)))))))
theorem sc_dimension_of : FnScope ["place"] ["place"] (defScope s_dimension_of) := ⟨rfl, rfl, rfl, by decide +kernel, rfl, by decide +kernel, by decide +kernel⟩
theorem ok_dimension_of (T : Txt K mg) : FnOk P w K mg base (L2.CX P w) 1 T.a_dimension_of T.fd_dimension_of ["place"] (spOf K (clOf K xa) 1 d_dimension_of) :=
  fn_ok T.F_dimension_of sc_dimension_of rfl rfl fun cdv A outer s H E hr pw tk => by
    have hu : (A.deeper (PyProof.Rows.envOfC "dimension_of" (defScope s_dimension_of) s.heap.objs.size T.a_dimension_of cdv)).units + 65 < cLine := by have := hr.un; omega
    exact (ss_one (ss_ret (so_bin op_sub o_sub (so_callB call_len a_len rfl T.z_len bt_len (sa_cons (so_var 0 (pv 0)) sa_nil)) so_int)))
theorem sc_law_whole : FnScope ["value"] ["value"] (defScope s_law_whole) := ⟨rfl, rfl, rfl, by decide +kernel, rfl, by decide +kernel, by decide +kernel⟩
theorem ok_law_whole (T : Txt K mg) : FnOk P w K mg base (L2.CX P w) 1 T.a_law_whole T.fd_law_whole ["value"] (spOf K (clOf K xa) 1 d_law_whole) :=
  fn_ok T.F_law_whole sc_law_whole rfl rfl fun cdv A outer s H E hr pw tk => by
    have hu : (A.deeper (PyProof.Rows.envOfC "_law_whole" (defScope s_law_whole) s.heap.objs.size T.a_law_whole cdv)).units + 65 < cLine := by have := hr.un; omega
    exact (ss_one (ss_ret (so_and (so_isiTy rfl T.z_isinstance (pe_bltn rfl T.z_int bt_int rfl) (so_var 0 (pv 0))) (so_one (so_not (so_isiTy rfl T.z_isinstance (pe_bltn rfl T.z_bool bt_bool rfl) (so_var 0 (pv 0))))))))
theorem sc_law_cell : FnScope ["script", "k", "seed", "cell"] ["script", "k"] (defScope s_law_cell) := ⟨rfl, rfl, rfl, by decide +kernel, rfl, by decide +kernel, by decide +kernel⟩
theorem ok_law_cell (T : Txt K mg) : FnOk P w K mg base (L2.CX P w) 1 T.a_law_cell T.fd_law_cell ["script", "k"] (spOf K (clOf K xa) 2 d_law_cell) :=
  fn_ok T.F_law_cell sc_law_cell rfl rfl fun cdv A outer s H E hr pw tk => by
    have hu : (A.deeper (PyProof.Rows.envOfC "_law_cell" (defScope s_law_cell) s.heap.objs.size T.a_law_cell cdv)).units + 65 < cLine := by have := hr.un; omega
    exact (ss_cons (ss_if (sb_cmp op_lt o_lt (so_var 1 (pv 1)) (so_callB call_len a_len rfl T.z_len bt_len (sa_cons (so_var 0 (pv 0)) sa_nil)) (nomark _)) (ss_one (ss_ret (so_ix ix_U o_ix (so_var 0 (pv 0)) (so_var 1 (pv 1)) (fun _ _ => rfl)))) ss_nil) (ss_cons (ss_set 2 (ps_set (i := 2) sc_law_cell.nd rfl (Or.inl rfl) so_int)) (ss_cons (ss_for pw rfl (si_seq (so_var 0 (pv 0))) (g_name 3) (pg_name (i := 3) sc_law_cell.nd rfl (Or.inl rfl)) (ss_one (ss_set 2 (ps_set (i := 2) sc_law_cell.nd rfl (Or.inl rfl) (so_bin op_modN o_mod (so_callTy call_int1 a_int rfl T.z_int bt_int (sa_cons (so_bin op_addU o_add (so_bin op_mulU o_mul (so_var 2 (pv 2)) so_int) (so_bin op_modN o_mod (so_callTy call_int1 a_int rfl T.z_int bt_int (sa_cons (so_var 3 (pv 3)) sa_nil)) so_int)) sa_nil)) so_int))))) (ss_one (ss_ret (so_bin op_modN o_mod (so_callTy call_int1 a_int rfl T.z_int bt_int (sa_cons (so_bin op_mulU o_mul (so_bin op_mulU o_mul (so_bin op_addU o_add (so_var 2 (pv 2)) so_int) (so_bin op_addU o_add (so_var 1 (pv 1)) so_int)) so_int) sa_nil)) so_int))))))
theorem sc_law_digits : FnScope ["cell", "sizes", "row", "rest", "size", "seed", "k", "twice"] ["cell", "sizes"] (defScope s_law_digits) := ⟨rfl, rfl, rfl, by decide +kernel, rfl, by decide +kernel, by decide +kernel⟩
theorem ok_law_digits (T : Txt K mg) : FnOk P w K mg base (L2.CX P w) 1 T.a_law_digits T.fd_law_digits ["cell", "sizes"] (spOf K (clOf K xa) 2 d_law_digits) :=
  fn_ok T.F_law_digits sc_law_digits rfl rfl fun cdv A outer s H E hr pw tk => by
    have hu : (A.deeper (PyProof.Rows.envOfC "_law_digits" (defScope s_law_digits) s.heap.objs.size T.a_law_digits cdv)).units + 65 < cLine := by have := hr.un; omega
    exact (ss_cons (ss_own 2 (ps_set (i := 2) sc_law_digits.nd rfl (Or.inl rfl) (sc_lst sa_nil))) (ss_cons (ss_set 3 (ps_set (i := 3) sc_law_digits.nd rfl (Or.inl rfl) (so_callTy call_int1 a_int rfl T.z_int bt_int (sa_cons (so_var 0 (pv 0)) sa_nil)))) (ss_cons (ss_if (sb_cmp op_ge o_ge (so_var 3 (pv 3)) (so_bin op_pow o_pow so_int so_int) (nomark _)) (ss_cons (ss_set 3 (ps_set (i := 3) sc_law_digits.nd rfl (Or.inl rfl) (so_bin op_sub o_sub (so_var 3 (pv 3)) (so_bin op_pow o_pow so_int so_int)))) (ss_cons (ss_for pw rfl (si_seq (so_var 1 (pv 1))) (g_name 4) (pg_name (i := 4) sc_law_digits.nd rfl (Or.inl rfl)) (ss_cons (ss_app 2 (ps_expr (pe_bm PySem.F.plainAttrs_list PySem.F.slot_list_append PySem.F.type_list_append mt_append (pv 2) (sa_cons (so_bin op_modN o_mod (so_callTy call_int1 a_int rfl T.z_int bt_int (sa_cons (so_var 3 (pv 3)) sa_nil)) (so_var 4 (pv 4))) sa_nil)))) (ss_one (ss_set 3 (ps_set (i := 3) sc_law_digits.nd rfl (Or.inl rfl) (so_bin op_fdivX o_fdiv (so_callTy call_int1 a_int rfl T.z_int bt_int (sa_cons (so_var 3 (pv 3)) sa_nil)) (so_var 4 (pv 4)))))))) (ss_one (ss_frz 2 (ss_ret (so_var 2 (pv 2))))))) ss_nil) (ss_cons (ss_set 5 (ps_set (i := 5) sc_law_digits.nd rfl (Or.inl rfl) (so_bin op_modN o_mod (so_callTy call_int1 a_int rfl T.z_int bt_int (sa_cons (so_var 3 (pv 3)) sa_nil)) so_int))) (ss_cons (ss_for pw rfl (si_rng1 rfl T.z_range (sa_cons (so_callB call_len a_len rfl T.z_len bt_len (sa_cons (so_var 1 (pv 1)) sa_nil)) sa_nil)) (g_name 6) (pg_name (i := 6) sc_law_digits.nd rfl (Or.inl rfl)) (ss_cons (ss_set 5 (ps_set (i := 5) sc_law_digits.nd rfl (Or.inl rfl) (so_bin op_modN o_mod (so_callTy call_int1 a_int rfl T.z_int bt_int (sa_cons (so_bin op_addU o_add (so_bin op_addU o_add (so_bin op_mulU o_mul (so_var 5 (pv 5)) so_int) (so_bin op_mulU o_mul so_int (so_var 6 (pv 6)))) so_int) sa_nil)) so_int))) (ss_cons (ss_set 7 (ps_set (i := 7) sc_law_digits.nd rfl (Or.inl rfl) (so_bin op_modN o_mod (so_callTy call_int1 a_int rfl T.z_int bt_int (sa_cons (so_bin op_mulU o_mul (so_var 5 (pv 5)) (so_bin op_addU o_add (so_bin op_fdivX o_fdiv (so_var 5 (pv 5)) so_int) so_int)) sa_nil)) so_int))) (ss_one (ss_app 2 (ps_expr (pe_bm PySem.F.plainAttrs_list PySem.F.slot_list_append PySem.F.type_list_append mt_append (pv 2) (sa_cons (so_bin op_modN o_mod (so_bin op_fdivX o_fdiv (so_var 7 (pv 7)) so_int) (so_ix ix_U o_ix (so_var 1 (pv 1)) (so_var 6 (pv 6)) (fun _ _ => rfl))) sa_nil)))))))) (ss_one (ss_frz 2 (ss_ret (so_var 2 (pv 2))))))))))
theorem sc_law_gcd : FnScope ["one", "other", "rest"] ["one", "other"] (defScope s_law_gcd) := ⟨rfl, rfl, rfl, by decide +kernel, rfl, by decide +kernel, by decide +kernel⟩
theorem ok_law_gcd (T : Txt K mg) : FnOk P w K mg base (L2.CX P w) 1 T.a_law_gcd T.fd_law_gcd ["one", "other"] (spOf K (clOf K xa) 2 d_law_gcd) :=
  fn_ok T.F_law_gcd sc_law_gcd rfl rfl fun cdv A outer s H E hr pw tk => by
    have hu : (A.deeper (PyProof.Rows.envOfC "_law_gcd" (defScope s_law_gcd) s.heap.objs.size T.a_law_gcd cdv)).units + 65 < cLine := by have := hr.un; omega
    exact (ss_cons (ss_set 0 (ps_set (i := 0) sc_law_gcd.nd rfl (Or.inl rfl) (so_callB call_abs a_abs rfl T.z_abs bt_abs (sa_cons (so_var 0 (pv 0)) sa_nil)))) (ss_cons (ss_set 1 (ps_set (i := 1) sc_law_gcd.nd rfl (Or.inl rfl) (so_callB call_abs a_abs rfl T.z_abs bt_abs (sa_cons (so_var 1 (pv 1)) sa_nil)))) (ss_cons (ss_while pw (sb_cmp (op_neD hr.units) o_ne (so_var 1 (pv 1)) so_int (nomark _)) (ss_cons (ss_set 2 (ps_set (i := 2) sc_law_gcd.nd rfl (Or.inl rfl) (so_bin op_modN o_mod (so_callTy call_int1 a_int rfl T.z_int bt_int (sa_cons (so_var 0 (pv 0)) sa_nil)) (so_var 1 (pv 1))))) (ss_cons (ss_set 0 (ps_set (i := 0) sc_law_gcd.nd rfl (Or.inl rfl) (so_var 1 (pv 1)))) (ss_one (ss_set 1 (ps_set (i := 1) sc_law_gcd.nd rfl (Or.inl rfl) (so_var 2 (pv 2)))))))) (ss_one (ss_ret (so_var 0 (pv 0)))))))
theorem sc_law_big : FnScope ["row", "told"] ["row"] (defScope s_law_big) := ⟨rfl, rfl, rfl, by decide +kernel, rfl, by decide +kernel, by decide +kernel⟩
theorem ok_law_big (T : Txt K mg) : FnOk P w K mg base (L2.CX P w) 1 T.a_law_big T.fd_law_big ["row"] (spOf K (clOf K xa) 1 d_law_big) :=
  fn_ok T.F_law_big sc_law_big rfl rfl fun cdv A outer s H E hr pw tk => by
    have hu : (A.deeper (PyProof.Rows.envOfC "_law_big" (defScope s_law_big) s.heap.objs.size T.a_law_big cdv)).units + 65 < cLine := by have := hr.un; omega
    exact (ss_cons (ss_set 1 (ps_set (i := 1) sc_law_big.nd rfl (Or.inl rfl) (so_ix ix_U o_ix (so_fz (sc_lst (sa_cons (so_bin op_modN o_mod (so_callTy call_int1 a_int rfl T.z_int bt_int (sa_cons (so_ix ix_U o_ix (so_var 0 (pv 0)) so_int (fun _ _ => rfl)) sa_nil)) so_int) (sa_cons (so_bin op_modN o_mod (so_callTy call_int1 a_int rfl T.z_int bt_int (sa_cons (so_ix ix_U o_ix (so_var 0 (pv 0)) so_int (fun _ _ => rfl)) sa_nil)) so_int) (sa_cons (so_callTy call_int1 a_int rfl T.z_int bt_int (sa_cons (so_ix ix_U o_ix (so_var 0 (pv 0)) so_int (fun _ _ => rfl)) sa_nil)) (sa_cons (so_bin op_addU o_add (so_bin op_mulU o_mul (so_callTy call_int1 a_int rfl T.z_int bt_int (sa_cons (so_ix ix_U o_ix (so_var 0 (pv 0)) so_int (fun _ _ => rfl)) sa_nil)) (so_bin op_pow o_pow so_int so_int)) (so_callTy call_int1 a_int rfl T.z_int bt_int (sa_cons (so_ix ix_U o_ix (so_var 0 (pv 0)) so_int (fun _ _ => rfl)) sa_nil))) sa_nil)))))) (so_bin op_modN o_mod (so_callTy call_int1 a_int rfl T.z_int bt_int (sa_cons (so_ix ix_U o_ix (so_var 0 (pv 0)) so_int (fun _ _ => rfl)) sa_nil)) so_int) (fun _ _ => rfl)))) (ss_cons (ss_if (sb_cmp (op_eqD hr.units) o_eq (so_bin op_modN o_mod (so_bin op_fdivX o_fdiv (so_callTy call_int1 a_int rfl T.z_int bt_int (sa_cons (so_ix ix_U o_ix (so_var 0 (pv 0)) so_int (fun _ _ => rfl)) sa_nil)) so_int) so_int) so_int (nomark _)) (ss_one (ss_set 1 (ps_set (i := 1) sc_law_big.nd rfl (Or.inl rfl) (so_bin op_addU o_add (so_bin op_addU o_add (so_bin op_mulU o_mul (so_callTy call_int1 a_int rfl T.z_int bt_int (sa_cons (so_ix ix_U o_ix (so_var 0 (pv 0)) so_int (fun _ _ => rfl)) sa_nil)) (so_bin op_pow o_pow so_int so_int)) (so_bin op_mulU o_mul (so_callTy call_int1 a_int rfl T.z_int bt_int (sa_cons (so_ix ix_U o_ix (so_var 0 (pv 0)) so_int (fun _ _ => rfl)) sa_nil)) (so_bin op_pow o_pow so_int so_int))) (so_callTy call_int1 a_int rfl T.z_int bt_int (sa_cons (so_ix ix_U o_ix (so_var 0 (pv 0)) so_int (fun _ _ => rfl)) sa_nil)))))) ss_nil) (ss_cons (ss_if (sb_cmp (op_eqD hr.units) o_eq (so_bin op_modN o_mod (so_bin op_fdivX o_fdiv (so_callTy call_int1 a_int rfl T.z_int bt_int (sa_cons (so_ix ix_U o_ix (so_var 0 (pv 0)) so_int (fun _ _ => rfl)) sa_nil)) so_int) so_int) so_int (nomark _)) (ss_one (ss_ret (so_un un_neg o_neg (so_var 1 (pv 1))))) ss_nil) (ss_one (ss_ret (so_var 1 (pv 1)))))))
theorem sc_middle : FnScope ["one", "two", "count", "numbers", "k"] ["one", "two"] (defScope s_middle) := ⟨rfl, rfl, rfl, by decide +kernel, rfl, by decide +kernel, by decide +kernel⟩
theorem ok_middle (T : Txt K mg) : FnOk P w K mg base (L2.CX P w) 2 T.a_middle T.fd_middle ["one", "two"] (spOf K (clOf K xa) 2 d_middle) :=
  fn_ok T.F_middle sc_middle rfl rfl fun cdv A outer s H E hr pw tk => by
    have hu : (A.deeper (PyProof.Rows.envOfC "middle" (defScope s_middle) s.heap.objs.size T.a_middle cdv)).units + 65 < cLine := by have := hr.un; omega
    exact (ss_cons (ss_set 2 (ps_set (i := 2) sc_middle.nd rfl (Or.inl rfl) (so_call (ok_dimension_of T) (hr.mono (by decide)) rfl T.m_dimension_of T.F_dimension_of.kp T.b_dimension_of tk (sa_cons (so_var 0 (pv 0)) sa_nil)))) (ss_cons (ss_lcF (own := [("k", 4)]) (i := 3) rfl sc_middle.nd rfl rfl (sw_true rfl rfl rfl (by decide +kernel)) (g_name 4) (by decide) (si_rng1 rfl T.z_range (sa_cons (so_var 2 (pv 2)) sa_nil)) (blkOk_by (N := ["one", "two", "count", "numbers", "k"]) (sc := defScope s_middle) (by decide +kernel)) (fun _ _ _ _ _ => (pg_name (i := 4) sc_middle.nd rfl (by first | exact Or.inl rfl | exact Or.inr rfl))) (fun _ _ _ _ _ => ts_nil) (fun _ _ _ _ _ => (so_bin op_addU o_add (so_bin op_mulU o_mul (so_ix ix_U o_ix (so_var 0 (pv 0)) (so_var 4 (pv 4)) (fun _ _ => rfl)) (so_ix ix_U o_ix (so_var 1 (pv 1)) (so_un un_neg o_neg so_int) (fun _ _ => rfl))) (so_bin op_mulU o_mul (so_ix ix_U o_ix (so_var 1 (pv 1)) (so_var 4 (pv 4)) (fun _ _ => rfl)) (so_ix ix_U o_ix (so_var 0 (pv 0)) (so_un un_neg o_neg so_int) (fun _ _ => rfl)))))) (ss_one (ss_ret (so_call (ok_point T) (hr.mono (by decide)) rfl T.m_point T.F_point.kp T.b_point tk (sa_cons (so_var 3 (pv 3)) (sa_cons (so_bin op_mulU o_mul (so_bin op_mulU o_mul so_int (so_ix ix_U o_ix (so_var 0 (pv 0)) (so_un un_neg o_neg so_int) (fun _ _ => rfl))) (so_ix ix_U o_ix (so_var 1 (pv 1)) (so_un un_neg o_neg so_int) (fun _ _ => rfl))) sa_nil)))))))
theorem sc_moved : FnScope ["place", "arrow", "share", "count", "numbers", "k"] ["place", "arrow", "share"] (defScope s_moved) := ⟨rfl, rfl, rfl, by decide +kernel, rfl, by decide +kernel, by decide +kernel⟩
theorem ok_moved (T : Txt K mg) : FnOk P w K mg base (L2.CX P w) 2 T.a_moved T.fd_moved ["place", "arrow", "share"] (spOf K (clOf K xa) 3 d_moved) :=
  fn_ok T.F_moved sc_moved rfl rfl fun cdv A outer s H E hr pw tk => by
    have hu : (A.deeper (PyProof.Rows.envOfC "moved" (defScope s_moved) s.heap.objs.size T.a_moved cdv)).units + 65 < cLine := by have := hr.un; omega
    exact (ss_cons (ss_set 3 (ps_set (i := 3) sc_moved.nd rfl (Or.inl rfl) (so_call (ok_dimension_of T) (hr.mono (by decide)) rfl T.m_dimension_of T.F_dimension_of.kp T.b_dimension_of tk (sa_cons (so_var 0 (pv 0)) sa_nil)))) (ss_cons (ss_lcF (own := [("k", 5)]) (i := 4) rfl sc_moved.nd rfl rfl (sw_true rfl rfl rfl (by decide +kernel)) (g_name 5) (by decide) (si_rng1 rfl T.z_range (sa_cons (so_var 3 (pv 3)) sa_nil)) (blkOk_by (N := ["place", "arrow", "share", "count", "numbers", "k"]) (sc := defScope s_moved) (by decide +kernel)) (fun _ _ _ _ _ => (pg_name (i := 5) sc_moved.nd rfl (by first | exact Or.inl rfl | exact Or.inr rfl))) (fun _ _ _ _ _ => ts_nil) (fun _ _ _ _ _ => (so_bin op_addU o_add (so_bin op_mulU o_mul (so_ix ix_U o_ix (so_var 0 (pv 0)) (so_var 5 (pv 5)) (fun _ _ => rfl)) (so_ix ix_U o_ix (so_var 2 (pv 2)) so_int (fun _ _ => rfl))) (so_bin op_mulU o_mul (so_bin op_mulU o_mul (so_ix ix_U o_ix (so_var 1 (pv 1)) (so_var 5 (pv 5)) (fun _ _ => rfl)) (so_ix ix_U o_ix (so_var 2 (pv 2)) so_int (fun _ _ => rfl))) (so_ix ix_U o_ix (so_var 0 (pv 0)) (so_un un_neg o_neg so_int) (fun _ _ => rfl)))))) (ss_one (ss_ret (so_call (ok_point T) (hr.mono (by decide)) rfl T.m_point T.F_point.kp T.b_point tk (sa_cons (so_var 4 (pv 4)) (sa_cons (so_bin op_mulU o_mul (so_ix ix_U o_ix (so_var 0 (pv 0)) (so_un un_neg o_neg so_int) (fun _ _ => rfl)) (so_ix ix_U o_ix (so_var 2 (pv 2)) so_int (fun _ _ => rfl))) sa_nil)))))))
theorem sc_mixed : FnScope ["places", "shares", "count", "bottom", "place", "k", "numbers", "share"] ["places", "shares"] (defScope s_mixed) := ⟨rfl, rfl, rfl, by decide +kernel, rfl, by decide +kernel, by decide +kernel⟩
theorem ok_mixed (T : Txt K mg) : FnOk P w K mg base (L2.CX P w) 2 T.a_mixed T.fd_mixed ["places", "shares"] (spOf K (clOf K xa) 2 d_mixed) :=
  fn_ok T.F_mixed sc_mixed rfl rfl fun cdv A outer s H E hr pw tk => by
    have hu : (A.deeper (PyProof.Rows.envOfC "mixed" (defScope s_mixed) s.heap.objs.size T.a_mixed cdv)).units + 65 < cLine := by have := hr.un; omega
    exact (ss_cons (ss_set 2 (ps_set (i := 2) sc_mixed.nd rfl (Or.inl rfl) (so_call (ok_dimension_of T) (hr.mono (by decide)) rfl T.m_dimension_of T.F_dimension_of.kp T.b_dimension_of tk (sa_cons (so_ix ix_U o_ix (so_var 0 (pv 0)) so_int (fun _ _ => rfl)) sa_nil)))) (ss_cons (ss_set 3 (ps_set (i := 3) sc_mixed.nd rfl (Or.inl rfl) so_int)) (ss_cons (ss_for pw rfl (si_seq (so_var 0 (pv 0))) (g_name 4) (pg_name (i := 4) sc_mixed.nd rfl (Or.inl rfl)) (ss_one (ss_set 3 (ps_set (i := 3) sc_mixed.nd rfl (Or.inl rfl) (so_bin op_fdivX o_fdiv (so_bin op_mulU o_mul (so_var 3 (pv 3)) (so_ix ix_U o_ix (so_var 4 (pv 4)) (so_un un_neg o_neg so_int) (fun _ _ => rfl))) (so_callF cr_gcd a_gcd rfl T.g_gcd (sa_cons (so_var 3 (pv 3)) (sa_cons (so_ix ix_U o_ix (so_var 4 (pv 4)) (so_un un_neg o_neg so_int) (fun _ _ => rfl)) sa_nil)))))))) (ss_cons (ss_lcO (own := [("k", 5)]) (i := 6) rfl sc_mixed.nd rfl rfl (sw_true rfl rfl rfl (by decide +kernel)) (g_name 5) (by decide) (si_rng1 rfl T.z_range (sa_cons (so_var 2 (pv 2)) sa_nil)) (blkOk_by (N := ["places", "shares", "count", "bottom", "place", "k", "numbers", "share"]) (sc := defScope s_mixed) (by decide +kernel)) (fun _ _ _ _ _ => (pg_name (i := 5) sc_mixed.nd rfl (by first | exact Or.inl rfl | exact Or.inr rfl))) (fun _ _ _ _ _ => ts_nil) (fun _ _ _ _ _ => so_int)) (ss_cons (ss_for pw rfl (si_zip rfl T.z_zip (sa_cons (so_var 0 (pv 0)) (sa_cons (so_var 1 (pv 1)) sa_nil))) (g_tup [4, 7]) (pg_tup rfl (pgs_cons (pg_name (i := 4) sc_mixed.nd rfl (Or.inl rfl)) (pgs_cons (pg_name (i := 7) sc_mixed.nd rfl (Or.inl rfl)) pgs_nil))) (ss_one (ss_for pw rfl (si_rng1 rfl T.z_range (sa_cons (so_var 2 (pv 2)) sa_nil)) (g_name 5) (pg_name (i := 5) sc_mixed.nd rfl (Or.inl rfl)) (ss_one (ss_idx 6 (ps_asg (so_bin op_addU o_add (so_ixO 6 (pv 6) (so_var 5 (pv 5)) (fun _ _ => rfl)) (so_bin op_mulU o_mul (so_bin op_mulU o_mul (so_var 7 (pv 7)) (so_ix ix_U o_ix (so_var 4 (pv 4)) (so_var 5 (pv 5)) (fun _ _ => rfl))) (so_bin op_fdivX o_fdiv (so_var 3 (pv 3)) (so_ix ix_U o_ix (so_var 4 (pv 4)) (so_un un_neg o_neg so_int) (fun _ _ => rfl))))) (pg_sub (pv 6) (so_var 5 (pv 5)) set_list))))))) (ss_one (ss_frz 6 (ss_ret (so_call (ok_point T) (hr.mono (by decide)) rfl T.m_point T.F_point.kp T.b_point tk (sa_cons (so_var 6 (pv 6)) (sa_cons (so_bin op_mulU o_mul (so_var 3 (pv 3)) (so_callB (cr_sumU rfl) a_sum rfl T.z_sum bt_sum (sa_cons (so_var 1 (pv 1)) sa_nil))) sa_nil)))))))))))
theorem sc_product : FnScope ["arrow", "place", "k"] ["arrow", "place"] (defScope s_product) := ⟨rfl, rfl, rfl, by decide +kernel, rfl, by decide +kernel, by decide +kernel⟩
theorem ok_product (T : Txt K mg) : FnOk P w K mg base (L2.CX P w) 2 T.a_product T.fd_product ["arrow", "place"] (spOf K (clOf K xa) 2 d_product) :=
  fn_ok T.F_product sc_product rfl rfl fun cdv A outer s H E hr pw tk => by
    have hu : (A.deeper (PyProof.Rows.envOfC "product" (defScope s_product) s.heap.objs.size T.a_product cdv)).units + 65 < cLine := by have := hr.un; omega
    exact (ss_one (ss_ret (so_call (ok_ratio T) (hr.mono (by decide)) rfl T.m_ratio T.F_ratio.kp T.b_ratio tk (sa_cons (so_callB (cr_sumU rfl) a_sum rfl T.z_sum bt_sum (sa_cons (so_fz (sc_lc (own := [("k", 2)]) rfl sc_product.nd (g_name 2) (by decide) (si_rng1 rfl T.z_range (sa_cons (so_callB call_len a_len rfl T.z_len bt_len (sa_cons (so_var 0 (pv 0)) sa_nil)) sa_nil)) (blkOk_by (N := ["arrow", "place", "k"]) (sc := defScope s_product) (by decide +kernel)) (fun _ _ _ _ _ => (pg_name (i := 2) sc_product.nd rfl (by first | exact Or.inl rfl | exact Or.inr rfl))) (fun _ _ _ _ _ => ts_nil) (fun _ _ _ _ _ => (so_bin op_mulU o_mul (so_ix ix_U o_ix (so_var 0 (pv 0)) (so_var 2 (pv 2)) (fun _ _ => rfl)) (so_ix ix_U o_ix (so_var 1 (pv 1)) (so_var 2 (pv 2)) (fun _ _ => rfl)))))) sa_nil)) (sa_cons (so_ix ix_U o_ix (so_var 1 (pv 1)) (so_un un_neg o_neg so_int) (fun _ _ => rfl)) sa_nil)))))
theorem sc_difference : FnScope ["one", "two", "k"] ["one", "two"] (defScope s_difference) := ⟨rfl, rfl, rfl, by decide +kernel, rfl, by decide +kernel, by decide +kernel⟩
theorem ok_difference (T : Txt K mg) : FnOk P w K mg base (L2.CX P w) 2 T.a_difference T.fd_difference ["one", "two"] (spOf K (clOf K xa) 2 d_difference) :=
  fn_ok T.F_difference sc_difference rfl rfl fun cdv A outer s H E hr pw tk => by
    have hu : (A.deeper (PyProof.Rows.envOfC "difference" (defScope s_difference) s.heap.objs.size T.a_difference cdv)).units + 65 < cLine := by have := hr.un; omega
    exact (ss_one (ss_ret (so_callTy call_tuple_of a_tuple rfl T.z_tuple bt_tuple (sa_cons (so_fz (sc_lc (own := [("k", 2)]) rfl sc_difference.nd (g_name 2) (by decide) (si_rng1 rfl T.z_range (sa_cons (so_call (ok_dimension_of T) (hr.mono (by decide)) rfl T.m_dimension_of T.F_dimension_of.kp T.b_dimension_of tk (sa_cons (so_var 0 (pv 0)) sa_nil)) sa_nil)) (blkOk_by (N := ["one", "two", "k"]) (sc := defScope s_difference) (by decide +kernel)) (fun _ _ _ _ _ => (pg_name (i := 2) sc_difference.nd rfl (by first | exact Or.inl rfl | exact Or.inr rfl))) (fun _ _ _ _ _ => ts_nil) (fun _ _ _ _ _ => (so_bin op_sub o_sub (so_bin op_mulU o_mul (so_ix ix_U o_ix (so_var 1 (pv 1)) (so_var 2 (pv 2)) (fun _ _ => rfl)) (so_ix ix_U o_ix (so_var 0 (pv 0)) (so_un un_neg o_neg so_int) (fun _ _ => rfl))) (so_bin op_mulU o_mul (so_ix ix_U o_ix (so_var 0 (pv 0)) (so_var 2 (pv 2)) (fun _ _ => rfl)) (so_ix ix_U o_ix (so_var 1 (pv 1)) (so_un un_neg o_neg so_int) (fun _ _ => rfl))))))) sa_nil))))
theorem sc_law_reduced : FnScope ["numbers", "bottom", "common", "number"] ["numbers", "bottom"] (defScope s_law_reduced) := ⟨rfl, rfl, rfl, by decide +kernel, rfl, by decide +kernel, by decide +kernel⟩
theorem ok_law_reduced (T : Txt K mg) : FnOk P w K mg base (L2.CX P w) 2 T.a_law_reduced T.fd_law_reduced ["numbers", "bottom"] (spOf K (clOf K xa) 2 d_law_reduced) :=
  fn_ok T.F_law_reduced sc_law_reduced rfl rfl fun cdv A outer s H E hr pw tk => by
    have hu : (A.deeper (PyProof.Rows.envOfC "_law_reduced" (defScope s_law_reduced) s.heap.objs.size T.a_law_reduced cdv)).units + 65 < cLine := by have := hr.un; omega
    exact (ss_cons (ss_set 2 (ps_set (i := 2) sc_law_reduced.nd rfl (Or.inr rfl) (so_var 1 (pv 1)))) (ss_cons (ss_for pw rfl (si_seq (so_var 0 (pv 0))) (g_name 3) (pg_name (i := 3) sc_law_reduced.nd rfl (Or.inl rfl)) (ss_one (ss_set 2 (ps_set (i := 2) sc_law_reduced.nd rfl (Or.inr rfl) (so_call (ok_law_gcd T) (hr.mono (by decide)) rfl T.m_law_gcd T.F_law_gcd.kp T.b_law_gcd tk (sa_cons (so_var 2 (pv 2)) (sa_cons (so_var 3 (pv 3)) sa_nil))))))) (ss_one (ss_ret (so_bin op_addU o_add (so_callTy call_tuple_of a_tuple rfl T.z_tuple bt_tuple (sa_cons (so_fz (sc_lc (own := [("number", 3)]) rfl sc_law_reduced.nd (g_name 3) (by decide) (si_seq (so_var 0 (pv 0))) (blkOk_by (N := ["numbers", "bottom", "common", "number"]) (sc := defScope s_law_reduced) (by decide +kernel)) (fun _ _ _ _ _ => (pg_name (i := 3) sc_law_reduced.nd rfl (by first | exact Or.inl rfl | exact Or.inr rfl))) (fun _ _ _ _ _ => ts_nil) (fun _ _ _ _ _ => (so_bin op_fdivX o_fdiv (so_var 3 (pv 3)) (so_var 2 (pv 2)))))) sa_nil)) (so_tup (sa_cons (so_bin op_fdivX o_fdiv (so_var 1 (pv 1)) (so_var 2 (pv 2))) sa_nil)))))))
theorem sc_law_fraction : FnScope ["over_line", "under_line", "common"] ["over_line", "under_line"] (defScope s_law_fraction) := ⟨rfl, rfl, rfl, by decide +kernel, rfl, by decide +kernel, by decide +kernel⟩
theorem ok_law_fraction (T : Txt K mg) : FnOk P w K mg base (L2.CX P w) 2 T.a_law_fraction T.fd_law_fraction ["over_line", "under_line"] (spOf K (clOf K xa) 2 d_law_fraction) :=
  fn_ok T.F_law_fraction sc_law_fraction rfl rfl fun cdv A outer s H E hr pw tk => by
    have hu : (A.deeper (PyProof.Rows.envOfC "_law_fraction" (defScope s_law_fraction) s.heap.objs.size T.a_law_fraction cdv)).units + 65 < cLine := by have := hr.un; omega
    exact (ss_cons (ss_set 2 (ps_set (i := 2) sc_law_fraction.nd rfl (Or.inl rfl) (so_call (ok_law_gcd T) (hr.mono (by decide)) rfl T.m_law_gcd T.F_law_gcd.kp T.b_law_gcd tk (sa_cons (so_var 0 (pv 0)) (sa_cons (so_var 1 (pv 1)) sa_nil))))) (ss_cons (ss_if (sb_cmp op_lt o_lt (so_var 1 (pv 1)) so_int (nomark _)) (ss_one (ss_set 2 (ps_set (i := 2) sc_law_fraction.nd rfl (Or.inl rfl) (so_un un_neg o_neg (so_var 2 (pv 2)))))) ss_nil) (ss_one (ss_ret (so_tup (sa_cons (so_bin op_fdivX o_fdiv (so_var 0 (pv 0)) (so_var 2 (pv 2))) (sa_cons (so_bin op_fdivX o_fdiv (so_var 1 (pv 1)) (so_var 2 (pv 2))) sa_nil)))))))
theorem sc_law_is_place : FnScope ["value", "size", "common", "number"] ["value", "size"] (defScope s_law_is_place) := ⟨rfl, rfl, rfl, by decide +kernel, rfl, by decide +kernel, by decide +kernel⟩
theorem ok_law_is_place (T : Txt K mg) : FnOk P w K mg base (L2.CX P w) 2 T.a_law_is_place T.fd_law_is_place ["value", "size"] (spOf K (clOf K xa) 2 d_law_is_place) :=
  fn_ok T.F_law_is_place sc_law_is_place rfl rfl fun cdv A outer s H E hr pw tk => by
    have hu : (A.deeper (PyProof.Rows.envOfC "_law_is_place" (defScope s_law_is_place) s.heap.objs.size T.a_law_is_place cdv)).units + 65 < cLine := by have := hr.un; omega
    exact (ss_cons (ss_if (sw_b (sw_or (sb_not (sb_val (so_isiTy rfl T.z_isinstance (pe_bltn rfl T.z_tuple bt_tuple rfl) (so_var 0 (pv 0))))) (sw_or1 (sb_cmp (op_neD hr.units) o_ne (so_callB call_len a_len rfl T.z_len bt_len (sa_cons (so_var 0 (pv 0)) sa_nil)) (so_bin op_addU o_add (so_var 1 (pv 1)) so_int) (nomark _))))) (ss_one (ss_ret so_bl)) ss_nil) (ss_cons (ss_set 2 (ps_set (i := 2) sc_law_is_place.nd rfl (Or.inl rfl) so_int)) (ss_cons (ss_for pw rfl (si_seq (so_var 0 (pv 0))) (g_name 3) (pg_name (i := 3) sc_law_is_place.nd rfl (Or.inl rfl)) (ss_cons (ss_if (sb_not (sb_val (so_call (ok_law_whole T) (hr.mono (by decide)) rfl T.m_law_whole T.F_law_whole.kp T.b_law_whole tk (sa_cons (so_var 3 (pv 3)) sa_nil)))) (ss_one (ss_ret so_bl)) ss_nil) (ss_one (ss_set 2 (ps_set (i := 2) sc_law_is_place.nd rfl (Or.inl rfl) (so_call (ok_law_gcd T) (hr.mono (by decide)) rfl T.m_law_gcd T.F_law_gcd.kp T.b_law_gcd tk (sa_cons (so_var 2 (pv 2)) (sa_cons (so_var 3 (pv 3)) sa_nil)))))))) (ss_one (ss_ret (so_and (so_cmp op_ge o_ge (so_ix ix_U o_ix (so_var 0 (pv 0)) (so_var 1 (pv 1)) (fun _ _ => rfl)) so_int (nomark _)) (so_one (so_cmp (op_eqD hr.units) o_eq (so_var 2 (pv 2)) so_int (nomark _)))))))))
theorem sc_law_short : FnScope ["arrow", "common", "number"] ["arrow"] (defScope s_law_short) := ⟨rfl, rfl, rfl, by decide +kernel, rfl, by decide +kernel, by decide +kernel⟩
theorem ok_law_short (T : Txt K mg) : FnOk P w K mg base (L2.CX P w) 2 T.a_law_short T.fd_law_short ["arrow"] (spOf K (clOf K xa) 1 d_law_short) :=
  fn_ok T.F_law_short sc_law_short rfl rfl fun cdv A outer s H E hr pw tk => by
    have hu : (A.deeper (PyProof.Rows.envOfC "_law_short" (defScope s_law_short) s.heap.objs.size T.a_law_short cdv)).units + 65 < cLine := by have := hr.un; omega
    exact (ss_cons (ss_set 1 (ps_set (i := 1) sc_law_short.nd rfl (Or.inr rfl) so_int)) (ss_cons (ss_for pw rfl (si_seq (so_var 0 (pv 0))) (g_name 2) (pg_name (i := 2) sc_law_short.nd rfl (Or.inl rfl)) (ss_one (ss_set 1 (ps_set (i := 1) sc_law_short.nd rfl (Or.inr rfl) (so_call (ok_law_gcd T) (hr.mono (by decide)) rfl T.m_law_gcd T.F_law_gcd.kp T.b_law_gcd tk (sa_cons (so_var 1 (pv 1)) (sa_cons (so_var 2 (pv 2)) sa_nil))))))) (ss_one (ss_ret (so_callTy call_tuple_of a_tuple rfl T.z_tuple bt_tuple (sa_cons (so_fz (sc_lc (own := [("number", 2)]) rfl sc_law_short.nd (g_name 2) (by decide) (si_seq (so_var 0 (pv 0))) (blkOk_by (N := ["arrow", "common", "number"]) (sc := defScope s_law_short) (by decide +kernel)) (fun _ _ _ _ _ => (pg_name (i := 2) sc_law_short.nd rfl (by first | exact Or.inl rfl | exact Or.inr rfl))) (fun _ _ _ _ _ => ts_nil) (fun _ _ _ _ _ => (so_bin op_fdivX o_fdiv (so_var 2 (pv 2)) (so_var 1 (pv 1)))))) sa_nil))))))
theorem sc_law_drawn : FnScope ["cell", "size", "row", "bottom", "numbers", "k", "made"] ["cell", "size"] (defScope s_law_drawn) := ⟨rfl, rfl, rfl, by decide +kernel, rfl, by decide +kernel, by decide +kernel⟩
theorem ok_law_drawn (T : Txt K mg) : FnOk P w K mg base (L2.CX P w) 2 T.a_law_drawn T.fd_law_drawn ["cell", "size"] (spOf K (clOf K xa) 2 d_law_drawn) :=
  fn_ok T.F_law_drawn sc_law_drawn rfl rfl fun cdv A outer s H E hr pw tk => by
    have hu : (A.deeper (PyProof.Rows.envOfC "_law_drawn" (defScope s_law_drawn) s.heap.objs.size T.a_law_drawn cdv)).units + 65 < cLine := by have := hr.un; omega
    exact (ss_cons (ss_set 2 (ps_set (i := 2) sc_law_drawn.nd rfl (Or.inl rfl) (so_call (ok_law_digits T) (hr.mono (by decide)) rfl T.m_law_digits T.F_law_digits.kp T.b_law_digits tk (sa_cons (so_var 0 (pv 0)) (sa_cons (so_bin op_addU o_add (so_bin op_addU o_add (so_bin op_addU o_add (so_bin op_addU o_add (so_bin op_addU o_add (so_fz (sc_lst (sa_cons so_int (sa_cons so_int sa_nil)))) (so_bin op_mulU o_mul (so_fz (sc_lst (sa_cons (so_bin op_pow o_pow so_int so_int) sa_nil))) so_int)) (so_fz (sc_lst (sa_cons so_int sa_nil)))) (so_bin op_mulU o_mul (so_fz (sc_lst (sa_cons (so_bin op_pow o_pow so_int so_int) sa_nil))) so_int)) (so_fz (sc_lst (sa_cons so_int sa_nil)))) (so_bin op_mulU o_mul (so_fz (sc_lst (sa_cons (so_bin op_pow o_pow so_int so_int) sa_nil))) so_int)) sa_nil))))) (ss_cons (ss_set 3 (ps_set (i := 3) sc_law_drawn.nd rfl (Or.inl rfl) (so_ix ix_U o_ix (so_fz (sc_lst (sa_cons (so_bin op_addU o_add so_int (so_bin op_modN o_mod (so_callTy call_int1 a_int rfl T.z_int bt_int (sa_cons (so_ix ix_U o_ix (so_var 2 (pv 2)) so_int (fun _ _ => rfl)) sa_nil)) so_int)) (sa_cons (so_bin op_addU o_add so_int (so_bin op_modN o_mod (so_callTy call_int1 a_int rfl T.z_int bt_int (sa_cons (so_ix ix_U o_ix (so_var 2 (pv 2)) so_int (fun _ _ => rfl)) sa_nil)) so_int)) (sa_cons so_int (sa_cons (so_bin op_addU o_add so_int (so_callTy call_int1 a_int rfl T.z_int bt_int (sa_cons (so_ix ix_U o_ix (so_var 2 (pv 2)) so_int (fun _ _ => rfl)) sa_nil))) (sa_cons so_int (sa_cons so_int sa_nil)))))))) (so_ix ix_U o_ix (so_var 2 (pv 2)) so_int (fun _ _ => rfl)) (fun _ _ => rfl)))) (ss_cons (ss_own 4 (ps_set (i := 4) sc_law_drawn.nd rfl (Or.inl rfl) (sc_lst sa_nil))) (ss_cons (ss_for pw rfl (si_rng1 rfl T.z_range (sa_cons (so_var 1 (pv 1)) sa_nil)) (g_name 5) (pg_name (i := 5) sc_law_drawn.nd rfl (Or.inl rfl)) (ss_cons (ss_set 6 (ps_set (i := 6) sc_law_drawn.nd rfl (Or.inl rfl) (so_call (ok_law_big T) (hr.mono (by decide)) rfl T.m_law_big T.F_law_big.kp T.b_law_big tk (sa_cons (so_sl (so_var 2 (pv 2)) (sp_some (so_bin op_addU o_add so_int (so_bin op_mulU o_mul so_int (so_var 5 (pv 5))))) (sp_some (so_bin op_addU o_add so_int (so_bin op_mulU o_mul so_int (so_var 5 (pv 5)))))) sa_nil)))) (ss_cons (ss_if (sb_cmp op_lt o_lt (so_ix ix_U o_ix (so_var 2 (pv 2)) so_int (fun _ _ => rfl)) so_int (nomark _)) (ss_one (ss_set 6 (ps_set (i := 6) sc_law_drawn.nd rfl (Or.inl rfl) (so_bin op_sub o_sub (so_bin op_modN o_mod (so_callTy call_int1 a_int rfl T.z_int bt_int (sa_cons (so_ix ix_U o_ix (so_var 2 (pv 2)) (so_bin op_addU o_add so_int (so_bin op_mulU o_mul so_int (so_var 5 (pv 5)))) (fun _ _ => rfl)) sa_nil)) so_int) so_int)))) ss_nil) (ss_one (ss_app 4 (ps_expr (pe_bm PySem.F.plainAttrs_list PySem.F.slot_list_append PySem.F.type_list_append mt_append (pv 4) (sa_cons (so_var 6 (pv 6)) sa_nil)))))))) (ss_one (ss_frz 4 (ss_ret (so_fz (sc_lst (sa_cons (so_var 4 (pv 4)) (sa_cons (so_var 3 (pv 3)) sa_nil)))))))))))
theorem sc_law_no_point : FnScope ["numbers", "wrong"] ["numbers"] (defScope s_law_no_point) := ⟨rfl, rfl, rfl, by decide +kernel, rfl, by decide +kernel, by decide +kernel⟩
theorem ok_law_no_point (T : Txt K mg) : FnOk P w K mg base (L2.CX P w) 2 T.a_law_no_point T.fd_law_no_point ["numbers"] (spOf K (clOf K none) 1 d_law_no_point) :=
  fn_ok T.F_law_no_point sc_law_no_point rfl rfl fun cdv A outer s H E hr pw tk => by
    have hu : (A.deeper (PyProof.Rows.envOfC "_law_no_point" (defScope s_law_no_point) s.heap.objs.size T.a_law_no_point cdv)).units + 65 < cLine := by have := hr.un; omega
    exact (ss_cons (ss_try (i := 1) (l := [(1, true)]) rfl rfl rfl sc_law_no_point.nd rfl rfl ⟨rfl, by decide, .inl T.g_CalmError⟩ tk (xt_cons (exm_own T.s_CalmError T.d_CalmError T.t_CalmError T.u_ZeroBottom_CalmError) xt_nil) (fun _ _ _ tk pw => (ss_one (ss_exp (so_call (ok_point T) (hr.mono (by decide)) rfl T.m_point T.F_point.kp T.b_point tk (sa_cons (so_var 0 (pv 0)) (sa_cons so_int sa_nil)))))) (fun _ _ _ _ _ hz hv hk => (ss_one (ss_ret (so_isX (l := [(1, true)]) hz hv rfl T.z_isinstance (pe_glob rfl T.g_ZeroBottom (v := .ref (cA _ "ZeroBottom")) rfl) (fun _ h => h) (xt_cons ⟨T.kit_ZeroBottom_ZeroBottom, T.xc_ZeroBottom⟩ xt_nil) (so_var 1 (pv 1))))))) (ss_one (ss_ret so_bl)))
theorem sc_law_near : FnScope ["place", "size", "row", "spoilt", "number", "other"] ["place", "size", "row"] (defScope s_law_near) := ⟨rfl, rfl, rfl, by decide +kernel, rfl, by decide +kernel, by decide +kernel⟩
theorem ok_law_near (T : Txt K mg) : FnOk P w K mg base (L2.CX P w) 2 T.a_law_near T.fd_law_near ["place", "size", "row"] (spOf K (clOf K xa) 3 d_law_near) :=
  fn_ok T.F_law_near sc_law_near rfl rfl fun cdv A outer s H E hr pw tk => by
    have hu : (A.deeper (PyProof.Rows.envOfC "_law_near" (defScope s_law_near) s.heap.objs.size T.a_law_near cdv)).units + 65 < cLine := by have := hr.un; omega
    exact (ss_cons (ss_if (sw_b (sw_or (sb_cmp op_notBl o_notB (so_call (ok_is_point T) (hr.mono (by decide)) rfl T.m_is_point T.F_is_point.kp T.b_is_point tk (sa_cons (so_var 0 (pv 0)) (sa_cons (so_var 1 (pv 1)) sa_nil))) so_bl (nomark _)) (sw_or1 (sb_cmp op_notBl o_notB (so_call (ok_is_point T) (hr.mono (by decide)) rfl T.m_is_point T.F_is_point.kp T.b_is_point tk (sa_cons (so_var 0 (pv 0)) (sa_cons (so_bin op_addU o_add (so_var 1 (pv 1)) so_int) sa_nil))) so_bl (nomark _))))) (ss_one (ss_ret so_bl)) ss_nil) (ss_cons (ss_set 3 (ps_set (i := 3) sc_law_near.nd rfl (Or.inl rfl) (so_fz (sc_lst (sa_cons (so_callTy call_tuple_of a_tuple rfl T.z_tuple bt_tuple (sa_cons (so_fz (sc_lc (own := [("number", 4)]) rfl sc_law_near.nd (g_name 4) (by decide) (si_seq (so_var 0 (pv 0))) (blkOk_by (N := ["place", "size", "row", "spoilt", "number", "other"]) (sc := defScope s_law_near) (by decide +kernel)) (fun _ _ _ _ _ => (pg_name (i := 4) sc_law_near.nd rfl (by first | exact Or.inl rfl | exact Or.inr rfl))) (fun _ _ _ _ _ => ts_nil) (fun _ _ _ _ _ => (so_bin op_mulU o_mul (so_var 4 (pv 4)) (so_bin op_addU o_add so_int (so_ix ix_U o_ix (so_var 2 (pv 2)) so_int (fun _ _ => rfl))))))) sa_nil)) (sa_cons (so_bin op_addU o_add (so_sl (so_var 0 (pv 0)) sp_none (sp_some (so_var 1 (pv 1)))) (so_tup (sa_cons (so_un un_neg o_neg (so_ix ix_U o_ix (so_var 0 (pv 0)) (so_var 1 (pv 1)) (fun _ _ => rfl))) sa_nil))) (sa_cons (so_bin op_addU o_add (so_var 0 (pv 0)) (so_tup (sa_cons so_int sa_nil))) sa_nil))))))) (ss_cons (ss_set 3 (ps_set (i := 3) sc_law_near.nd rfl (Or.inl rfl) (so_bin op_addU o_add (so_var 3 (pv 3)) (so_fz (sc_lst (sa_cons (so_bin op_addU o_add (so_sl (so_var 0 (pv 0)) sp_none (sp_some (so_var 1 (pv 1)))) (so_tup (sa_cons so_int sa_nil))) (sa_cons (so_bin op_addU o_add (so_bin op_mulU o_mul (so_tup (sa_cons so_int sa_nil)) (so_var 1 (pv 1))) (so_tup (sa_cons (so_bin op_addU o_add so_int (so_ix ix_U o_ix (so_var 2 (pv 2)) so_int (fun _ _ => rfl))) sa_nil))) sa_nil))))))) (ss_cons (ss_if (sw_b (sw_and (sb_cmp op_gt o_gt (so_var 1 (pv 1)) so_int (nomark _)) (sw_and1 (sb_cmp op_notBl o_notB (so_call (ok_is_point T) (hr.mono (by decide)) rfl T.m_is_point T.F_is_point.kp T.b_is_point tk (sa_cons (so_sl (so_var 0 (pv 0)) (sp_some so_int) sp_none) (sa_cons (so_var 1 (pv 1)) sa_nil))) so_bl (nomark _))))) (ss_one (ss_ret so_bl)) ss_nil) (ss_one (ss_ret (so_not (so_callB (cr_any rfl) a_any rfl T.z_any bt_any (sa_cons (so_fz (sc_lc (own := [("other", 5)]) rfl sc_law_near.nd (g_name 5) (by decide) (si_seq (so_var 3 (pv 3))) (blkOk_by (N := ["place", "size", "row", "spoilt", "number", "other"]) (sc := defScope s_law_near) (by decide +kernel)) (fun _ _ _ _ _ => (pg_name (i := 5) sc_law_near.nd rfl (by first | exact Or.inl rfl | exact Or.inr rfl))) (fun _ _ _ _ _ => ts_nil) (fun _ _ _ _ _ => (so_cmp op_notBl o_notB (so_call (ok_is_point T) (hr.mono (by decide)) rfl T.m_is_point T.F_is_point.kp T.b_is_point takes0 (sa_cons (so_var 5 (pv 5)) (sa_cons (so_var 1 (pv 1)) sa_nil))) so_bl (nomark _))))) sa_nil)))))))))
theorem sc_squared : FnScope ["one", "two", "bottom", "number"] ["one", "two"] (defScope s_squared) := ⟨rfl, rfl, rfl, by decide +kernel, rfl, by decide +kernel, by decide +kernel⟩
theorem ok_squared (T : Txt K mg) : FnOk P w K mg base (L2.CX P w) 3 T.a_squared T.fd_squared ["one", "two"] (spOf K (clOf K xa) 2 d_squared) :=
  fn_ok T.F_squared sc_squared rfl rfl fun cdv A outer s H E hr pw tk => by
    have hu : (A.deeper (PyProof.Rows.envOfC "squared" (defScope s_squared) s.heap.objs.size T.a_squared cdv)).units + 65 < cLine := by have := hr.un; omega
    exact (ss_cons (ss_set 2 (ps_set (i := 2) sc_squared.nd rfl (Or.inl rfl) (so_bin op_mulU o_mul (so_ix ix_U o_ix (so_var 0 (pv 0)) (so_un un_neg o_neg so_int) (fun _ _ => rfl)) (so_ix ix_U o_ix (so_var 1 (pv 1)) (so_un un_neg o_neg so_int) (fun _ _ => rfl))))) (ss_one (ss_ret (so_call (ok_ratio T) (hr.mono (by decide)) rfl T.m_ratio T.F_ratio.kp T.b_ratio tk (sa_cons (so_callB (cr_sumU rfl) a_sum rfl T.z_sum bt_sum (sa_cons (so_fz (sc_lc (own := [("number", 3)]) rfl sc_squared.nd (g_name 3) (by decide) (si_seq (so_call (ok_difference T) (hr.mono (by decide)) rfl T.m_difference T.F_difference.kp T.b_difference tk (sa_cons (so_var 0 (pv 0)) (sa_cons (so_var 1 (pv 1)) sa_nil)))) (blkOk_by (N := ["one", "two", "bottom", "number"]) (sc := defScope s_squared) (by decide +kernel)) (fun _ _ _ _ _ => (pg_name (i := 3) sc_squared.nd rfl (by first | exact Or.inl rfl | exact Or.inr rfl))) (fun _ _ _ _ _ => ts_nil) (fun _ _ _ _ _ => (so_bin op_mulU o_mul (so_var 3 (pv 3)) (so_var 3 (pv 3)))))) sa_nil)) (sa_cons (so_bin op_mulU o_mul (so_var 2 (pv 2)) (so_var 2 (pv 2))) sa_nil))))))
theorem sc_compare_points : FnScope ["one", "two", "number"] ["one", "two"] (defScope s_compare_points) := ⟨rfl, rfl, rfl, by decide +kernel, rfl, by decide +kernel, by decide +kernel⟩
theorem ok_compare_points (T : Txt K mg) : FnOk P w K mg base (L2.CX P w) 3 T.a_compare_points T.fd_compare_points ["one", "two"] (spOf K (clOf K xa) 2 d_compare_points) :=
  fn_ok T.F_compare_points sc_compare_points rfl rfl fun cdv A outer s H E hr pw tk => by
    have hu : (A.deeper (PyProof.Rows.envOfC "compare_points" (defScope s_compare_points) s.heap.objs.size T.a_compare_points cdv)).units + 65 < cLine := by have := hr.un; omega
    exact (ss_cons (ss_for pw rfl (si_seq (so_call (ok_difference T) (hr.mono (by decide)) rfl T.m_difference T.F_difference.kp T.b_difference tk (sa_cons (so_var 0 (pv 0)) (sa_cons (so_var 1 (pv 1)) sa_nil)))) (g_name 2) (pg_name (i := 2) sc_compare_points.nd rfl (Or.inl rfl)) (ss_cons (ss_if (sb_cmp op_gt o_gt (so_var 2 (pv 2)) so_int (nomark _)) (ss_one (ss_ret (so_un un_neg o_neg so_int))) ss_nil) (ss_one (ss_if (sb_cmp op_lt o_lt (so_var 2 (pv 2)) so_int (nomark _)) (ss_one (ss_ret so_int)) ss_nil)))) (ss_one (ss_ret so_int)))
theorem sc_direction : FnScope ["one", "two", "numbers"] ["one", "two"] (defScope s_direction) := ⟨rfl, rfl, rfl, by decide +kernel, rfl, by decide +kernel, by decide +kernel⟩
theorem ok_direction (T : Txt K mg) : FnOk P w K mg base (L2.CX P w) 3 T.a_direction T.fd_direction ["one", "two"] (spOf K (clOf K xa) 2 d_direction) :=
  fn_ok T.F_direction sc_direction rfl rfl fun cdv A outer s H E hr pw tk => by
    have hu : (A.deeper (PyProof.Rows.envOfC "direction" (defScope s_direction) s.heap.objs.size T.a_direction cdv)).units + 65 < cLine := by have := hr.un; omega
    exact (ss_cons (ss_set 2 (ps_set (i := 2) sc_direction.nd rfl (Or.inl rfl) (so_call (ok_difference T) (hr.mono (by decide)) rfl T.m_difference T.F_difference.kp T.b_difference tk (sa_cons (so_var 0 (pv 0)) (sa_cons (so_var 1 (pv 1)) sa_nil))))) (ss_cons (ss_if (sb_val (so_call (ok_is_zero T) (hr.mono (by decide)) rfl T.m_is_zero T.F_is_zero.kp T.b_is_zero tk (sa_cons (so_var 2 (pv 2)) sa_nil))) (ss_one (ss_ret so_non)) ss_nil) (ss_one (ss_ret (so_call (ok_plain T) (hr.mono (by decide)) rfl T.m_plain T.F_plain.kp T.b_plain tk (sa_cons (so_var 2 (pv 2)) sa_nil))))))
theorem sc_law_along : FnScope ["arrow", "place", "k"] ["arrow", "place"] (defScope s_law_along) := ⟨rfl, rfl, rfl, by decide +kernel, rfl, by decide +kernel, by decide +kernel⟩
theorem ok_law_along (T : Txt K mg) : FnOk P w K mg base (L2.CX P w) 3 T.a_law_along T.fd_law_along ["arrow", "place"] (spOf K (clOf K xa) 2 d_law_along) :=
  fn_ok T.F_law_along sc_law_along rfl rfl fun cdv A outer s H E hr pw tk => by
    have hu : (A.deeper (PyProof.Rows.envOfC "_law_along" (defScope s_law_along) s.heap.objs.size T.a_law_along cdv)).units + 65 < cLine := by have := hr.un; omega
    exact (ss_one (ss_ret (so_call (ok_law_fraction T) (hr.mono (by decide)) rfl T.m_law_fraction T.F_law_fraction.kp T.b_law_fraction tk (sa_cons (so_callB (cr_sumU rfl) a_sum rfl T.z_sum bt_sum (sa_cons (so_fz (sc_lc (own := [("k", 2)]) rfl sc_law_along.nd (g_name 2) (by decide) (si_rng1 rfl T.z_range (sa_cons (so_callB call_len a_len rfl T.z_len bt_len (sa_cons (so_var 0 (pv 0)) sa_nil)) sa_nil)) (blkOk_by (N := ["arrow", "place", "k"]) (sc := defScope s_law_along) (by decide +kernel)) (fun _ _ _ _ _ => (pg_name (i := 2) sc_law_along.nd rfl (by first | exact Or.inl rfl | exact Or.inr rfl))) (fun _ _ _ _ _ => ts_nil) (fun _ _ _ _ _ => (so_bin op_mulU o_mul (so_ix ix_U o_ix (so_var 0 (pv 0)) (so_var 2 (pv 2)) (fun _ _ => rfl)) (so_ix ix_U o_ix (so_var 1 (pv 1)) (so_var 2 (pv 2)) (fun _ _ => rfl)))))) sa_nil)) (sa_cons (so_ix ix_U o_ix (so_var 1 (pv 1)) (so_callB call_len a_len rfl T.z_len bt_len (sa_cons (so_var 0 (pv 0)) sa_nil)) (fun _ _ => rfl)) sa_nil)))))
theorem sc_law_square : FnScope ["one", "other", "size", "steps", "k", "step"] ["one", "other"] (defScope s_law_square) := ⟨rfl, rfl, rfl, by decide +kernel, rfl, by decide +kernel, by decide +kernel⟩
theorem ok_law_square (T : Txt K mg) : FnOk P w K mg base (L2.CX P w) 3 T.a_law_square T.fd_law_square ["one", "other"] (spOf K (clOf K xa) 2 d_law_square) :=
  fn_ok T.F_law_square sc_law_square rfl rfl fun cdv A outer s H E hr pw tk => by
    have hu : (A.deeper (PyProof.Rows.envOfC "_law_square" (defScope s_law_square) s.heap.objs.size T.a_law_square cdv)).units + 65 < cLine := by have := hr.un; omega
    exact (ss_cons (ss_set 2 (ps_set (i := 2) sc_law_square.nd rfl (Or.inr rfl) (so_bin op_sub o_sub (so_callB call_len a_len rfl T.z_len bt_len (sa_cons (so_var 0 (pv 0)) sa_nil)) so_int))) (ss_cons (ss_lcF (own := [("k", 4)]) (i := 3) rfl sc_law_square.nd rfl rfl (sw_true rfl rfl rfl (by decide +kernel)) (g_name 4) (by decide) (si_rng1 rfl T.z_range (sa_cons (so_var 2 (pv 2)) sa_nil)) (blkOk_by (N := ["one", "other", "size", "steps", "k", "step"]) (sc := defScope s_law_square) (by decide +kernel)) (fun _ _ _ _ _ => (pg_name (i := 4) sc_law_square.nd rfl (by first | exact Or.inl rfl | exact Or.inr rfl))) (fun _ _ _ _ _ => ts_nil) (fun _ _ _ _ _ => (so_bin op_sub o_sub (so_bin op_mulU o_mul (so_ix ix_U o_ix (so_var 0 (pv 0)) (so_var 4 (pv 4)) (fun _ _ => rfl)) (so_ix ix_U o_ix (so_var 1 (pv 1)) (so_var 2 (pv 2)) (fun _ _ => rfl))) (so_bin op_mulU o_mul (so_ix ix_U o_ix (so_var 1 (pv 1)) (so_var 4 (pv 4)) (fun _ _ => rfl)) (so_ix ix_U o_ix (so_var 0 (pv 0)) (so_var 2 (pv 2)) (fun _ _ => rfl)))))) (ss_one (ss_ret (so_call (ok_law_fraction T) (hr.mono (by decide)) rfl T.m_law_fraction T.F_law_fraction.kp T.b_law_fraction tk (sa_cons (so_callB (cr_sumU rfl) a_sum rfl T.z_sum bt_sum (sa_cons (so_fz (sc_lc (own := [("step", 5)]) rfl sc_law_square.nd (g_name 5) (by decide) (si_seq (so_var 3 (pv 3))) (blkOk_by (N := ["one", "other", "size", "steps", "k", "step"]) (sc := defScope s_law_square) (by decide +kernel)) (fun _ _ _ _ _ => (pg_name (i := 5) sc_law_square.nd rfl (by first | exact Or.inl rfl | exact Or.inr rfl))) (fun _ _ _ _ _ => ts_nil) (fun _ _ _ _ _ => (so_bin op_mulU o_mul (so_var 5 (pv 5)) (so_var 5 (pv 5)))))) sa_nil)) (sa_cons (so_bin op_mulU o_mul (so_bin op_mulU o_mul (so_bin op_mulU o_mul (so_ix ix_U o_ix (so_var 0 (pv 0)) (so_var 2 (pv 2)) (fun _ _ => rfl)) (so_ix ix_U o_ix (so_var 0 (pv 0)) (so_var 2 (pv 2)) (fun _ _ => rfl))) (so_ix ix_U o_ix (so_var 1 (pv 1)) (so_var 2 (pv 2)) (fun _ _ => rfl))) (so_ix ix_U o_ix (so_var 1 (pv 1)) (so_var 2 (pv 2)) (fun _ _ => rfl))) sa_nil)))))))
theorem sc_law_signed : FnScope ["numbers", "bottom", "number"] ["numbers", "bottom"] (defScope s_law_signed) := ⟨rfl, rfl, rfl, by decide +kernel, rfl, by decide +kernel, by decide +kernel⟩
theorem ok_law_signed (T : Txt K mg) : FnOk P w K mg base (L2.CX P w) 3 T.a_law_signed T.fd_law_signed ["numbers", "bottom"] (spOf K (clOf K xa) 2 d_law_signed) :=
  fn_ok T.F_law_signed sc_law_signed rfl rfl fun cdv A outer s H E hr pw tk => by
    have hu : (A.deeper (PyProof.Rows.envOfC "_law_signed" (defScope s_law_signed) s.heap.objs.size T.a_law_signed cdv)).units + 65 < cLine := by have := hr.un; omega
    exact (ss_cons (ss_if (sb_cmp op_lt o_lt (so_var 1 (pv 1)) so_int (nomark _)) (ss_one (ss_ret (so_call (ok_law_reduced T) (hr.mono (by decide)) rfl T.m_law_reduced T.F_law_reduced.kp T.b_law_reduced tk (sa_cons (so_fz (sc_lc (own := [("number", 2)]) rfl sc_law_signed.nd (g_name 2) (by decide) (si_seq (so_var 0 (pv 0))) (blkOk_by (N := ["numbers", "bottom", "number"]) (sc := defScope s_law_signed) (by decide +kernel)) (fun _ _ _ _ _ => (pg_name (i := 2) sc_law_signed.nd rfl (by first | exact Or.inl rfl | exact Or.inr rfl))) (fun _ _ _ _ _ => ts_nil) (fun _ _ _ _ _ => (so_un un_neg o_neg (so_var 2 (pv 2)))))) (sa_cons (so_un un_neg o_neg (so_var 1 (pv 1))) sa_nil))))) ss_nil) (ss_one (ss_ret (so_call (ok_law_reduced T) (hr.mono (by decide)) rfl T.m_law_reduced T.F_law_reduced.kp T.b_law_reduced tk (sa_cons (so_fz (sc_list rfl T.z_list (so_var 0 (pv 0)))) (sa_cons (so_var 1 (pv 1)) sa_nil))))))
theorem sc_law_mean : FnScope ["places", "shares", "size", "bottom", "place", "numbers", "k", "total", "j"] ["places", "shares"] (defScope s_law_mean) := ⟨rfl, rfl, rfl, by decide +kernel, rfl, by decide +kernel, by decide +kernel⟩
theorem ok_law_mean (T : Txt K mg) : FnOk P w K mg base (L2.CX P w) 3 T.a_law_mean T.fd_law_mean ["places", "shares"] (spOf K (clOf K xa) 2 d_law_mean) :=
  fn_ok T.F_law_mean sc_law_mean rfl rfl fun cdv A outer s H E hr pw tk => by
    have hu : (A.deeper (PyProof.Rows.envOfC "_law_mean" (defScope s_law_mean) s.heap.objs.size T.a_law_mean cdv)).units + 65 < cLine := by have := hr.un; omega
    exact (ss_cons (ss_set 2 (ps_set (i := 2) sc_law_mean.nd rfl (Or.inl rfl) (so_bin op_sub o_sub (so_callB call_len a_len rfl T.z_len bt_len (sa_cons (so_ix ix_U o_ix (so_var 0 (pv 0)) so_int (fun _ _ => rfl)) sa_nil)) so_int))) (ss_cons (ss_set 3 (ps_set (i := 3) sc_law_mean.nd rfl (Or.inl rfl) so_int)) (ss_cons (ss_for pw rfl (si_seq (so_var 0 (pv 0))) (g_name 4) (pg_name (i := 4) sc_law_mean.nd rfl (Or.inl rfl)) (ss_one (ss_set 3 (ps_set (i := 3) sc_law_mean.nd rfl (Or.inl rfl) (so_bin op_mulU o_mul (so_var 3 (pv 3)) (so_ix ix_U o_ix (so_var 4 (pv 4)) (so_var 2 (pv 2)) (fun _ _ => rfl))))))) (ss_cons (ss_own 5 (ps_set (i := 5) sc_law_mean.nd rfl (Or.inl rfl) (sc_lst sa_nil))) (ss_cons (ss_for pw rfl (si_rng1 rfl T.z_range (sa_cons (so_var 2 (pv 2)) sa_nil)) (g_name 6) (pg_name (i := 6) sc_law_mean.nd rfl (Or.inl rfl)) (ss_cons (ss_set 7 (ps_set (i := 7) sc_law_mean.nd rfl (Or.inl rfl) so_int)) (ss_cons (ss_for pw rfl (si_rng1 rfl T.z_range (sa_cons (so_callB call_len a_len rfl T.z_len bt_len (sa_cons (so_var 0 (pv 0)) sa_nil)) sa_nil)) (g_name 8) (pg_name (i := 8) sc_law_mean.nd rfl (Or.inl rfl)) (ss_one (ss_set 7 (ps_set (i := 7) sc_law_mean.nd rfl (Or.inl rfl) (so_bin op_addU o_add (so_var 7 (pv 7)) (so_bin op_mulU o_mul (so_bin op_mulU o_mul (so_ix ix_U o_ix (so_var 1 (pv 1)) (so_var 8 (pv 8)) (fun _ _ => rfl)) (so_ix ix_U o_ix (so_ix ix_U o_ix (so_var 0 (pv 0)) (so_var 8 (pv 8)) (fun _ _ => rfl)) (so_var 6 (pv 6)) (fun _ _ => rfl))) (so_bin op_fdivX o_fdiv (so_var 3 (pv 3)) (so_ix ix_U o_ix (so_ix ix_U o_ix (so_var 0 (pv 0)) (so_var 8 (pv 8)) (fun _ _ => rfl)) (so_var 2 (pv 2)) (fun _ _ => rfl))))))))) (ss_one (ss_app 5 (ps_expr (pe_bm PySem.F.plainAttrs_list PySem.F.slot_list_append PySem.F.type_list_append mt_append (pv 5) (sa_cons (so_var 7 (pv 7)) sa_nil)))))))) (ss_one (ss_frz 5 (ss_ret (so_call (ok_law_reduced T) (hr.mono (by decide)) rfl T.m_law_reduced T.F_law_reduced.kp T.b_law_reduced tk (sa_cons (so_var 5 (pv 5)) (sa_cons (so_bin op_mulU o_mul (so_var 3 (pv 3)) (so_callB (cr_sumU rfl) a_sum rfl T.z_sum bt_sum (sa_cons (so_var 1 (pv 1)) sa_nil))) sa_nil)))))))))))
theorem sc_law_two : FnScope ["one", "other", "arrow", "share", "size", "numbers", "steps", "sign", "step", "made", "found", "k", "number"] ["one", "other", "arrow", "share"] (defScope s_law_two) := ⟨rfl, rfl, rfl, by decide +kernel, rfl, by decide +kernel, by decide +kernel⟩
theorem ok_law_two (T : Txt K mg) : FnOk P w K mg base (L2.CX P w) 4 T.a_law_two T.fd_law_two ["one", "other", "arrow", "share"] (spOf K (clOf K xa) 4 d_law_two) :=
  fn_ok T.F_law_two sc_law_two rfl rfl fun cdv A outer s H E hr pw tk => by
    have hu : (A.deeper (PyProof.Rows.envOfC "_law_two" (defScope s_law_two) s.heap.objs.size T.a_law_two cdv)).units + 65 < cLine := by have := hr.un; omega
    exact (ss_cons (ss_set 4 (ps_set (i := 4) sc_law_two.nd rfl (Or.inr rfl) (so_bin op_sub o_sub (so_callB call_len a_len rfl T.z_len bt_len (sa_cons (so_var 0 (pv 0)) sa_nil)) so_int))) (ss_cons (ss_if (sw_b (sw_or (sb_cmp (op_neD hr.units) o_ne (so_call (ok_middle T) (hr.mono (by decide)) rfl T.m_middle T.F_middle.kp T.b_middle tk (sa_cons (so_var 0 (pv 0)) (sa_cons (so_var 1 (pv 1)) sa_nil))) (so_call (ok_law_mean T) (hr.mono (by decide)) rfl T.m_law_mean T.F_law_mean.kp T.b_law_mean tk (sa_cons (so_fz (sc_lst (sa_cons (so_var 0 (pv 0)) (sa_cons (so_var 1 (pv 1)) sa_nil)))) (sa_cons (so_fz (sc_lst (sa_cons so_int (sa_cons so_int sa_nil)))) sa_nil))) (nomark _)) (sw_or1 (sb_cmp (op_neD hr.units) o_ne (so_call (ok_squared T) (hr.mono (by decide)) rfl T.m_squared T.F_squared.kp T.b_squared tk (sa_cons (so_var 0 (pv 0)) (sa_cons (so_var 1 (pv 1)) sa_nil))) (so_call (ok_law_square T) (hr.mono (by decide)) rfl T.m_law_square T.F_law_square.kp T.b_law_square tk (sa_cons (so_var 0 (pv 0)) (sa_cons (so_var 1 (pv 1)) sa_nil))) (nomark _))))) (ss_one (ss_ret so_bl)) ss_nil) (ss_cons (ss_if (sb_cmp (op_neD hr.units) o_ne (so_call (ok_product T) (hr.mono (by decide)) rfl T.m_product T.F_product.kp T.b_product tk (sa_cons (so_var 2 (pv 2)) (sa_cons (so_var 0 (pv 0)) sa_nil))) (so_call (ok_law_along T) (hr.mono (by decide)) rfl T.m_law_along T.F_law_along.kp T.b_law_along tk (sa_cons (so_var 2 (pv 2)) (sa_cons (so_var 0 (pv 0)) sa_nil))) (nomark _)) (ss_one (ss_ret so_bl)) ss_nil) (ss_cons (ss_lcF (own := [("k", 11)]) (i := 5) rfl sc_law_two.nd rfl rfl (sw_true rfl rfl rfl (by decide +kernel)) (g_name 11) (by decide) (si_rng1 rfl T.z_range (sa_cons (so_var 4 (pv 4)) sa_nil)) (blkOk_by (N := ["one", "other", "arrow", "share", "size", "numbers", "steps", "sign", "step", "made", "found", "k", "number"]) (sc := defScope s_law_two) (by decide +kernel)) (fun _ _ _ _ _ => (pg_name (i := 11) sc_law_two.nd rfl (by first | exact Or.inl rfl | exact Or.inr rfl))) (fun _ _ _ _ _ => ts_nil) (fun _ _ _ _ _ => (so_bin op_addU o_add (so_bin op_mulU o_mul (so_ix ix_U o_ix (so_var 0 (pv 0)) (so_var 11 (pv 11)) (fun _ _ => rfl)) (so_ix ix_U o_ix (so_var 3 (pv 3)) so_int (fun _ _ => rfl))) (so_bin op_mulU o_mul (so_bin op_mulU o_mul (so_ix ix_U o_ix (so_var 2 (pv 2)) (so_var 11 (pv 11)) (fun _ _ => rfl)) (so_ix ix_U o_ix (so_var 3 (pv 3)) so_int (fun _ _ => rfl))) (so_ix ix_U o_ix (so_var 0 (pv 0)) (so_var 4 (pv 4)) (fun _ _ => rfl)))))) (ss_cons (ss_if (sb_cmp (op_neD hr.units) o_ne (so_call (ok_moved T) (hr.mono (by decide)) rfl T.m_moved T.F_moved.kp T.b_moved tk (sa_cons (so_var 0 (pv 0)) (sa_cons (so_var 2 (pv 2)) (sa_cons (so_var 3 (pv 3)) sa_nil)))) (so_call (ok_law_reduced T) (hr.mono (by decide)) rfl T.m_law_reduced T.F_law_reduced.kp T.b_law_reduced tk (sa_cons (so_var 5 (pv 5)) (sa_cons (so_bin op_mulU o_mul (so_ix ix_U o_ix (so_var 0 (pv 0)) (so_var 4 (pv 4)) (fun _ _ => rfl)) (so_ix ix_U o_ix (so_var 3 (pv 3)) so_int (fun _ _ => rfl))) sa_nil))) (nomark _)) (ss_one (ss_ret so_bl)) ss_nil) (ss_cons (ss_set 6 (ps_set (i := 6) sc_law_two.nd rfl (Or.inl rfl) (so_callTy call_tuple_of a_tuple rfl T.z_tuple bt_tuple (sa_cons (so_fz (sc_lc (own := [("k", 11)]) rfl sc_law_two.nd (g_name 11) (by decide) (si_rng1 rfl T.z_range (sa_cons (so_var 4 (pv 4)) sa_nil)) (blkOk_by (N := ["one", "other", "arrow", "share", "size", "numbers", "steps", "sign", "step", "made", "found", "k", "number"]) (sc := defScope s_law_two) (by decide +kernel)) (fun _ _ _ _ _ => (pg_name (i := 11) sc_law_two.nd rfl (by first | exact Or.inl rfl | exact Or.inr rfl))) (fun _ _ _ _ _ => ts_nil) (fun _ _ _ _ _ => (so_bin op_sub o_sub (so_bin op_mulU o_mul (so_ix ix_U o_ix (so_var 1 (pv 1)) (so_var 11 (pv 11)) (fun _ _ => rfl)) (so_ix ix_U o_ix (so_var 0 (pv 0)) (so_var 4 (pv 4)) (fun _ _ => rfl))) (so_bin op_mulU o_mul (so_ix ix_U o_ix (so_var 0 (pv 0)) (so_var 11 (pv 11)) (fun _ _ => rfl)) (so_ix ix_U o_ix (so_var 1 (pv 1)) (so_var 4 (pv 4)) (fun _ _ => rfl))))))) sa_nil)))) (ss_cons (ss_set 7 (ps_set (i := 7) sc_law_two.nd rfl (Or.inl rfl) so_int)) (ss_cons (ss_for pw rfl (si_seq (so_var 6 (pv 6))) (g_name 8) (pg_name (i := 8) sc_law_two.nd rfl (Or.inl rfl)) (ss_one (ss_if (sb_cmp (op_eqD hr.units) o_eq (so_var 7 (pv 7)) so_int (nomark _)) (ss_one (ss_set 7 (ps_set (i := 7) sc_law_two.nd rfl (Or.inl rfl) (so_bin op_sub o_sub (so_callTy call_int1 a_int rfl T.z_int bt_int (sa_cons (so_cmp op_lt o_lt (so_var 8 (pv 8)) so_int (nomark _)) sa_nil)) (so_callTy call_int1 a_int rfl T.z_int bt_int (sa_cons (so_cmp op_gt o_gt (so_var 8 (pv 8)) so_int (nomark _)) sa_nil)))))) ss_nil))) (ss_cons (ss_set 9 (ps_set (i := 9) sc_law_two.nd rfl (Or.inl rfl) (so_call (ok_compare_points T) (hr.mono (by decide)) rfl T.m_compare_points T.F_compare_points.kp T.b_compare_points tk (sa_cons (so_var 0 (pv 0)) (sa_cons (so_var 1 (pv 1)) sa_nil))))) (ss_cons (ss_if (sw_b (sw_or (sb_not (sb_val (so_call (ok_law_whole T) (hr.mono (by decide)) rfl T.m_law_whole T.F_law_whole.kp T.b_law_whole tk (sa_cons (so_var 9 (pv 9)) sa_nil)))) (sw_or1 (sb_cmp (op_neD hr.units) o_ne (so_var 9 (pv 9)) (so_var 7 (pv 7)) (nomark _))))) (ss_one (ss_ret so_bl)) ss_nil) (ss_cons (ss_set 10 (ps_set (i := 10) sc_law_two.nd rfl (Or.inl rfl) (so_call (ok_direction T) (hr.mono (by decide)) rfl T.m_direction T.F_direction.kp T.b_direction tk (sa_cons (so_var 0 (pv 0)) (sa_cons (so_var 1 (pv 1)) sa_nil))))) (ss_cons (ss_if (sb_cmp (op_eqD hr.units) o_eq (so_var 7 (pv 7)) so_int (nomark _)) (ss_one (ss_ret (so_cmp op_isN o_isN (so_var 10 (pv 10)) so_non (nomark _)))) ss_nil) (ss_one (ss_ret (so_and (so_isiTy rfl T.z_isinstance (pe_bltn rfl T.z_tuple bt_tuple rfl) (so_var 10 (pv 10))) (so_and (so_cmp (op_eqD hr.units) o_eq (so_var 10 (pv 10)) (so_call (ok_law_short T) (hr.mono (by decide)) rfl T.m_law_short T.F_law_short.kp T.b_law_short tk (sa_cons (so_var 6 (pv 6)) sa_nil)) (nomark _)) (so_one (so_callB (cr_all rfl) a_all rfl T.z_all bt_all (sa_cons (so_fz (sc_lc (own := [("number", 12)]) rfl sc_law_two.nd (g_name 12) (by decide) (si_seq (so_var 10 (pv 10))) (blkOk_by (N := ["one", "other", "arrow", "share", "size", "numbers", "steps", "sign", "step", "made", "found", "k", "number"]) (sc := defScope s_law_two) (by decide +kernel)) (fun _ _ _ _ _ => (pg_name (i := 12) sc_law_two.nd rfl (by first | exact Or.inl rfl | exact Or.inr rfl))) (fun _ _ _ _ _ => ts_nil) (fun _ _ _ _ _ => (so_call (ok_law_whole T) (hr.mono (by decide)) rfl T.m_law_whole T.F_law_whole.kp T.b_law_whole takes0 (sa_cons (so_var 12 (pv 12)) sa_nil))))) sa_nil)))))))))))))))))))
theorem sc_law : FnScope ["script", "shape", "size", "row", "k", "arrow", "share", "home", "told", "drawn", "bottom", "made", "shares", "j", "number"] ["script"] (defScope s_law) := ⟨rfl, rfl, rfl, by decide +kernel, rfl, by decide +kernel, by decide +kernel⟩
theorem ok_law (T : Txt K mg) : FnOk P w K mg base (L2.CX P w) 5 T.a_law T.fd_law ["script"] (spOf K (clOf K none) 1 d_law) :=
  fn_ok T.F_law sc_law rfl rfl fun cdv A outer s H E hr pw tk => by
    have hu : (A.deeper (PyProof.Rows.envOfC "law" (defScope s_law) s.heap.objs.size T.a_law cdv)).units + 65 < cLine := by have := hr.un; omega
    exact (ss_cons (ss_set 1 (ps_set (i := 1) sc_law.nd rfl (Or.inr rfl) (so_call (ok_law_digits T) (hr.mono (by decide)) rfl T.m_law_digits T.F_law_digits.kp T.b_law_digits tk (sa_cons (so_call (ok_law_cell T) (hr.mono (by decide)) rfl T.m_law_cell T.F_law_cell.kp T.b_law_cell tk (sa_cons (so_var 0 (pv 0)) (sa_cons so_int sa_nil))) (sa_cons (so_fz (sc_lst (sa_cons so_int (sa_cons so_int (sa_cons so_int (sa_cons so_int (sa_cons so_int (sa_cons so_int sa_nil)))))))) sa_nil))))) (ss_cons (ss_set 2 (ps_set (i := 2) sc_law.nd rfl (Or.inl rfl) (so_bin op_addU o_add so_int (so_ix ix_U o_ix (so_var 1 (pv 1)) so_int (fun _ _ => rfl))))) (ss_cons (ss_set 3 (ps_set (i := 3) sc_law.nd rfl (Or.inr rfl) (so_call (ok_law_digits T) (hr.mono (by decide)) rfl T.m_law_digits T.F_law_digits.kp T.b_law_digits tk (sa_cons (so_call (ok_law_cell T) (hr.mono (by decide)) rfl T.m_law_cell T.F_law_cell.kp T.b_law_cell tk (sa_cons (so_var 0 (pv 0)) (sa_cons so_int sa_nil))) (sa_cons (so_bin op_addU o_add (so_fz (sc_lst (sa_cons so_int (sa_cons so_int (sa_cons so_int (sa_cons so_int (sa_cons so_int sa_nil))))))) (so_bin op_mulU o_mul (so_fz (sc_lst (sa_cons so_int sa_nil))) so_int)) sa_nil))))) (ss_cons (ss_set 5 (ps_set (i := 5) sc_law.nd rfl (Or.inl rfl) (so_callTy call_tuple_of a_tuple rfl T.z_tuple bt_tuple (sa_cons (so_fz (sc_lc (own := [("k", 4)]) rfl sc_law.nd (g_name 4) (by decide) (si_rng1 rfl T.z_range (sa_cons (so_var 2 (pv 2)) sa_nil)) (blkOk_by (N := ["script", "shape", "size", "row", "k", "arrow", "share", "home", "told", "drawn", "bottom", "made", "shares", "j", "number"]) (sc := defScope s_law) (by decide +kernel)) (fun _ _ _ _ _ => (pg_name (i := 4) sc_law.nd rfl (by first | exact Or.inl rfl | exact Or.inr rfl))) (fun _ _ _ _ _ => ts_nil) (fun _ _ _ _ _ => (so_bin op_sub o_sub (so_callTy call_int1 a_int rfl T.z_int bt_int (sa_cons (so_ix ix_U o_ix (so_var 3 (pv 3)) (so_var 4 (pv 4)) (fun _ _ => rfl)) sa_nil)) so_int)))) sa_nil)))) (ss_cons (ss_if (sb_not (sb_val (so_callB (cr_any rfl) a_any rfl T.z_any bt_any (sa_cons (so_fz (sc_lc (own := [("number", 14)]) rfl sc_law.nd (g_name 14) (by decide) (si_seq (so_var 5 (pv 5))) (blkOk_by (N := ["script", "shape", "size", "row", "k", "arrow", "share", "home", "told", "drawn", "bottom", "made", "shares", "j", "number"]) (sc := defScope s_law) (by decide +kernel)) (fun _ _ _ _ _ => (pg_name (i := 14) sc_law.nd rfl (by first | exact Or.inl rfl | exact Or.inr rfl))) (fun _ _ _ _ _ => ts_nil) (fun _ _ _ _ _ => (so_cmp (op_neD hr.units) o_ne (so_var 14 (pv 14)) so_int (nomark _))))) sa_nil)))) (ss_one (ss_set 5 (ps_set (i := 5) sc_law.nd rfl (Or.inl rfl) (so_bin op_mulU o_mul (so_tup (sa_cons so_int sa_nil)) (so_var 2 (pv 2)))))) ss_nil) (ss_cons (ss_set 6 (ps_set (i := 6) sc_law.nd rfl (Or.inl rfl) (so_call (ok_law_fraction T) (hr.mono (by decide)) rfl T.m_law_fraction T.F_law_fraction.kp T.b_law_fraction tk (sa_cons (so_bin op_sub o_sub (so_callTy call_int1 a_int rfl T.z_int bt_int (sa_cons (so_ix ix_U o_ix (so_var 3 (pv 3)) so_int (fun _ _ => rfl)) sa_nil)) so_int) (sa_cons (so_bin op_addU o_add so_int (so_callTy call_int1 a_int rfl T.z_int bt_int (sa_cons (so_ix ix_U o_ix (so_var 3 (pv 3)) so_int (fun _ _ => rfl)) sa_nil))) sa_nil))))) (ss_cons (ss_set 7 (ps_set (i := 7) sc_law.nd rfl (Or.inl rfl) (so_callTy call_tuple_of a_tuple rfl T.z_tuple bt_tuple (sa_cons (so_fz (sc_lc (own := [("k", 4)]) rfl sc_law.nd (g_name 4) (by decide) (si_rng1 rfl T.z_range (sa_cons (so_var 2 (pv 2)) sa_nil)) (blkOk_by (N := ["script", "shape", "size", "row", "k", "arrow", "share", "home", "told", "drawn", "bottom", "made", "shares", "j", "number"]) (sc := defScope s_law) (by decide +kernel)) (fun _ _ _ _ _ => (pg_name (i := 4) sc_law.nd rfl (by first | exact Or.inl rfl | exact Or.inr rfl))) (fun _ _ _ _ _ => ts_nil) (fun _ _ _ _ _ => (so_bin op_sub o_sub (so_callTy call_int1 a_int rfl T.z_int bt_int (sa_cons (so_ix ix_U o_ix (so_var 1 (pv 1)) (so_bin op_addU o_add so_int (so_var 4 (pv 4))) (fun _ _ => rfl)) sa_nil)) so_int)))) sa_nil)))) (ss_cons (ss_own 8 (ps_set (i := 8) sc_law.nd rfl (Or.inl rfl) (sc_lst (sa_cons (so_bin op_addU o_add (so_var 7 (pv 7)) (so_tup (sa_cons so_int sa_nil))) sa_nil)))) (ss_cons (ss_if (sb_cmp (op_neD hr.units) o_ne (so_call (ok_home_point T) (hr.mono (by decide)) rfl T.m_home_point T.F_home_point.kp T.b_home_point tk (sa_cons (so_var 7 (pv 7)) sa_nil)) (so_bin op_addU o_add (so_var 7 (pv 7)) (so_tup (sa_cons so_int sa_nil))) (nomark _)) (ss_one (ss_ret so_bl)) ss_nil) (ss_cons (ss_for pw rfl (si_rng1 rfl T.z_range (sa_cons so_int sa_nil)) (g_name 4) (pg_name (i := 4) sc_law.nd rfl (Or.inl rfl)) (ss_cons (ss_set 9 (ps_set (i := 9) sc_law.nd rfl (Or.inl rfl) (so_call (ok_law_drawn T) (hr.mono (by decide)) rfl T.m_law_drawn T.F_law_drawn.kp T.b_law_drawn tk (sa_cons (so_call (ok_law_cell T) (hr.mono (by decide)) rfl T.m_law_cell T.F_law_cell.kp T.b_law_cell tk (sa_cons (so_var 0 (pv 0)) (sa_cons (so_bin op_addU o_add so_int (so_var 4 (pv 4))) sa_nil))) (sa_cons (so_var 2 (pv 2)) sa_nil))))) (ss_cons (ss_set 10 (ps_set (i := 10) sc_law.nd rfl (Or.inl rfl) (so_bin op_mulU o_mul (so_ix ix_U o_ix (so_fz (sc_lst (sa_cons so_int (sa_cons so_int (sa_cons (so_un un_neg o_neg so_int) sa_nil))))) (so_bin op_modN o_mod (so_callTy call_int1 a_int rfl T.z_int bt_int (sa_cons (so_bin op_addU o_add (so_ix ix_U o_ix (so_var 1 (pv 1)) so_int (fun _ _ => rfl)) (so_var 4 (pv 4))) sa_nil)) so_int) (fun _ _ => rfl)) (so_ix ix_U o_ix (so_var 9 (pv 9)) so_int (fun _ _ => rfl))))) (ss_cons (ss_set 11 (ps_set (i := 11) sc_law.nd rfl (Or.inl rfl) (so_call (ok_point T) (hr.mono (by decide)) rfl T.m_point T.F_point.kp T.b_point tk (sa_cons (so_callTy call_tuple_of a_tuple rfl T.z_tuple bt_tuple (sa_cons (so_ix ix_U o_ix (so_var 9 (pv 9)) so_int (fun _ _ => rfl)) sa_nil)) (sa_cons (so_var 10 (pv 10)) sa_nil))))) (ss_cons (ss_if (sw_b (sw_or (sb_not (sb_val (so_call (ok_law_is_place T) (hr.mono (by decide)) rfl T.m_law_is_place T.F_law_is_place.kp T.b_law_is_place tk (sa_cons (so_var 11 (pv 11)) (sa_cons (so_var 2 (pv 2)) sa_nil))))) (sw_or (sb_cmp (op_neD hr.units) o_ne (so_var 11 (pv 11)) (so_call (ok_law_signed T) (hr.mono (by decide)) rfl T.m_law_signed T.F_law_signed.kp T.b_law_signed tk (sa_cons (so_ix ix_U o_ix (so_var 9 (pv 9)) so_int (fun _ _ => rfl)) (sa_cons (so_var 10 (pv 10)) sa_nil))) (nomark _)) (sw_or1 (sb_not (sb_val (so_call (ok_law_no_point T) (hr.mono (by decide)) rfl T.m_law_no_point T.F_law_no_point.kp T.b_law_no_point tk (sa_cons (so_callTy call_tuple_of a_tuple rfl T.z_tuple bt_tuple (sa_cons (so_ix ix_U o_ix (so_var 9 (pv 9)) so_int (fun _ _ => rfl)) sa_nil)) sa_nil)))))))) (ss_one (ss_ret so_bl)) ss_nil) (ss_one (ss_app 8 (ps_expr (pe_bm PySem.F.plainAttrs_list PySem.F.slot_list_append PySem.F.type_list_append mt_append (pv 8) (sa_cons (so_var 11 (pv 11)) sa_nil)))))))))) (ss_cons (ss_app 8 (ps_expr (pe_bm PySem.F.plainAttrs_list PySem.F.slot_list_append PySem.F.type_list_append mt_append (pv 8) (sa_cons (so_call (ok_point T) (hr.mono (by decide)) rfl T.m_point T.F_point.kp T.b_point tk (sa_cons (so_callTy call_tuple_of a_tuple rfl T.z_tuple bt_tuple (sa_cons (so_fz (sc_lc (own := [("number", 14)]) rfl sc_law.nd (g_name 14) (by decide) (si_seq (so_sl (so_ixO 8 (pv 8) so_int (fun _ _ => rfl)) sp_none (sp_some (so_var 2 (pv 2))))) (blkOk_by (N := ["script", "shape", "size", "row", "k", "arrow", "share", "home", "told", "drawn", "bottom", "made", "shares", "j", "number"]) (sc := defScope s_law) (by decide +kernel)) (fun _ _ _ _ _ => (pg_name (i := 14) sc_law.nd rfl (by first | exact Or.inl rfl | exact Or.inr rfl))) (fun _ _ _ _ _ => ts_nil) (fun _ _ _ _ _ => (so_bin op_mulU o_mul (so_var 14 (pv 14)) so_int)))) sa_nil)) (sa_cons (so_bin op_mulU o_mul (so_ix ix_U o_ix (so_ixO 8 (pv 8) so_int (fun _ _ => rfl)) (so_var 2 (pv 2)) (fun _ _ => rfl)) so_int) sa_nil))) sa_nil)))) (ss_cons (ss_set 12 (ps_set (i := 12) sc_law.nd rfl (Or.inl rfl) (so_callTy call_tuple_of a_tuple rfl T.z_tuple bt_tuple (sa_cons (so_fz (sc_lc (own := [("k", 4)]) rfl sc_law.nd (g_name 4) (by decide) (si_rng1 rfl T.z_range (sa_cons so_int sa_nil)) (blkOk_by (N := ["script", "shape", "size", "row", "k", "arrow", "share", "home", "told", "drawn", "bottom", "made", "shares", "j", "number"]) (sc := defScope s_law) (by decide +kernel)) (fun _ _ _ _ _ => (pg_name (i := 4) sc_law.nd rfl (by first | exact Or.inl rfl | exact Or.inr rfl))) (fun _ _ _ _ _ => ts_nil) (fun _ _ _ _ _ => (so_callTy call_int1 a_int rfl T.z_int bt_int (sa_cons (so_ix ix_U o_ix (so_var 3 (pv 3)) (so_bin op_addU o_add so_int (so_var 4 (pv 4))) (fun _ _ => rfl)) sa_nil))))) sa_nil)))) (ss_cons (ss_if (sb_cmp (op_eqD hr.units) o_eq (so_callB (cr_sumU rfl) a_sum rfl T.z_sum bt_sum (sa_cons (so_var 12 (pv 12)) sa_nil)) so_int (nomark _)) (ss_one (ss_set 12 (ps_set (i := 12) sc_law.nd rfl (Or.inl rfl) (so_tup (sa_cons so_int (sa_cons so_int (sa_cons so_int (sa_cons so_int sa_nil)))))))) ss_nil) (ss_cons (ss_frz 8 (ss_if (sw_b (sw_or (sb_cmp (op_neD hr.units) o_ne (so_call (ok_mixed T) (hr.mono (by decide)) rfl T.m_mixed T.F_mixed.kp T.b_mixed tk (sa_cons (so_callTy call_tuple_of a_tuple rfl T.z_tuple bt_tuple (sa_cons (so_sl (so_var 8 (pv 8)) sp_none (sp_some so_int)) sa_nil)) (sa_cons (so_var 12 (pv 12)) sa_nil))) (so_call (ok_law_mean T) (hr.mono (by decide)) rfl T.m_law_mean T.F_law_mean.kp T.b_law_mean tk (sa_cons (so_sl (so_var 8 (pv 8)) sp_none (sp_some so_int)) (sa_cons (so_var 12 (pv 12)) sa_nil))) (nomark _)) (sw_or1 (sb_cmp (op_neD hr.units) o_ne (so_call (ok_mixed T) (hr.mono (by decide)) rfl T.m_mixed T.F_mixed.kp T.b_mixed tk (sa_cons (so_tup (sa_cons (so_ix ix_U o_ix (so_var 8 (pv 8)) so_int (fun _ _ => rfl)) sa_nil)) (sa_cons (so_tup (sa_cons so_int sa_nil)) sa_nil))) (so_ix ix_U o_ix (so_var 8 (pv 8)) so_int (fun _ _ => rfl)) (nomark _))))) (ss_one (ss_ret so_bl)) ss_nil)) (ss_cons (ss_for pw rfl (si_rng1 rfl T.z_range (sa_cons (so_callB call_len a_len rfl T.z_len bt_len (sa_cons (so_var 8 (pv 8)) sa_nil)) sa_nil)) (g_name 4) (pg_name (i := 4) sc_law.nd rfl (Or.inl rfl)) (ss_cons (ss_if (sb_not (sb_val (so_call (ok_law_near T) (hr.mono (by decide)) rfl T.m_law_near T.F_law_near.kp T.b_law_near tk (sa_cons (so_ix ix_U o_ix (so_var 8 (pv 8)) (so_var 4 (pv 4)) (fun _ _ => rfl)) (sa_cons (so_var 2 (pv 2)) (sa_cons (so_sl (so_var 1 (pv 1)) (sp_some so_int) sp_none) sa_nil)))))) (ss_one (ss_ret so_bl)) ss_nil) (ss_one (ss_for pw rfl (si_rng1 rfl T.z_range (sa_cons (so_callB call_len a_len rfl T.z_len bt_len (sa_cons (so_var 8 (pv 8)) sa_nil)) sa_nil)) (g_name 13) (pg_name (i := 13) sc_law.nd rfl (Or.inl rfl)) (ss_one (ss_if (sb_not (sb_val (so_call (ok_law_two T) (hr.mono (by decide)) rfl T.m_law_two T.F_law_two.kp T.b_law_two tk (sa_cons (so_ix ix_U o_ix (so_var 8 (pv 8)) (so_var 4 (pv 4)) (fun _ _ => rfl)) (sa_cons (so_ix ix_U o_ix (so_var 8 (pv 8)) (so_var 13 (pv 13)) (fun _ _ => rfl)) (sa_cons (so_var 5 (pv 5)) (sa_cons (so_var 6 (pv 6)) sa_nil))))))) (ss_one (ss_ret so_bl)) ss_nil)))))) (ss_one (ss_ret so_bl)))))))))))))))))
end
/-! ### what the top has written -/
theorem all_mk {l : PySem.W.OpenLaw} {w : World} {K : PySem.W.Frag} {h : Heap} {mg : Str → Option Value} {fa : Addr} (X : K.In h) (G : h.Ns mainGlobals mg) (hfa : mg "law" = some (.ref fa))
    {C_CalmError : Addr} (aC_CalmError : PySem.W.nsIn K mainGlobals "CalmError" = some (some (.ref C_CalmError)))
    {C_ZeroBottom : Addr} (aC_ZeroBottom : PySem.W.nsIn K mainGlobals "ZeroBottom" = some (some (.ref C_ZeroBottom)))
    (s_CalmError : PySem.W.subIn K (.ref C_CalmError) (.type "BaseException") = some true)
    (t_CalmError : PySem.W.typeIn K (.ref C_CalmError) = some (.type "type"))
    (d_CalmError : PySem.W.hasDictIn K C_CalmError = true)
    (q_ZeroBottom : PySem.W.excIn K C_ZeroBottom [.type "ValueError", .type "Exception", .type "BaseException", .type "object"] "ValueError.__new__" = true)
    (kp_ZeroBottom : PySem.W.keepIn K (.ref C_ZeroBottom) = true)
    (s_ZeroBottom : PySem.W.subIn K (.ref C_ZeroBottom) (.type "BaseException") = some true)
    (t_ZeroBottom : PySem.W.typeIn K (.ref C_ZeroBottom) = some (.type "type"))
    (d_ZeroBottom : PySem.W.hasDictIn K C_ZeroBottom = true)
    (h1_ZeroBottom : PySem.W.findIn K (.ref C_ZeroBottom) "__getattribute__" = some (some (.builtin "BaseException.__getattribute__")))
    (h2_ZeroBottom : PySem.W.findIn K (.ref C_ZeroBottom) "__getattr__" = some none)
    (h3_ZeroBottom : PySem.W.findIn K (.ref C_ZeroBottom) "__class__" = some (some (.builtin "object.__class__")))
    (h4_ZeroBottom : PySem.W.mroIn K C_ZeroBottom (.type "object") = some true)
    (hn_ : PySem.W.specialIn K (.builtin "object.__class__") "__get__" = some (some (.builtin "getset_descriptor.__get__")))
    (ht_ : PySem.W.takesIn K (.builtin "object.__class__") = some true)
    (u_ZeroBottom_CalmError : PySem.W.subIn K (.ref C_ZeroBottom) (.ref C_CalmError) = some true)
    (kit_ZeroBottom_ZeroBottom : PySem.W.kitOne K (.ref C_ZeroBottom) (.ref C_ZeroBottom) = some true)
    {f0 : Addr} {od0 an0 : Option Addr} {sl0 : Array (Option Value)} {oc0 kV0 dc0 pm0 cd0 ct0 : Value}
    (a0 : PySem.W.nsIn K mainGlobals "plain" = some (some (.ref f0))) (l0 : K.lookup f0 = some ⟨oc0, od0, .func (PySem.W.fnOf "plain" "plain" (defArgs s_plain) (defBody s_plain) (defScope s_plain) .none kV0 dc0 pm0 an0 cd0 ct0), sl0⟩) (c0 : PySem.W.codeIn K cd0 "plain" = true) (k0 : PySem.W.keepIn K (.ref f0) = true)
    {f1 : Addr} {od1 an1 : Option Addr} {sl1 : Array (Option Value)} {oc1 kV1 dc1 pm1 cd1 ct1 : Value}
    (a1 : PySem.W.nsIn K mainGlobals "is_zero" = some (some (.ref f1))) (l1 : K.lookup f1 = some ⟨oc1, od1, .func (PySem.W.fnOf "is_zero" "is_zero" (defArgs s_is_zero) (defBody s_is_zero) (defScope s_is_zero) .none kV1 dc1 pm1 an1 cd1 ct1), sl1⟩) (c1 : PySem.W.codeIn K cd1 "is_zero" = true) (k1 : PySem.W.keepIn K (.ref f1) = true)
    {f2 : Addr} {od2 an2 : Option Addr} {sl2 : Array (Option Value)} {oc2 kV2 dc2 pm2 cd2 ct2 : Value}
    (a2 : PySem.W.nsIn K mainGlobals "ratio" = some (some (.ref f2))) (l2 : K.lookup f2 = some ⟨oc2, od2, .func (PySem.W.fnOf "ratio" "ratio" (defArgs s_ratio) (defBody s_ratio) (defScope s_ratio) .none kV2 dc2 pm2 an2 cd2 ct2), sl2⟩) (c2 : PySem.W.codeIn K cd2 "ratio" = true) (k2 : PySem.W.keepIn K (.ref f2) = true)
    {f3 : Addr} {od3 an3 : Option Addr} {sl3 : Array (Option Value)} {oc3 kV3 dc3 pm3 cd3 ct3 : Value}
    (a3 : PySem.W.nsIn K mainGlobals "point" = some (some (.ref f3))) (l3 : K.lookup f3 = some ⟨oc3, od3, .func (PySem.W.fnOf "point" "point" (defArgs s_point) (defBody s_point) (defScope s_point) .none kV3 dc3 pm3 an3 cd3 ct3), sl3⟩) (c3 : PySem.W.codeIn K cd3 "point" = true) (k3 : PySem.W.keepIn K (.ref f3) = true)
    {f4 : Addr} {od4 an4 : Option Addr} {sl4 : Array (Option Value)} {oc4 kV4 dc4 pm4 cd4 ct4 : Value}
    (a4 : PySem.W.nsIn K mainGlobals "home_point" = some (some (.ref f4))) (l4 : K.lookup f4 = some ⟨oc4, od4, .func (PySem.W.fnOf "home_point" "home_point" (defArgs s_home_point) (defBody s_home_point) (defScope s_home_point) .none kV4 dc4 pm4 an4 cd4 ct4), sl4⟩) (c4 : PySem.W.codeIn K cd4 "home_point" = true) (k4 : PySem.W.keepIn K (.ref f4) = true)
    {f5 : Addr} {od5 an5 : Option Addr} {sl5 : Array (Option Value)} {oc5 kV5 dc5 pm5 cd5 ct5 : Value}
    (a5 : PySem.W.nsIn K mainGlobals "is_point" = some (some (.ref f5))) (l5 : K.lookup f5 = some ⟨oc5, od5, .func (PySem.W.fnOf "is_point" "is_point" (defArgs s_is_point) (defBody s_is_point) (defScope s_is_point) .none kV5 dc5 pm5 an5 cd5 ct5), sl5⟩) (c5 : PySem.W.codeIn K cd5 "is_point" = true) (k5 : PySem.W.keepIn K (.ref f5) = true)
    {f6 : Addr} {od6 an6 : Option Addr} {sl6 : Array (Option Value)} {oc6 kV6 dc6 pm6 cd6 ct6 : Value}
    (a6 : PySem.W.nsIn K mainGlobals "dimension_of" = some (some (.ref f6))) (l6 : K.lookup f6 = some ⟨oc6, od6, .func (PySem.W.fnOf "dimension_of" "dimension_of" (defArgs s_dimension_of) (defBody s_dimension_of) (defScope s_dimension_of) .none kV6 dc6 pm6 an6 cd6 ct6), sl6⟩) (c6 : PySem.W.codeIn K cd6 "dimension_of" = true) (k6 : PySem.W.keepIn K (.ref f6) = true)
    {f7 : Addr} {od7 an7 : Option Addr} {sl7 : Array (Option Value)} {oc7 kV7 dc7 pm7 cd7 ct7 : Value}
    (a7 : PySem.W.nsIn K mainGlobals "_law_whole" = some (some (.ref f7))) (l7 : K.lookup f7 = some ⟨oc7, od7, .func (PySem.W.fnOf "_law_whole" "_law_whole" (defArgs s_law_whole) (defBody s_law_whole) (defScope s_law_whole) .none kV7 dc7 pm7 an7 cd7 ct7), sl7⟩) (c7 : PySem.W.codeIn K cd7 "_law_whole" = true) (k7 : PySem.W.keepIn K (.ref f7) = true)
    {f8 : Addr} {od8 an8 : Option Addr} {sl8 : Array (Option Value)} {oc8 kV8 dc8 pm8 cd8 ct8 : Value}
    (a8 : PySem.W.nsIn K mainGlobals "_law_cell" = some (some (.ref f8))) (l8 : K.lookup f8 = some ⟨oc8, od8, .func (PySem.W.fnOf "_law_cell" "_law_cell" (defArgs s_law_cell) (defBody s_law_cell) (defScope s_law_cell) .none kV8 dc8 pm8 an8 cd8 ct8), sl8⟩) (c8 : PySem.W.codeIn K cd8 "_law_cell" = true) (k8 : PySem.W.keepIn K (.ref f8) = true)
    {f9 : Addr} {od9 an9 : Option Addr} {sl9 : Array (Option Value)} {oc9 kV9 dc9 pm9 cd9 ct9 : Value}
    (a9 : PySem.W.nsIn K mainGlobals "_law_digits" = some (some (.ref f9))) (l9 : K.lookup f9 = some ⟨oc9, od9, .func (PySem.W.fnOf "_law_digits" "_law_digits" (defArgs s_law_digits) (defBody s_law_digits) (defScope s_law_digits) .none kV9 dc9 pm9 an9 cd9 ct9), sl9⟩) (c9 : PySem.W.codeIn K cd9 "_law_digits" = true) (k9 : PySem.W.keepIn K (.ref f9) = true)
    {f10 : Addr} {od10 an10 : Option Addr} {sl10 : Array (Option Value)} {oc10 kV10 dc10 pm10 cd10 ct10 : Value}
    (a10 : PySem.W.nsIn K mainGlobals "_law_gcd" = some (some (.ref f10))) (l10 : K.lookup f10 = some ⟨oc10, od10, .func (PySem.W.fnOf "_law_gcd" "_law_gcd" (defArgs s_law_gcd) (defBody s_law_gcd) (defScope s_law_gcd) .none kV10 dc10 pm10 an10 cd10 ct10), sl10⟩) (c10 : PySem.W.codeIn K cd10 "_law_gcd" = true) (k10 : PySem.W.keepIn K (.ref f10) = true)
    {f11 : Addr} {od11 an11 : Option Addr} {sl11 : Array (Option Value)} {oc11 kV11 dc11 pm11 cd11 ct11 : Value}
    (a11 : PySem.W.nsIn K mainGlobals "_law_big" = some (some (.ref f11))) (l11 : K.lookup f11 = some ⟨oc11, od11, .func (PySem.W.fnOf "_law_big" "_law_big" (defArgs s_law_big) (defBody s_law_big) (defScope s_law_big) .none kV11 dc11 pm11 an11 cd11 ct11), sl11⟩) (c11 : PySem.W.codeIn K cd11 "_law_big" = true) (k11 : PySem.W.keepIn K (.ref f11) = true)
    {f12 : Addr} {od12 an12 : Option Addr} {sl12 : Array (Option Value)} {oc12 kV12 dc12 pm12 cd12 ct12 : Value}
    (a12 : PySem.W.nsIn K mainGlobals "middle" = some (some (.ref f12))) (l12 : K.lookup f12 = some ⟨oc12, od12, .func (PySem.W.fnOf "middle" "middle" (defArgs s_middle) (defBody s_middle) (defScope s_middle) .none kV12 dc12 pm12 an12 cd12 ct12), sl12⟩) (c12 : PySem.W.codeIn K cd12 "middle" = true) (k12 : PySem.W.keepIn K (.ref f12) = true)
    {f13 : Addr} {od13 an13 : Option Addr} {sl13 : Array (Option Value)} {oc13 kV13 dc13 pm13 cd13 ct13 : Value}
    (a13 : PySem.W.nsIn K mainGlobals "moved" = some (some (.ref f13))) (l13 : K.lookup f13 = some ⟨oc13, od13, .func (PySem.W.fnOf "moved" "moved" (defArgs s_moved) (defBody s_moved) (defScope s_moved) .none kV13 dc13 pm13 an13 cd13 ct13), sl13⟩) (c13 : PySem.W.codeIn K cd13 "moved" = true) (k13 : PySem.W.keepIn K (.ref f13) = true)
    {f14 : Addr} {od14 an14 : Option Addr} {sl14 : Array (Option Value)} {oc14 kV14 dc14 pm14 cd14 ct14 : Value}
    (a14 : PySem.W.nsIn K mainGlobals "mixed" = some (some (.ref f14))) (l14 : K.lookup f14 = some ⟨oc14, od14, .func (PySem.W.fnOf "mixed" "mixed" (defArgs s_mixed) (defBody s_mixed) (defScope s_mixed) .none kV14 dc14 pm14 an14 cd14 ct14), sl14⟩) (c14 : PySem.W.codeIn K cd14 "mixed" = true) (k14 : PySem.W.keepIn K (.ref f14) = true)
    {f15 : Addr} {od15 an15 : Option Addr} {sl15 : Array (Option Value)} {oc15 kV15 dc15 pm15 cd15 ct15 : Value}
    (a15 : PySem.W.nsIn K mainGlobals "product" = some (some (.ref f15))) (l15 : K.lookup f15 = some ⟨oc15, od15, .func (PySem.W.fnOf "product" "product" (defArgs s_product) (defBody s_product) (defScope s_product) .none kV15 dc15 pm15 an15 cd15 ct15), sl15⟩) (c15 : PySem.W.codeIn K cd15 "product" = true) (k15 : PySem.W.keepIn K (.ref f15) = true)
    {f16 : Addr} {od16 an16 : Option Addr} {sl16 : Array (Option Value)} {oc16 kV16 dc16 pm16 cd16 ct16 : Value}
    (a16 : PySem.W.nsIn K mainGlobals "difference" = some (some (.ref f16))) (l16 : K.lookup f16 = some ⟨oc16, od16, .func (PySem.W.fnOf "difference" "difference" (defArgs s_difference) (defBody s_difference) (defScope s_difference) .none kV16 dc16 pm16 an16 cd16 ct16), sl16⟩) (c16 : PySem.W.codeIn K cd16 "difference" = true) (k16 : PySem.W.keepIn K (.ref f16) = true)
    {f17 : Addr} {od17 an17 : Option Addr} {sl17 : Array (Option Value)} {oc17 kV17 dc17 pm17 cd17 ct17 : Value}
    (a17 : PySem.W.nsIn K mainGlobals "_law_reduced" = some (some (.ref f17))) (l17 : K.lookup f17 = some ⟨oc17, od17, .func (PySem.W.fnOf "_law_reduced" "_law_reduced" (defArgs s_law_reduced) (defBody s_law_reduced) (defScope s_law_reduced) .none kV17 dc17 pm17 an17 cd17 ct17), sl17⟩) (c17 : PySem.W.codeIn K cd17 "_law_reduced" = true) (k17 : PySem.W.keepIn K (.ref f17) = true)
    {f18 : Addr} {od18 an18 : Option Addr} {sl18 : Array (Option Value)} {oc18 kV18 dc18 pm18 cd18 ct18 : Value}
    (a18 : PySem.W.nsIn K mainGlobals "_law_fraction" = some (some (.ref f18))) (l18 : K.lookup f18 = some ⟨oc18, od18, .func (PySem.W.fnOf "_law_fraction" "_law_fraction" (defArgs s_law_fraction) (defBody s_law_fraction) (defScope s_law_fraction) .none kV18 dc18 pm18 an18 cd18 ct18), sl18⟩) (c18 : PySem.W.codeIn K cd18 "_law_fraction" = true) (k18 : PySem.W.keepIn K (.ref f18) = true)
    {f19 : Addr} {od19 an19 : Option Addr} {sl19 : Array (Option Value)} {oc19 kV19 dc19 pm19 cd19 ct19 : Value}
    (a19 : PySem.W.nsIn K mainGlobals "_law_is_place" = some (some (.ref f19))) (l19 : K.lookup f19 = some ⟨oc19, od19, .func (PySem.W.fnOf "_law_is_place" "_law_is_place" (defArgs s_law_is_place) (defBody s_law_is_place) (defScope s_law_is_place) .none kV19 dc19 pm19 an19 cd19 ct19), sl19⟩) (c19 : PySem.W.codeIn K cd19 "_law_is_place" = true) (k19 : PySem.W.keepIn K (.ref f19) = true)
    {f20 : Addr} {od20 an20 : Option Addr} {sl20 : Array (Option Value)} {oc20 kV20 dc20 pm20 cd20 ct20 : Value}
    (a20 : PySem.W.nsIn K mainGlobals "_law_short" = some (some (.ref f20))) (l20 : K.lookup f20 = some ⟨oc20, od20, .func (PySem.W.fnOf "_law_short" "_law_short" (defArgs s_law_short) (defBody s_law_short) (defScope s_law_short) .none kV20 dc20 pm20 an20 cd20 ct20), sl20⟩) (c20 : PySem.W.codeIn K cd20 "_law_short" = true) (k20 : PySem.W.keepIn K (.ref f20) = true)
    {f21 : Addr} {od21 an21 : Option Addr} {sl21 : Array (Option Value)} {oc21 kV21 dc21 pm21 cd21 ct21 : Value}
    (a21 : PySem.W.nsIn K mainGlobals "_law_drawn" = some (some (.ref f21))) (l21 : K.lookup f21 = some ⟨oc21, od21, .func (PySem.W.fnOf "_law_drawn" "_law_drawn" (defArgs s_law_drawn) (defBody s_law_drawn) (defScope s_law_drawn) .none kV21 dc21 pm21 an21 cd21 ct21), sl21⟩) (c21 : PySem.W.codeIn K cd21 "_law_drawn" = true) (k21 : PySem.W.keepIn K (.ref f21) = true)
    {f22 : Addr} {od22 an22 : Option Addr} {sl22 : Array (Option Value)} {oc22 kV22 dc22 pm22 cd22 ct22 : Value}
    (a22 : PySem.W.nsIn K mainGlobals "_law_no_point" = some (some (.ref f22))) (l22 : K.lookup f22 = some ⟨oc22, od22, .func (PySem.W.fnOf "_law_no_point" "_law_no_point" (defArgs s_law_no_point) (defBody s_law_no_point) (defScope s_law_no_point) .none kV22 dc22 pm22 an22 cd22 ct22), sl22⟩) (c22 : PySem.W.codeIn K cd22 "_law_no_point" = true) (k22 : PySem.W.keepIn K (.ref f22) = true)
    {f23 : Addr} {od23 an23 : Option Addr} {sl23 : Array (Option Value)} {oc23 kV23 dc23 pm23 cd23 ct23 : Value}
    (a23 : PySem.W.nsIn K mainGlobals "_law_near" = some (some (.ref f23))) (l23 : K.lookup f23 = some ⟨oc23, od23, .func (PySem.W.fnOf "_law_near" "_law_near" (defArgs s_law_near) (defBody s_law_near) (defScope s_law_near) .none kV23 dc23 pm23 an23 cd23 ct23), sl23⟩) (c23 : PySem.W.codeIn K cd23 "_law_near" = true) (k23 : PySem.W.keepIn K (.ref f23) = true)
    {f24 : Addr} {od24 an24 : Option Addr} {sl24 : Array (Option Value)} {oc24 kV24 dc24 pm24 cd24 ct24 : Value}
    (a24 : PySem.W.nsIn K mainGlobals "squared" = some (some (.ref f24))) (l24 : K.lookup f24 = some ⟨oc24, od24, .func (PySem.W.fnOf "squared" "squared" (defArgs s_squared) (defBody s_squared) (defScope s_squared) .none kV24 dc24 pm24 an24 cd24 ct24), sl24⟩) (c24 : PySem.W.codeIn K cd24 "squared" = true) (k24 : PySem.W.keepIn K (.ref f24) = true)
    {f25 : Addr} {od25 an25 : Option Addr} {sl25 : Array (Option Value)} {oc25 kV25 dc25 pm25 cd25 ct25 : Value}
    (a25 : PySem.W.nsIn K mainGlobals "compare_points" = some (some (.ref f25))) (l25 : K.lookup f25 = some ⟨oc25, od25, .func (PySem.W.fnOf "compare_points" "compare_points" (defArgs s_compare_points) (defBody s_compare_points) (defScope s_compare_points) .none kV25 dc25 pm25 an25 cd25 ct25), sl25⟩) (c25 : PySem.W.codeIn K cd25 "compare_points" = true) (k25 : PySem.W.keepIn K (.ref f25) = true)
    {f26 : Addr} {od26 an26 : Option Addr} {sl26 : Array (Option Value)} {oc26 kV26 dc26 pm26 cd26 ct26 : Value}
    (a26 : PySem.W.nsIn K mainGlobals "direction" = some (some (.ref f26))) (l26 : K.lookup f26 = some ⟨oc26, od26, .func (PySem.W.fnOf "direction" "direction" (defArgs s_direction) (defBody s_direction) (defScope s_direction) .none kV26 dc26 pm26 an26 cd26 ct26), sl26⟩) (c26 : PySem.W.codeIn K cd26 "direction" = true) (k26 : PySem.W.keepIn K (.ref f26) = true)
    {f27 : Addr} {od27 an27 : Option Addr} {sl27 : Array (Option Value)} {oc27 kV27 dc27 pm27 cd27 ct27 : Value}
    (a27 : PySem.W.nsIn K mainGlobals "_law_along" = some (some (.ref f27))) (l27 : K.lookup f27 = some ⟨oc27, od27, .func (PySem.W.fnOf "_law_along" "_law_along" (defArgs s_law_along) (defBody s_law_along) (defScope s_law_along) .none kV27 dc27 pm27 an27 cd27 ct27), sl27⟩) (c27 : PySem.W.codeIn K cd27 "_law_along" = true) (k27 : PySem.W.keepIn K (.ref f27) = true)
    {f28 : Addr} {od28 an28 : Option Addr} {sl28 : Array (Option Value)} {oc28 kV28 dc28 pm28 cd28 ct28 : Value}
    (a28 : PySem.W.nsIn K mainGlobals "_law_square" = some (some (.ref f28))) (l28 : K.lookup f28 = some ⟨oc28, od28, .func (PySem.W.fnOf "_law_square" "_law_square" (defArgs s_law_square) (defBody s_law_square) (defScope s_law_square) .none kV28 dc28 pm28 an28 cd28 ct28), sl28⟩) (c28 : PySem.W.codeIn K cd28 "_law_square" = true) (k28 : PySem.W.keepIn K (.ref f28) = true)
    {f29 : Addr} {od29 an29 : Option Addr} {sl29 : Array (Option Value)} {oc29 kV29 dc29 pm29 cd29 ct29 : Value}
    (a29 : PySem.W.nsIn K mainGlobals "_law_signed" = some (some (.ref f29))) (l29 : K.lookup f29 = some ⟨oc29, od29, .func (PySem.W.fnOf "_law_signed" "_law_signed" (defArgs s_law_signed) (defBody s_law_signed) (defScope s_law_signed) .none kV29 dc29 pm29 an29 cd29 ct29), sl29⟩) (c29 : PySem.W.codeIn K cd29 "_law_signed" = true) (k29 : PySem.W.keepIn K (.ref f29) = true)
    {f30 : Addr} {od30 an30 : Option Addr} {sl30 : Array (Option Value)} {oc30 kV30 dc30 pm30 cd30 ct30 : Value}
    (a30 : PySem.W.nsIn K mainGlobals "_law_mean" = some (some (.ref f30))) (l30 : K.lookup f30 = some ⟨oc30, od30, .func (PySem.W.fnOf "_law_mean" "_law_mean" (defArgs s_law_mean) (defBody s_law_mean) (defScope s_law_mean) .none kV30 dc30 pm30 an30 cd30 ct30), sl30⟩) (c30 : PySem.W.codeIn K cd30 "_law_mean" = true) (k30 : PySem.W.keepIn K (.ref f30) = true)
    {f31 : Addr} {od31 an31 : Option Addr} {sl31 : Array (Option Value)} {oc31 kV31 dc31 pm31 cd31 ct31 : Value}
    (a31 : PySem.W.nsIn K mainGlobals "_law_two" = some (some (.ref f31))) (l31 : K.lookup f31 = some ⟨oc31, od31, .func (PySem.W.fnOf "_law_two" "_law_two" (defArgs s_law_two) (defBody s_law_two) (defScope s_law_two) .none kV31 dc31 pm31 an31 cd31 ct31), sl31⟩) (c31 : PySem.W.codeIn K cd31 "_law_two" = true) (k31 : PySem.W.keepIn K (.ref f31) = true)
    {f32 : Addr} {od32 an32 : Option Addr} {sl32 : Array (Option Value)} {oc32 kV32 dc32 pm32 cd32 ct32 : Value}
    (a32 : PySem.W.nsIn K mainGlobals "law" = some (some (.ref f32))) (l32 : K.lookup f32 = some ⟨oc32, od32, .func (PySem.W.fnOf "law" "law" (defArgs s_law) (defBody s_law) (defScope s_law) .none kV32 dc32 pm32 an32 cd32 ct32), sl32⟩) (c32 : PySem.W.codeIn K cd32 "law" = true) (k32 : PySem.W.keepIn K (.ref f32) = true)
    (z_abs : PySem.W.nsIn K mainGlobals "abs" = some none)
    (z_all : PySem.W.nsIn K mainGlobals "all" = some none)
    (z_any : PySem.W.nsIn K mainGlobals "any" = some none)
    (z_bool : PySem.W.nsIn K mainGlobals "bool" = some none)
    (z_int : PySem.W.nsIn K mainGlobals "int" = some none)
    (z_isinstance : PySem.W.nsIn K mainGlobals "isinstance" = some none)
    (z_len : PySem.W.nsIn K mainGlobals "len" = some none)
    (z_list : PySem.W.nsIn K mainGlobals "list" = some none)
    (z_range : PySem.W.nsIn K mainGlobals "range" = some none)
    (z_sum : PySem.W.nsIn K mainGlobals "sum" = some none)
    (z_tuple : PySem.W.nsIn K mainGlobals "tuple" = some none)
    (z_zip : PySem.W.nsIn K mainGlobals "zip" = some none)
    (g_gcd : PySem.W.nsIn K mainGlobals "gcd" = some (some (.builtin "math.gcd")))
    : ∃ fd : FuncData, (∀ (s : Shared) (v : Value), BindsTo s fd ⟨[v], []⟩ [("script", v)]) ∧ ∀ base : Heap, K.In base → base.Ns mainGlobals mg → FnOk l.prog w K mg base (L2.CX l.prog w) 5 fa fd ["script"] (spOf K (clOf K none) 1 d_law) := by
  have e := hfa.symm.trans (PySem.W.mg_of X G a32)
  cases e
  obtain rfl : cA K "CalmError" = C_CalmError := by unfold cA; rw [aC_CalmError]
  obtain rfl : cA K "ZeroBottom" = C_ZeroBottom := by unfold cA; rw [aC_ZeroBottom]
  have F0 := fun_mk (st := s_plain) l0 c0 k0
  have b0 := F0.binds (ps := ["arrow"]) fun _ _ _ _ _ _ us hl => match us, hl with | [_], _ => rfl
  have F1 := fun_mk (st := s_is_zero) l1 c1 k1
  have b1 := F1.binds (ps := ["arrow"]) fun _ _ _ _ _ _ us hl => match us, hl with | [_], _ => rfl
  have F2 := fun_mk (st := s_ratio) l2 c2 k2
  have b2 := F2.binds (ps := ["top", "bottom"]) fun _ _ _ _ _ _ us hl => match us, hl with | [_, _], _ => rfl
  have F3 := fun_mk (st := s_point) l3 c3 k3
  have b3 := F3.binds (ps := ["numbers", "bottom"]) fun _ _ _ _ _ _ us hl => match us, hl with | [_, _], _ => rfl
  have F4 := fun_mk (st := s_home_point) l4 c4 k4
  have b4 := F4.binds (ps := ["home"]) fun _ _ _ _ _ _ us hl => match us, hl with | [_], _ => rfl
  have F5 := fun_mk (st := s_is_point) l5 c5 k5
  have b5 := F5.binds (ps := ["value", "dimension"]) fun _ _ _ _ _ _ us hl => match us, hl with | [_, _], _ => rfl
  have F6 := fun_mk (st := s_dimension_of) l6 c6 k6
  have b6 := F6.binds (ps := ["place"]) fun _ _ _ _ _ _ us hl => match us, hl with | [_], _ => rfl
  have F7 := fun_mk (st := s_law_whole) l7 c7 k7
  have b7 := F7.binds (ps := ["value"]) fun _ _ _ _ _ _ us hl => match us, hl with | [_], _ => rfl
  have F8 := fun_mk (st := s_law_cell) l8 c8 k8
  have b8 := F8.binds (ps := ["script", "k"]) fun _ _ _ _ _ _ us hl => match us, hl with | [_, _], _ => rfl
  have F9 := fun_mk (st := s_law_digits) l9 c9 k9
  have b9 := F9.binds (ps := ["cell", "sizes"]) fun _ _ _ _ _ _ us hl => match us, hl with | [_, _], _ => rfl
  have F10 := fun_mk (st := s_law_gcd) l10 c10 k10
  have b10 := F10.binds (ps := ["one", "other"]) fun _ _ _ _ _ _ us hl => match us, hl with | [_, _], _ => rfl
  have F11 := fun_mk (st := s_law_big) l11 c11 k11
  have b11 := F11.binds (ps := ["row"]) fun _ _ _ _ _ _ us hl => match us, hl with | [_], _ => rfl
  have F12 := fun_mk (st := s_middle) l12 c12 k12
  have b12 := F12.binds (ps := ["one", "two"]) fun _ _ _ _ _ _ us hl => match us, hl with | [_, _], _ => rfl
  have F13 := fun_mk (st := s_moved) l13 c13 k13
  have b13 := F13.binds (ps := ["place", "arrow", "share"]) fun _ _ _ _ _ _ us hl => match us, hl with | [_, _, _], _ => rfl
  have F14 := fun_mk (st := s_mixed) l14 c14 k14
  have b14 := F14.binds (ps := ["places", "shares"]) fun _ _ _ _ _ _ us hl => match us, hl with | [_, _], _ => rfl
  have F15 := fun_mk (st := s_product) l15 c15 k15
  have b15 := F15.binds (ps := ["arrow", "place"]) fun _ _ _ _ _ _ us hl => match us, hl with | [_, _], _ => rfl
  have F16 := fun_mk (st := s_difference) l16 c16 k16
  have b16 := F16.binds (ps := ["one", "two"]) fun _ _ _ _ _ _ us hl => match us, hl with | [_, _], _ => rfl
  have F17 := fun_mk (st := s_law_reduced) l17 c17 k17
  have b17 := F17.binds (ps := ["numbers", "bottom"]) fun _ _ _ _ _ _ us hl => match us, hl with | [_, _], _ => rfl
  have F18 := fun_mk (st := s_law_fraction) l18 c18 k18
  have b18 := F18.binds (ps := ["over_line", "under_line"]) fun _ _ _ _ _ _ us hl => match us, hl with | [_, _], _ => rfl
  have F19 := fun_mk (st := s_law_is_place) l19 c19 k19
  have b19 := F19.binds (ps := ["value", "size"]) fun _ _ _ _ _ _ us hl => match us, hl with | [_, _], _ => rfl
  have F20 := fun_mk (st := s_law_short) l20 c20 k20
  have b20 := F20.binds (ps := ["arrow"]) fun _ _ _ _ _ _ us hl => match us, hl with | [_], _ => rfl
  have F21 := fun_mk (st := s_law_drawn) l21 c21 k21
  have b21 := F21.binds (ps := ["cell", "size"]) fun _ _ _ _ _ _ us hl => match us, hl with | [_, _], _ => rfl
  have F22 := fun_mk (st := s_law_no_point) l22 c22 k22
  have b22 := F22.binds (ps := ["numbers"]) fun _ _ _ _ _ _ us hl => match us, hl with | [_], _ => rfl
  have F23 := fun_mk (st := s_law_near) l23 c23 k23
  have b23 := F23.binds (ps := ["place", "size", "row"]) fun _ _ _ _ _ _ us hl => match us, hl with | [_, _, _], _ => rfl
  have F24 := fun_mk (st := s_squared) l24 c24 k24
  have b24 := F24.binds (ps := ["one", "two"]) fun _ _ _ _ _ _ us hl => match us, hl with | [_, _], _ => rfl
  have F25 := fun_mk (st := s_compare_points) l25 c25 k25
  have b25 := F25.binds (ps := ["one", "two"]) fun _ _ _ _ _ _ us hl => match us, hl with | [_, _], _ => rfl
  have F26 := fun_mk (st := s_direction) l26 c26 k26
  have b26 := F26.binds (ps := ["one", "two"]) fun _ _ _ _ _ _ us hl => match us, hl with | [_, _], _ => rfl
  have F27 := fun_mk (st := s_law_along) l27 c27 k27
  have b27 := F27.binds (ps := ["arrow", "place"]) fun _ _ _ _ _ _ us hl => match us, hl with | [_, _], _ => rfl
  have F28 := fun_mk (st := s_law_square) l28 c28 k28
  have b28 := F28.binds (ps := ["one", "other"]) fun _ _ _ _ _ _ us hl => match us, hl with | [_, _], _ => rfl
  have F29 := fun_mk (st := s_law_signed) l29 c29 k29
  have b29 := F29.binds (ps := ["numbers", "bottom"]) fun _ _ _ _ _ _ us hl => match us, hl with | [_, _], _ => rfl
  have F30 := fun_mk (st := s_law_mean) l30 c30 k30
  have b30 := F30.binds (ps := ["places", "shares"]) fun _ _ _ _ _ _ us hl => match us, hl with | [_, _], _ => rfl
  have F31 := fun_mk (st := s_law_two) l31 c31 k31
  have b31 := F31.binds (ps := ["one", "other", "arrow", "share"]) fun _ _ _ _ _ _ us hl => match us, hl with | [_, _, _, _], _ => rfl
  have F32 := fun_mk (st := s_law) l32 c32 k32
  have b32 := F32.binds (ps := ["script"]) fun _ _ _ _ _ _ us hl => match us, hl with | [_], _ => rfl
  let T : Txt K mg := ⟨_, _, F0, PySem.W.mg_of X G a0, b0,
    _, _, F1, PySem.W.mg_of X G a1, b1,
    _, _, F2, PySem.W.mg_of X G a2, b2,
    _, _, F3, PySem.W.mg_of X G a3, b3,
    _, _, F4, PySem.W.mg_of X G a4, b4,
    _, _, F5, PySem.W.mg_of X G a5, b5,
    _, _, F6, PySem.W.mg_of X G a6, b6,
    _, _, F7, PySem.W.mg_of X G a7, b7,
    _, _, F8, PySem.W.mg_of X G a8, b8,
    _, _, F9, PySem.W.mg_of X G a9, b9,
    _, _, F10, PySem.W.mg_of X G a10, b10,
    _, _, F11, PySem.W.mg_of X G a11, b11,
    _, _, F12, PySem.W.mg_of X G a12, b12,
    _, _, F13, PySem.W.mg_of X G a13, b13,
    _, _, F14, PySem.W.mg_of X G a14, b14,
    _, _, F15, PySem.W.mg_of X G a15, b15,
    _, _, F16, PySem.W.mg_of X G a16, b16,
    _, _, F17, PySem.W.mg_of X G a17, b17,
    _, _, F18, PySem.W.mg_of X G a18, b18,
    _, _, F19, PySem.W.mg_of X G a19, b19,
    _, _, F20, PySem.W.mg_of X G a20, b20,
    _, _, F21, PySem.W.mg_of X G a21, b21,
    _, _, F22, PySem.W.mg_of X G a22, b22,
    _, _, F23, PySem.W.mg_of X G a23, b23,
    _, _, F24, PySem.W.mg_of X G a24, b24,
    _, _, F25, PySem.W.mg_of X G a25, b25,
    _, _, F26, PySem.W.mg_of X G a26, b26,
    _, _, F27, PySem.W.mg_of X G a27, b27,
    _, _, F28, PySem.W.mg_of X G a28, b28,
    _, _, F29, PySem.W.mg_of X G a29, b29,
    _, _, F30, PySem.W.mg_of X G a30, b30,
    _, _, F31, PySem.W.mg_of X G a31, b31,
    _, _, F32, PySem.W.mg_of X G a32, b32,
    PySem.W.mg_of X G aC_CalmError,
    PySem.W.mg_of X G aC_ZeroBottom,
    s_CalmError,
    t_CalmError,
    d_CalmError,
    q_ZeroBottom,
    kp_ZeroBottom,
    s_ZeroBottom,
    t_ZeroBottom,
    d_ZeroBottom,
    h1_ZeroBottom,
    h2_ZeroBottom,
    h3_ZeroBottom,
    h4_ZeroBottom,
    hn_,
    ht_,
    u_ZeroBottom_CalmError,
    kit_ZeroBottom_ZeroBottom,
    PySem.W.mg_none_of X G z_abs,
    PySem.W.mg_none_of X G z_all,
    PySem.W.mg_none_of X G z_any,
    PySem.W.mg_none_of X G z_bool,
    PySem.W.mg_none_of X G z_int,
    PySem.W.mg_none_of X G z_isinstance,
    PySem.W.mg_none_of X G z_len,
    PySem.W.mg_none_of X G z_list,
    PySem.W.mg_none_of X G z_range,
    PySem.W.mg_none_of X G z_sum,
    PySem.W.mg_none_of X G z_tuple,
    PySem.W.mg_none_of X G z_zip,
    PySem.W.mg_of X G g_gcd⟩
  exact ⟨PySem.W.fnOf "law" "law" (defArgs s_law) (defBody s_law) (defScope s_law) .none kV32 dc32 pm32 an32 cd32 ct32, fun s v => .of_eq rfl, fun base _ _ => ok_law T⟩
theorem walk {l : PySem.W.OpenLaw} {q : Program} {loose : List Str} {XP : (Str → Option Value) → Heap → Prop} {YP : World → Heap → Prop} {d : DefRec} {K : Params → PySem.W.Frag} (hn : l.most = some 63) (hdf : d.params.defaults = [])
    (hY : ∀ (w : World) (h : Heap), YP w h → (K w.params).In h)
    (F : ∀ (w : World) (mg : Str → Option Value) (fa : Addr) (h : Heap), (K w.params).In h → h.Ns mainGlobals mg → mg d.name = some (.ref fa) →
      ∃ fd : FuncData, (∀ (s : Shared) (u : Value), BindsTo s fd ⟨[u], []⟩ [("script", u)]) ∧ ∀ base : Heap, (K w.params).In base → base.Ns mainGlobals mg → FnOk l.prog w (K w.params) mg base (L2.CX l.prog w) 5 fa fd ["script"] (spOf (K w.params) (clOf (K w.params) none) 1 d_law))
    (good : ∀ ns : List Int, ns.length ≤ 63 → d_law [.scr ns] = .ok (.bl true)) :
    PySem.W.WalkO q loose XP YP l.row.toRowW d [] (fun f vs => PySem.call f vs) :=
  L2.walk_of (n := 63) (k := 5) (x := "script") (CX := fun w => L2.CX l.prog w) (sp := fun w => spOf (K w.params) (clOf (K w.params) none) 1 d_law) hn (by decide) hdf ⟨rfl, by decide, by decide⟩ hY F
    (fun w H a ns hl _ hS => ⟨H, [.scr ns], Same.refl _, .cons (.scr hS) .nil, rfl, by rw [good ns hl]; exact fun v F' H' _ r => by cases r; rfl⟩)
    fun _ _ _ _ _ z => by
      obtain ⟨_, _, _, _, _, _, _, _, _, _, _, _, z⟩ := z
      exact z.elim
end Cm
open PySem PySem.W PyProof.Rows in
set_option maxRecDepth 100000 in
set_option maxHeartbeats 0 in
theorem PySem.Challenge.cw_calmspot_k01_points_and_ways_holds : PySem.Challenge.rw_calmspot_k01_points_and_ways.Holds := by
  w_on; o_law; k_head; (case hw => w_witness2)
  k_fill
  refine Cm.walk (l := PySem.Challenge.rw_calmspot_k01_points_and_ways) rfl rfl (fun w h Y => PySem.W.kIn_of Y) ?F Cm.good
  case F =>
    intro w mg fa h KX G hmg
    refine' Cm.all_mk KX G hmg ?aC_CalmError ?aC_ZeroBottom ?s_CalmError ?t_CalmError ?d_CalmError ?q_ZeroBottom ?kp_ZeroBottom ?s_ZeroBottom ?t_ZeroBottom ?d_ZeroBottom ?h1_ZeroBottom ?h2_ZeroBottom ?h3_ZeroBottom ?h4_ZeroBottom ?hn_ ?ht_ ?u_ZeroBottom_CalmError ?kit_ZeroBottom_ZeroBottom ?a0 ?l0 ?c0 ?k0 ?a1 ?l1 ?c1 ?k1 ?a2 ?l2 ?c2 ?k2 ?a3 ?l3 ?c3 ?k3 ?a4 ?l4 ?c4 ?k4 ?a5 ?l5 ?c5 ?k5 ?a6 ?l6 ?c6 ?k6 ?a7 ?l7 ?c7 ?k7 ?a8 ?l8 ?c8 ?k8 ?a9 ?l9 ?c9 ?k9 ?a10 ?l10 ?c10 ?k10 ?a11 ?l11 ?c11 ?k11 ?a12 ?l12 ?c12 ?k12 ?a13 ?l13 ?c13 ?k13 ?a14 ?l14 ?c14 ?k14 ?a15 ?l15 ?c15 ?k15 ?a16 ?l16 ?c16 ?k16 ?a17 ?l17 ?c17 ?k17 ?a18 ?l18 ?c18 ?k18 ?a19 ?l19 ?c19 ?k19 ?a20 ?l20 ?c20 ?k20 ?a21 ?l21 ?c21 ?k21 ?a22 ?l22 ?c22 ?k22 ?a23 ?l23 ?c23 ?k23 ?a24 ?l24 ?c24 ?k24 ?a25 ?l25 ?c25 ?k25 ?a26 ?l26 ?c26 ?k26 ?a27 ?l27 ?c27 ?k27 ?a28 ?l28 ?c28 ?k28 ?a29 ?l29 ?c29 ?k29 ?a30 ?l30 ?c30 ?k30 ?a31 ?l31 ?c31 ?k31 ?a32 ?l32 ?c32 ?k32 ?z_abs ?z_all ?z_any ?z_bool ?z_int ?z_isinstance ?z_len ?z_list ?z_range ?z_sum ?z_tuple ?z_zip ?g_gcd
    (case aC_CalmError => k_is)
    (case aC_ZeroBottom => k_is)
    (case s_CalmError => k_is)
    (case t_CalmError => k_is)
    (case d_CalmError => k_is)
    (case q_ZeroBottom => k_exc)
    (case kp_ZeroBottom => k_is)
    (case s_ZeroBottom => k_is)
    (case t_ZeroBottom => k_is)
    (case d_ZeroBottom => k_is)
    (case h1_ZeroBottom => k_is)
    (case h2_ZeroBottom => k_is)
    (case h3_ZeroBottom => k_is)
    (case h4_ZeroBottom => k_is)
    (case hn_ => k_is)
    (case ht_ => k_is)
    (case u_ZeroBottom_CalmError => k_is)
    (case kit_ZeroBottom_ZeroBottom => kit_is)
    (case a0 => k_is)
    (case l0 => k_is)
    (case c0 => k_is)
    (case k0 => k_is)
    (case a1 => k_is)
    (case l1 => k_is)
    (case c1 => k_is)
    (case k1 => k_is)
    (case a2 => k_is)
    (case l2 => k_is)
    (case c2 => k_is)
    (case k2 => k_is)
    (case a3 => k_is)
    (case l3 => k_is)
    (case c3 => k_is)
    (case k3 => k_is)
    (case a4 => k_is)
    (case l4 => k_is)
    (case c4 => k_is)
    (case k4 => k_is)
    (case a5 => k_is)
    (case l5 => k_is)
    (case c5 => k_is)
    (case k5 => k_is)
    (case a6 => k_is)
    (case l6 => k_is)
    (case c6 => k_is)
    (case k6 => k_is)
    (case a7 => k_is)
    (case l7 => k_is)
    (case c7 => k_is)
    (case k7 => k_is)
    (case a8 => k_is)
    (case l8 => k_is)
    (case c8 => k_is)
    (case k8 => k_is)
    (case a9 => k_is)
    (case l9 => k_is)
    (case c9 => k_is)
    (case k9 => k_is)
    (case a10 => k_is)
    (case l10 => k_is)
    (case c10 => k_is)
    (case k10 => k_is)
    (case a11 => k_is)
    (case l11 => k_is)
    (case c11 => k_is)
    (case k11 => k_is)
    (case a12 => k_is)
    (case l12 => k_is)
    (case c12 => k_is)
    (case k12 => k_is)
    (case a13 => k_is)
    (case l13 => k_is)
    (case c13 => k_is)
    (case k13 => k_is)
    (case a14 => k_is)
    (case l14 => k_is)
    (case c14 => k_is)
    (case k14 => k_is)
    (case a15 => k_is)
    (case l15 => k_is)
    (case c15 => k_is)
    (case k15 => k_is)
    (case a16 => k_is)
    (case l16 => k_is)
    (case c16 => k_is)
    (case k16 => k_is)
    (case a17 => k_is)
    (case l17 => k_is)
    (case c17 => k_is)
    (case k17 => k_is)
    (case a18 => k_is)
    (case l18 => k_is)
    (case c18 => k_is)
    (case k18 => k_is)
    (case a19 => k_is)
    (case l19 => k_is)
    (case c19 => k_is)
    (case k19 => k_is)
    (case a20 => k_is)
    (case l20 => k_is)
    (case c20 => k_is)
    (case k20 => k_is)
    (case a21 => k_is)
    (case l21 => k_is)
    (case c21 => k_is)
    (case k21 => k_is)
    (case a22 => k_is)
    (case l22 => k_is)
    (case c22 => k_is)
    (case k22 => k_is)
    (case a23 => k_is)
    (case l23 => k_is)
    (case c23 => k_is)
    (case k23 => k_is)
    (case a24 => k_is)
    (case l24 => k_is)
    (case c24 => k_is)
    (case k24 => k_is)
    (case a25 => k_is)
    (case l25 => k_is)
    (case c25 => k_is)
    (case k25 => k_is)
    (case a26 => k_is)
    (case l26 => k_is)
    (case c26 => k_is)
    (case k26 => k_is)
    (case a27 => k_is)
    (case l27 => k_is)
    (case c27 => k_is)
    (case k27 => k_is)
    (case a28 => k_is)
    (case l28 => k_is)
    (case c28 => k_is)
    (case k28 => k_is)
    (case a29 => k_is)
    (case l29 => k_is)
    (case c29 => k_is)
    (case k29 => k_is)
    (case a30 => k_is)
    (case l30 => k_is)
    (case c30 => k_is)
    (case k30 => k_is)
    (case a31 => k_is)
    (case l31 => k_is)
    (case c31 => k_is)
    (case k31 => k_is)
    (case a32 => k_is)
    (case l32 => k_is)
    (case c32 => k_is)
    (case k32 => k_is)
    (case z_abs => k_is)
    (case z_all => k_is)
    (case z_any => k_is)
    (case z_bool => k_is)
    (case z_int => k_is)
    (case z_isinstance => k_is)
    (case z_len => k_is)
    (case z_list => k_is)
    (case z_range => k_is)
    (case z_sum => k_is)
    (case z_tuple => k_is)
    (case z_zip => k_is)
    (case g_gcd => k_is)
